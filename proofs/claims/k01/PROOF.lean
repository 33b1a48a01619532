import PyProof.Rows.All
import Wide.All
import OpenK.AllK
import Wide.FinOn
import HandS.ForMost
import HandS.Exc
import HandS.TryOnly
import HandS.ExcOwn
import HandS.WordsExc
import HandS.ExcInit
import HandS.ExcValue
import HandS.ExcField
import HandS.Dict
import HandS.Wide
import HandS.Gcd
import HandS.IsInst
import HandS.TupLe
import HandS.Flow
import HandS.WideBits
import HandS.Deep
import PyProof.P3In
import HandS.Zip
import HandS.Rev
import HandS.Comp
import HandS.ExcIs
import HandS.MakeKwOnly
import KE.KExcIs
import PySem.Challenge.RW_drawarms_k01_errors_each_of_its_own
import KE.KStateDown
import HandS.Head0
import HandS.Head1
import HandS.Head2
import HandS.HeadEnd
import HandS.HeadHook1
import HandS.HeadHook2
set_option Elab.async false
set_option linter.all false
set_option maxRecDepth 100000
set_option maxHeartbeats 0
set_option autoImplicit false
namespace L01
open PySem L2
def top (i : Nat) : Stmt := PySem.Challenge.pw_drawarms_k01_errors_each_of_its_own.main.body.getD i (.Pass ⟨0, 0, 0, 0⟩)
abbrev s_law_tank : Stmt := top 55
abbrev s_law_draw : Stmt := top 56
abbrev s_law_pick : Stmt := top 57
abbrev s_law_number : Stmt := top 58
abbrev s_law_with_given : Stmt := top 59
abbrev s_law_with_given_named : Stmt := top 60
abbrev s_law_with_index : Stmt := top 61
abbrev s_law_with_index_named : Stmt := top 62
abbrev s_law_bare : Stmt := top 63
abbrev s_law_marks : Stmt := top 64
abbrev s_law_is_under : Stmt := top 65
abbrev s_law_stand : Stmt := top 66
abbrev s_law_thing : Stmt := top 67
abbrev s_law_right : Stmt := top 68
abbrev slaw : Stmt := top 69
abbrev i_InvalidComplex : Stmt := inClass (top 2) 0
abbrev i_InvalidNumbers : Stmt := inClass (top 3) 0
abbrev i_InvalidPlace : Stmt := inClass (top 4) 0
abbrev i_InvalidRatio : Stmt := inClass (top 5) 0
abbrev i_InvalidRow : Stmt := inClass (top 6) 0
abbrev i_InvalidRound : Stmt := inClass (top 7) 0
abbrev i_InvalidLine : Stmt := inClass (top 8) 0
abbrev i_InvalidMap : Stmt := inClass (top 9) 0
abbrev i_InvalidFlag : Stmt := inClass (top 10) 0
abbrev i_InvalidNumber : Stmt := inClass (top 11) 0
abbrev i_InvalidCell : Stmt := inClass (top 12) 0
abbrev i_InvalidHand : Stmt := inClass (top 13) 0
abbrev i_InvalidMirrorRow : Stmt := inClass (top 14) 0
abbrev i_InvalidRing : Stmt := inClass (top 15) 0
abbrev i_InvalidExponents : Stmt := inClass (top 16) 0
abbrev i_InvalidSize : Stmt := inClass (top 17) 0
abbrev i_InvalidStage : Stmt := inClass (top 18) 0
abbrev i_InvalidIndex : Stmt := inClass (top 19) 0
abbrev i_InvalidPart : Stmt := inClass (top 20) 0
abbrev i_InvalidValue : Stmt := inClass (top 21) 0
abbrev i_InvalidName : Stmt := inClass (top 22) 0
abbrev i_InvalidWish : Stmt := inClass (top 23) 0
abbrev i_InvalidPhrase : Stmt := inClass (top 24) 0
abbrev i_InvalidLot : Stmt := inClass (top 25) 0
abbrev i_InvalidFraction : Stmt := inClass (top 26) 0
abbrev i_InvalidSign : Stmt := inClass (top 27) 0
abbrev i_InvalidArc : Stmt := inClass (top 28) 0
abbrev i_NotALot : Stmt := inClass (top 29) 0
abbrev i_NotAWorkshop : Stmt := inClass (top 30) 0
abbrev i_NoMeeting : Stmt := inClass (top 31) 0
abbrev i_NoLink : Stmt := inClass (top 32) 0
abbrev i_OnCurve : Stmt := inClass (top 33) 0
abbrev i_Same : Stmt := inClass (top 34) 0
abbrev i_TooMany : Stmt := inClass (top 35) 0
abbrev i_UnknownName : Stmt := inClass (top 36) 0
abbrev i_InvalidTriple : Stmt := inClass (top 37) 0
abbrev i_InvalidArm : Stmt := inClass (top 38) 0
abbrev i_InvalidRounds : Stmt := inClass (top 39) 0
abbrev i_InvalidCurve : Stmt := inClass (top 40) 0
abbrev i_InvalidTests : Stmt := inClass (top 41) 0
abbrev i_InvalidStock : Stmt := inClass (top 42) 0
abbrev i_InvalidKinds : Stmt := inClass (top 43) 0
abbrev i_InUse : Stmt := inClass (top 44) 0
abbrev i_Broken : Stmt := inClass (top 45) 0
end L01
namespace DL
open PySem L2 PySem.W
def clsB (K : Frag) (C : Addr) : Bool := match K.lookup C with
  | some ⟨.type "type", _, .cls cd, sl⟩ => (match cd.mro, sl.toList with
    | .ref C' :: bm, [_, _, _, _, some (.builtin n), _] => C' == C && n == "ValueError.__new__" && !cd.hasDel && cd.hasDict && PySem.HandSPX.refsVE bm
    | _, _ => false)
  | _ => false
def initB (K : Frag) (C : Addr) (f : Str) (fI : Addr) : Bool := clsB K C && (decide (findIn K (.ref C) "__setattr__" = some (some (.builtin "object.__setattr__"))) && (decide (subIn K (.ref C) (.type "BaseException") = some true) && (decide (typeIn K (.ref C) = some (.type "type")) &&
  (keepIn K (.ref C) && (decide (findIn K (.ref C) "__init__" = some (some (.ref fI))) && (decide (typeIn K (.ref fI) = some (.type "function")) && (decide (findIn K (.ref C) f = some none) && keepIn K (.ref fI))))))))
def excB (K : Frag) (C : Addr) : Bool := xfB K C && (decide (findIn K (.ref C) "__class__" = some (some (.builtin "object.__class__"))) && (decide (specialIn K (.builtin "object.__class__") "__get__" = some (some (.builtin "getset_descriptor.__get__"))) && (decide (takesIn K (.builtin "object.__class__") = some true) && decide (mroIn K C (.type "object") = some true))))
/-- the class at C: its mro, its kind -/
def mroB (K : Frag) (C : Addr) (l : List Value) : Bool := decide ((clsIn K C).map (·.mro) = some l) && decide (typeIn K (.ref C) = some (.type "type"))
end DL
namespace L01
open PySem L2 DL PySem.W
def mroL (a : Nat → Addr) (i : Nat) : List Value := (if i = 0 then [] else [.ref (a i)]) ++ (.ref (a 0) :: PySem.HandSPX.veTail)
end L01
section
namespace L01
open PySem L2 DL
def clsNames : List Str := (["ArmError", "InvalidComplex", "InvalidNumbers", "InvalidPlace", "InvalidRatio", "InvalidRow", "InvalidRound", "InvalidLine", "InvalidMap", "InvalidFlag", "InvalidNumber", "InvalidCell", "InvalidHand", "InvalidMirrorRow", "InvalidRing", "InvalidExponents", "InvalidSize", "InvalidStage", "InvalidIndex", "InvalidPart", "InvalidValue", "InvalidName", "InvalidWish", "InvalidPhrase", "InvalidLot", "InvalidFraction", "InvalidSign", "InvalidArc", "NotALot", "NotAWorkshop"] : List Str) ++ (["NoMeeting", "NoLink", "OnCurve", "Same", "TooMany", "UnknownName", "InvalidTriple", "InvalidArm", "InvalidRounds", "InvalidCurve", "InvalidTests", "InvalidStock", "InvalidKinds", "InUse", "Broken", "NoPlace", "NoMap", "NoMapFits", "NoRowFits", "NotClosed", "NotSimple", "Meets", "NothingToUndo"] : List Str)
def adrs (K : PySem.W.Frag) : List Addr := clsNames.map (He.ga K)
def ad (K : PySem.W.Frag) (i : Nat) : Addr := He.ga K (clsNames.getD i Str.empty)
def fldOf (i : Nat) : Str := if i < 36 then "given" else "index"
def chkI (K : PySem.W.Frag) (i : Nat) : Bool := if 1 ≤ i ∧ i ≤ 44 then initB K (ad K i) (fldOf i) (He.ma K (ad K i) "__init__") else PySem.W.excIn K (ad K i) PySem.HandSPX.veTail "ValueError.__new__" && PySem.W.keepIn K (.ref (ad K i))
theorem si_InvalidComplex : FnScope ["self", "given"] ["self", "given"] (defScope i_InvalidComplex) := ⟨rfl, rfl, rfl, by decide +kernel, rfl, by decide +kernel, by decide +kernel⟩
def q_InvalidComplex : He.DefD := ⟨("InvalidComplex", some "__init__"), "__init__", "InvalidComplex.__init__", defArgs i_InvalidComplex, defBody i_InvalidComplex, defScope i_InvalidComplex, [], []⟩
theorem si_InvalidNumbers : FnScope ["self", "given"] ["self", "given"] (defScope i_InvalidNumbers) := ⟨rfl, rfl, rfl, by decide +kernel, rfl, by decide +kernel, by decide +kernel⟩
def q_InvalidNumbers : He.DefD := ⟨("InvalidNumbers", some "__init__"), "__init__", "InvalidNumbers.__init__", defArgs i_InvalidNumbers, defBody i_InvalidNumbers, defScope i_InvalidNumbers, [], []⟩
theorem si_InvalidPlace : FnScope ["self", "given"] ["self", "given"] (defScope i_InvalidPlace) := ⟨rfl, rfl, rfl, by decide +kernel, rfl, by decide +kernel, by decide +kernel⟩
def q_InvalidPlace : He.DefD := ⟨("InvalidPlace", some "__init__"), "__init__", "InvalidPlace.__init__", defArgs i_InvalidPlace, defBody i_InvalidPlace, defScope i_InvalidPlace, [], []⟩
theorem si_InvalidRatio : FnScope ["self", "given"] ["self", "given"] (defScope i_InvalidRatio) := ⟨rfl, rfl, rfl, by decide +kernel, rfl, by decide +kernel, by decide +kernel⟩
def q_InvalidRatio : He.DefD := ⟨("InvalidRatio", some "__init__"), "__init__", "InvalidRatio.__init__", defArgs i_InvalidRatio, defBody i_InvalidRatio, defScope i_InvalidRatio, [], []⟩
theorem si_InvalidRow : FnScope ["self", "given"] ["self", "given"] (defScope i_InvalidRow) := ⟨rfl, rfl, rfl, by decide +kernel, rfl, by decide +kernel, by decide +kernel⟩
def q_InvalidRow : He.DefD := ⟨("InvalidRow", some "__init__"), "__init__", "InvalidRow.__init__", defArgs i_InvalidRow, defBody i_InvalidRow, defScope i_InvalidRow, [], []⟩
theorem si_InvalidRound : FnScope ["self", "given"] ["self", "given"] (defScope i_InvalidRound) := ⟨rfl, rfl, rfl, by decide +kernel, rfl, by decide +kernel, by decide +kernel⟩
def q_InvalidRound : He.DefD := ⟨("InvalidRound", some "__init__"), "__init__", "InvalidRound.__init__", defArgs i_InvalidRound, defBody i_InvalidRound, defScope i_InvalidRound, [], []⟩
theorem si_InvalidLine : FnScope ["self", "given"] ["self", "given"] (defScope i_InvalidLine) := ⟨rfl, rfl, rfl, by decide +kernel, rfl, by decide +kernel, by decide +kernel⟩
def q_InvalidLine : He.DefD := ⟨("InvalidLine", some "__init__"), "__init__", "InvalidLine.__init__", defArgs i_InvalidLine, defBody i_InvalidLine, defScope i_InvalidLine, [], []⟩
theorem si_InvalidMap : FnScope ["self", "given"] ["self", "given"] (defScope i_InvalidMap) := ⟨rfl, rfl, rfl, by decide +kernel, rfl, by decide +kernel, by decide +kernel⟩
def q_InvalidMap : He.DefD := ⟨("InvalidMap", some "__init__"), "__init__", "InvalidMap.__init__", defArgs i_InvalidMap, defBody i_InvalidMap, defScope i_InvalidMap, [], []⟩
theorem si_InvalidFlag : FnScope ["self", "given"] ["self", "given"] (defScope i_InvalidFlag) := ⟨rfl, rfl, rfl, by decide +kernel, rfl, by decide +kernel, by decide +kernel⟩
def q_InvalidFlag : He.DefD := ⟨("InvalidFlag", some "__init__"), "__init__", "InvalidFlag.__init__", defArgs i_InvalidFlag, defBody i_InvalidFlag, defScope i_InvalidFlag, [], []⟩
theorem si_InvalidNumber : FnScope ["self", "given"] ["self", "given"] (defScope i_InvalidNumber) := ⟨rfl, rfl, rfl, by decide +kernel, rfl, by decide +kernel, by decide +kernel⟩
def q_InvalidNumber : He.DefD := ⟨("InvalidNumber", some "__init__"), "__init__", "InvalidNumber.__init__", defArgs i_InvalidNumber, defBody i_InvalidNumber, defScope i_InvalidNumber, [], []⟩
theorem si_InvalidCell : FnScope ["self", "given"] ["self", "given"] (defScope i_InvalidCell) := ⟨rfl, rfl, rfl, by decide +kernel, rfl, by decide +kernel, by decide +kernel⟩
def q_InvalidCell : He.DefD := ⟨("InvalidCell", some "__init__"), "__init__", "InvalidCell.__init__", defArgs i_InvalidCell, defBody i_InvalidCell, defScope i_InvalidCell, [], []⟩
theorem si_InvalidHand : FnScope ["self", "given"] ["self", "given"] (defScope i_InvalidHand) := ⟨rfl, rfl, rfl, by decide +kernel, rfl, by decide +kernel, by decide +kernel⟩
def q_InvalidHand : He.DefD := ⟨("InvalidHand", some "__init__"), "__init__", "InvalidHand.__init__", defArgs i_InvalidHand, defBody i_InvalidHand, defScope i_InvalidHand, [], []⟩
theorem si_InvalidMirrorRow : FnScope ["self", "given"] ["self", "given"] (defScope i_InvalidMirrorRow) := ⟨rfl, rfl, rfl, by decide +kernel, rfl, by decide +kernel, by decide +kernel⟩
def q_InvalidMirrorRow : He.DefD := ⟨("InvalidMirrorRow", some "__init__"), "__init__", "InvalidMirrorRow.__init__", defArgs i_InvalidMirrorRow, defBody i_InvalidMirrorRow, defScope i_InvalidMirrorRow, [], []⟩
theorem si_InvalidRing : FnScope ["self", "given"] ["self", "given"] (defScope i_InvalidRing) := ⟨rfl, rfl, rfl, by decide +kernel, rfl, by decide +kernel, by decide +kernel⟩
def q_InvalidRing : He.DefD := ⟨("InvalidRing", some "__init__"), "__init__", "InvalidRing.__init__", defArgs i_InvalidRing, defBody i_InvalidRing, defScope i_InvalidRing, [], []⟩
theorem si_InvalidExponents : FnScope ["self", "given"] ["self", "given"] (defScope i_InvalidExponents) := ⟨rfl, rfl, rfl, by decide +kernel, rfl, by decide +kernel, by decide +kernel⟩
def q_InvalidExponents : He.DefD := ⟨("InvalidExponents", some "__init__"), "__init__", "InvalidExponents.__init__", defArgs i_InvalidExponents, defBody i_InvalidExponents, defScope i_InvalidExponents, [], []⟩
theorem si_InvalidSize : FnScope ["self", "given"] ["self", "given"] (defScope i_InvalidSize) := ⟨rfl, rfl, rfl, by decide +kernel, rfl, by decide +kernel, by decide +kernel⟩
def q_InvalidSize : He.DefD := ⟨("InvalidSize", some "__init__"), "__init__", "InvalidSize.__init__", defArgs i_InvalidSize, defBody i_InvalidSize, defScope i_InvalidSize, [], []⟩
theorem si_InvalidStage : FnScope ["self", "given"] ["self", "given"] (defScope i_InvalidStage) := ⟨rfl, rfl, rfl, by decide +kernel, rfl, by decide +kernel, by decide +kernel⟩
def q_InvalidStage : He.DefD := ⟨("InvalidStage", some "__init__"), "__init__", "InvalidStage.__init__", defArgs i_InvalidStage, defBody i_InvalidStage, defScope i_InvalidStage, [], []⟩
theorem si_InvalidIndex : FnScope ["self", "given"] ["self", "given"] (defScope i_InvalidIndex) := ⟨rfl, rfl, rfl, by decide +kernel, rfl, by decide +kernel, by decide +kernel⟩
def q_InvalidIndex : He.DefD := ⟨("InvalidIndex", some "__init__"), "__init__", "InvalidIndex.__init__", defArgs i_InvalidIndex, defBody i_InvalidIndex, defScope i_InvalidIndex, [], []⟩
theorem si_InvalidPart : FnScope ["self", "given"] ["self", "given"] (defScope i_InvalidPart) := ⟨rfl, rfl, rfl, by decide +kernel, rfl, by decide +kernel, by decide +kernel⟩
def q_InvalidPart : He.DefD := ⟨("InvalidPart", some "__init__"), "__init__", "InvalidPart.__init__", defArgs i_InvalidPart, defBody i_InvalidPart, defScope i_InvalidPart, [], []⟩
theorem si_InvalidValue : FnScope ["self", "given"] ["self", "given"] (defScope i_InvalidValue) := ⟨rfl, rfl, rfl, by decide +kernel, rfl, by decide +kernel, by decide +kernel⟩
def q_InvalidValue : He.DefD := ⟨("InvalidValue", some "__init__"), "__init__", "InvalidValue.__init__", defArgs i_InvalidValue, defBody i_InvalidValue, defScope i_InvalidValue, [], []⟩
theorem si_InvalidName : FnScope ["self", "given"] ["self", "given"] (defScope i_InvalidName) := ⟨rfl, rfl, rfl, by decide +kernel, rfl, by decide +kernel, by decide +kernel⟩
def q_InvalidName : He.DefD := ⟨("InvalidName", some "__init__"), "__init__", "InvalidName.__init__", defArgs i_InvalidName, defBody i_InvalidName, defScope i_InvalidName, [], []⟩
theorem si_InvalidWish : FnScope ["self", "given"] ["self", "given"] (defScope i_InvalidWish) := ⟨rfl, rfl, rfl, by decide +kernel, rfl, by decide +kernel, by decide +kernel⟩
def q_InvalidWish : He.DefD := ⟨("InvalidWish", some "__init__"), "__init__", "InvalidWish.__init__", defArgs i_InvalidWish, defBody i_InvalidWish, defScope i_InvalidWish, [], []⟩
theorem si_InvalidPhrase : FnScope ["self", "given"] ["self", "given"] (defScope i_InvalidPhrase) := ⟨rfl, rfl, rfl, by decide +kernel, rfl, by decide +kernel, by decide +kernel⟩
def q_InvalidPhrase : He.DefD := ⟨("InvalidPhrase", some "__init__"), "__init__", "InvalidPhrase.__init__", defArgs i_InvalidPhrase, defBody i_InvalidPhrase, defScope i_InvalidPhrase, [], []⟩
theorem si_InvalidLot : FnScope ["self", "given"] ["self", "given"] (defScope i_InvalidLot) := ⟨rfl, rfl, rfl, by decide +kernel, rfl, by decide +kernel, by decide +kernel⟩
def q_InvalidLot : He.DefD := ⟨("InvalidLot", some "__init__"), "__init__", "InvalidLot.__init__", defArgs i_InvalidLot, defBody i_InvalidLot, defScope i_InvalidLot, [], []⟩
theorem si_InvalidFraction : FnScope ["self", "given"] ["self", "given"] (defScope i_InvalidFraction) := ⟨rfl, rfl, rfl, by decide +kernel, rfl, by decide +kernel, by decide +kernel⟩
def q_InvalidFraction : He.DefD := ⟨("InvalidFraction", some "__init__"), "__init__", "InvalidFraction.__init__", defArgs i_InvalidFraction, defBody i_InvalidFraction, defScope i_InvalidFraction, [], []⟩
theorem si_InvalidSign : FnScope ["self", "given"] ["self", "given"] (defScope i_InvalidSign) := ⟨rfl, rfl, rfl, by decide +kernel, rfl, by decide +kernel, by decide +kernel⟩
def q_InvalidSign : He.DefD := ⟨("InvalidSign", some "__init__"), "__init__", "InvalidSign.__init__", defArgs i_InvalidSign, defBody i_InvalidSign, defScope i_InvalidSign, [], []⟩
theorem si_InvalidArc : FnScope ["self", "given"] ["self", "given"] (defScope i_InvalidArc) := ⟨rfl, rfl, rfl, by decide +kernel, rfl, by decide +kernel, by decide +kernel⟩
def q_InvalidArc : He.DefD := ⟨("InvalidArc", some "__init__"), "__init__", "InvalidArc.__init__", defArgs i_InvalidArc, defBody i_InvalidArc, defScope i_InvalidArc, [], []⟩
theorem si_NotALot : FnScope ["self", "given"] ["self", "given"] (defScope i_NotALot) := ⟨rfl, rfl, rfl, by decide +kernel, rfl, by decide +kernel, by decide +kernel⟩
def q_NotALot : He.DefD := ⟨("NotALot", some "__init__"), "__init__", "NotALot.__init__", defArgs i_NotALot, defBody i_NotALot, defScope i_NotALot, [], []⟩
theorem si_NotAWorkshop : FnScope ["self", "given"] ["self", "given"] (defScope i_NotAWorkshop) := ⟨rfl, rfl, rfl, by decide +kernel, rfl, by decide +kernel, by decide +kernel⟩
def q_NotAWorkshop : He.DefD := ⟨("NotAWorkshop", some "__init__"), "__init__", "NotAWorkshop.__init__", defArgs i_NotAWorkshop, defBody i_NotAWorkshop, defScope i_NotAWorkshop, [], []⟩
theorem si_NoMeeting : FnScope ["self", "given"] ["self", "given"] (defScope i_NoMeeting) := ⟨rfl, rfl, rfl, by decide +kernel, rfl, by decide +kernel, by decide +kernel⟩
def q_NoMeeting : He.DefD := ⟨("NoMeeting", some "__init__"), "__init__", "NoMeeting.__init__", defArgs i_NoMeeting, defBody i_NoMeeting, defScope i_NoMeeting, [], []⟩
theorem si_NoLink : FnScope ["self", "given"] ["self", "given"] (defScope i_NoLink) := ⟨rfl, rfl, rfl, by decide +kernel, rfl, by decide +kernel, by decide +kernel⟩
def q_NoLink : He.DefD := ⟨("NoLink", some "__init__"), "__init__", "NoLink.__init__", defArgs i_NoLink, defBody i_NoLink, defScope i_NoLink, [], []⟩
theorem si_OnCurve : FnScope ["self", "given"] ["self", "given"] (defScope i_OnCurve) := ⟨rfl, rfl, rfl, by decide +kernel, rfl, by decide +kernel, by decide +kernel⟩
def q_OnCurve : He.DefD := ⟨("OnCurve", some "__init__"), "__init__", "OnCurve.__init__", defArgs i_OnCurve, defBody i_OnCurve, defScope i_OnCurve, [], []⟩
theorem si_Same : FnScope ["self", "given"] ["self", "given"] (defScope i_Same) := ⟨rfl, rfl, rfl, by decide +kernel, rfl, by decide +kernel, by decide +kernel⟩
def q_Same : He.DefD := ⟨("Same", some "__init__"), "__init__", "Same.__init__", defArgs i_Same, defBody i_Same, defScope i_Same, [], []⟩
theorem si_TooMany : FnScope ["self", "given"] ["self", "given"] (defScope i_TooMany) := ⟨rfl, rfl, rfl, by decide +kernel, rfl, by decide +kernel, by decide +kernel⟩
def q_TooMany : He.DefD := ⟨("TooMany", some "__init__"), "__init__", "TooMany.__init__", defArgs i_TooMany, defBody i_TooMany, defScope i_TooMany, [], []⟩
theorem si_UnknownName : FnScope ["self", "given"] ["self", "given"] (defScope i_UnknownName) := ⟨rfl, rfl, rfl, by decide +kernel, rfl, by decide +kernel, by decide +kernel⟩
def q_UnknownName : He.DefD := ⟨("UnknownName", some "__init__"), "__init__", "UnknownName.__init__", defArgs i_UnknownName, defBody i_UnknownName, defScope i_UnknownName, [], []⟩
theorem si_InvalidTriple : FnScope ["self", "index"] ["self", "index"] (defScope i_InvalidTriple) := ⟨rfl, rfl, rfl, by decide +kernel, rfl, by decide +kernel, by decide +kernel⟩
def q_InvalidTriple : He.DefD := ⟨("InvalidTriple", some "__init__"), "__init__", "InvalidTriple.__init__", defArgs i_InvalidTriple, defBody i_InvalidTriple, defScope i_InvalidTriple, [], []⟩
theorem si_InvalidArm : FnScope ["self", "index"] ["self", "index"] (defScope i_InvalidArm) := ⟨rfl, rfl, rfl, by decide +kernel, rfl, by decide +kernel, by decide +kernel⟩
def q_InvalidArm : He.DefD := ⟨("InvalidArm", some "__init__"), "__init__", "InvalidArm.__init__", defArgs i_InvalidArm, defBody i_InvalidArm, defScope i_InvalidArm, [], []⟩
theorem si_InvalidRounds : FnScope ["self", "index"] ["self", "index"] (defScope i_InvalidRounds) := ⟨rfl, rfl, rfl, by decide +kernel, rfl, by decide +kernel, by decide +kernel⟩
def q_InvalidRounds : He.DefD := ⟨("InvalidRounds", some "__init__"), "__init__", "InvalidRounds.__init__", defArgs i_InvalidRounds, defBody i_InvalidRounds, defScope i_InvalidRounds, [], []⟩
theorem si_InvalidCurve : FnScope ["self", "index"] ["self", "index"] (defScope i_InvalidCurve) := ⟨rfl, rfl, rfl, by decide +kernel, rfl, by decide +kernel, by decide +kernel⟩
def q_InvalidCurve : He.DefD := ⟨("InvalidCurve", some "__init__"), "__init__", "InvalidCurve.__init__", defArgs i_InvalidCurve, defBody i_InvalidCurve, defScope i_InvalidCurve, [], []⟩
theorem si_InvalidTests : FnScope ["self", "index"] ["self", "index"] (defScope i_InvalidTests) := ⟨rfl, rfl, rfl, by decide +kernel, rfl, by decide +kernel, by decide +kernel⟩
def q_InvalidTests : He.DefD := ⟨("InvalidTests", some "__init__"), "__init__", "InvalidTests.__init__", defArgs i_InvalidTests, defBody i_InvalidTests, defScope i_InvalidTests, [], []⟩
theorem si_InvalidStock : FnScope ["self", "index"] ["self", "index"] (defScope i_InvalidStock) := ⟨rfl, rfl, rfl, by decide +kernel, rfl, by decide +kernel, by decide +kernel⟩
def q_InvalidStock : He.DefD := ⟨("InvalidStock", some "__init__"), "__init__", "InvalidStock.__init__", defArgs i_InvalidStock, defBody i_InvalidStock, defScope i_InvalidStock, [], []⟩
theorem si_InvalidKinds : FnScope ["self", "index"] ["self", "index"] (defScope i_InvalidKinds) := ⟨rfl, rfl, rfl, by decide +kernel, rfl, by decide +kernel, by decide +kernel⟩
def q_InvalidKinds : He.DefD := ⟨("InvalidKinds", some "__init__"), "__init__", "InvalidKinds.__init__", defArgs i_InvalidKinds, defBody i_InvalidKinds, defScope i_InvalidKinds, [], []⟩
theorem si_InUse : FnScope ["self", "index"] ["self", "index"] (defScope i_InUse) := ⟨rfl, rfl, rfl, by decide +kernel, rfl, by decide +kernel, by decide +kernel⟩
def q_InUse : He.DefD := ⟨("InUse", some "__init__"), "__init__", "InUse.__init__", defArgs i_InUse, defBody i_InUse, defScope i_InUse, [], []⟩
theorem si_Broken : FnScope ["self", "index"] ["self", "index"] (defScope i_Broken) := ⟨rfl, rfl, rfl, by decide +kernel, rfl, by decide +kernel, by decide +kernel⟩
def q_Broken : He.DefD := ⟨("Broken", some "__init__"), "__init__", "Broken.__init__", defArgs i_Broken, defBody i_Broken, defScope i_Broken, [], []⟩
def q_law_tank : He.DefD := ⟨("_law_tank", none), "_law_tank", "_law_tank", defArgs s_law_tank, defBody s_law_tank, defScope s_law_tank, [], []⟩
def q_law_draw : He.DefD := ⟨("_law_draw", none), "_law_draw", "_law_draw", defArgs s_law_draw, defBody s_law_draw, defScope s_law_draw, [], []⟩
def q_law_pick : He.DefD := ⟨("_law_pick", none), "_law_pick", "_law_pick", defArgs s_law_pick, defBody s_law_pick, defScope s_law_pick, [], []⟩
def q_law_number : He.DefD := ⟨("_law_number", none), "_law_number", "_law_number", defArgs s_law_number, defBody s_law_number, defScope s_law_number, [], []⟩
def q_law_with_given : He.DefD := ⟨("_law_with_given", none), "_law_with_given", "_law_with_given", defArgs s_law_with_given, defBody s_law_with_given, defScope s_law_with_given, [], []⟩
def q_law_with_given_named : He.DefD := ⟨("_law_with_given_named", none), "_law_with_given_named", "_law_with_given_named", defArgs s_law_with_given_named, defBody s_law_with_given_named, defScope s_law_with_given_named, [], []⟩
def q_law_with_index : He.DefD := ⟨("_law_with_index", none), "_law_with_index", "_law_with_index", defArgs s_law_with_index, defBody s_law_with_index, defScope s_law_with_index, [], []⟩
def q_law_with_index_named : He.DefD := ⟨("_law_with_index_named", none), "_law_with_index_named", "_law_with_index_named", defArgs s_law_with_index_named, defBody s_law_with_index_named, defScope s_law_with_index_named, [], []⟩
def q_law_bare : He.DefD := ⟨("_law_bare", none), "_law_bare", "_law_bare", defArgs s_law_bare, defBody s_law_bare, defScope s_law_bare, [], []⟩
def q_law_marks : He.DefD := ⟨("_law_marks", none), "_law_marks", "_law_marks", defArgs s_law_marks, defBody s_law_marks, defScope s_law_marks, [], []⟩
def q_law_is_under : He.DefD := ⟨("_law_is_under", none), "_law_is_under", "_law_is_under", defArgs s_law_is_under, defBody s_law_is_under, defScope s_law_is_under, [], []⟩
def q_law_stand : He.DefD := ⟨("_law_stand", none), "_law_stand", "_law_stand", defArgs s_law_stand, defBody s_law_stand, defScope s_law_stand, [], []⟩
def q_law_thing : He.DefD := ⟨("_law_thing", none), "_law_thing", "_law_thing", defArgs s_law_thing, defBody s_law_thing, defScope s_law_thing, [], []⟩
def q_law_right : He.DefD := ⟨("_law_right", none), "_law_right", "_law_right", defArgs s_law_right, defBody s_law_right, defScope s_law_right, [], []⟩
def qlaw : He.DefD := ⟨("law", none), "law", "law", defArgs slaw, defBody slaw, defScope slaw, [], []⟩
def fnA : List He.DefD := [q_InvalidComplex, q_InvalidNumbers, q_InvalidPlace, q_InvalidRatio, q_InvalidRow, q_InvalidRound, q_InvalidLine, q_InvalidMap, q_InvalidFlag, q_InvalidNumber, q_InvalidCell, q_InvalidHand, q_InvalidMirrorRow, q_InvalidRing, q_InvalidExponents, q_InvalidSize, q_InvalidStage, q_InvalidIndex, q_InvalidPart, q_InvalidValue, q_InvalidName, q_InvalidWish, q_InvalidPhrase, q_InvalidLot, q_InvalidFraction, q_InvalidSign, q_InvalidArc, q_NotALot, q_NotAWorkshop, q_NoMeeting]
def fnB : List He.DefD := [q_NoLink, q_OnCurve, q_Same, q_TooMany, q_UnknownName, q_InvalidTriple, q_InvalidArm, q_InvalidRounds, q_InvalidCurve, q_InvalidTests, q_InvalidStock, q_InvalidKinds, q_InUse, q_Broken, q_law_tank, q_law_draw, q_law_pick, q_law_number, q_law_with_given, q_law_with_given_named, q_law_with_index, q_law_with_index_named, q_law_bare, q_law_marks, q_law_is_under, q_law_stand, q_law_thing, q_law_right, qlaw]
def fnl : List He.DefD := fnA ++ fnB
def fal : List He.Fa := ([.glo "ArmError", .glo "InvalidComplex", .glo "InvalidNumbers", .glo "InvalidPlace", .glo "InvalidRatio", .glo "InvalidRow", .glo "InvalidRound", .glo "InvalidLine", .glo "InvalidMap", .glo "InvalidFlag", .glo "InvalidNumber", .glo "InvalidCell", .glo "InvalidHand", .glo "InvalidMirrorRow", .glo "InvalidRing", .glo "InvalidExponents", .glo "InvalidSize", .glo "InvalidStage", .glo "InvalidIndex", .glo "InvalidPart", .glo "InvalidValue", .glo "InvalidName", .glo "InvalidWish", .glo "InvalidPhrase", .glo "InvalidLot", .glo "InvalidFraction", .glo "InvalidSign", .glo "InvalidArc", .glo "NotALot", .glo "NotAWorkshop"] : List He.Fa) ++ ([.glo "NoMeeting", .glo "NoLink", .glo "OnCurve", .glo "Same", .glo "TooMany", .glo "UnknownName", .glo "InvalidTriple", .glo "InvalidArm", .glo "InvalidRounds", .glo "InvalidCurve", .glo "InvalidTests", .glo "InvalidStock", .glo "InvalidKinds", .glo "InUse", .glo "Broken", .glo "NoPlace", .glo "NoMap", .glo "NoMapFits", .glo "NoRowFits", .glo "NotClosed", .glo "NotSimple", .glo "Meets", .glo "NothingToUndo", .glo "_law_tank", .glo "_law_draw", .glo "_law_pick", .glo "_law_number", .glo "_law_with_given", .glo "_law_with_given_named", .glo "_law_with_index"] : List He.Fa) ++ ([.glo "_law_with_index_named", .glo "_law_bare", .glo "_law_marks", .glo "_law_is_under", .glo "_law_stand", .glo "_law_thing", .glo "_law_right", .glo "law", .free "ArithmeticError", .free "LookupError", .free "RuntimeError", .free "TypeError", .free "ValueError", .free "abs", .free "divmod", .free "int", .free "isinstance", .free "len", .free "range", .free "repr"] : List He.Fa)
abbrev R : PySem.W.OpenRow := PySem.W.OpenLaw.row PySem.Challenge.rw_drawarms_k01_errors_each_of_its_own
def chk1 (K : PySem.W.Frag) : Bool := (adrs K).all fun C => excB K C
def chk2 (K : PySem.W.Frag) : Bool := ((adrs K).all fun C => xfB K C && decide (PySem.W.findIn K (.ref C) "given" = some none)) && (adrs K).all fun C => xfB K C && decide (PySem.W.findIn K (.ref C) "index" = some none)
def chk3 (K : PySem.W.Frag) : Bool := decide (adrs K).Nodup && (List.range 53).all fun i => mroB K (ad K i) (mroL (ad K) i)
def chk4 (K : PySem.W.Frag) : Bool := (List.range 53).all fun i => chkI K i
def kOf (g : Addr → Option Obj) : PySem.W.Frag := He.frG g (He.asD g 4)
abbrev AlX : Type := He.AlD × Bool × Bool × Bool × Bool
def obsX (g : Addr → Option Obj) : AlX := (He.obsD fal fnl (kOf g), chk1 (kOf g), chk2 (kOf g), chk3 (kOf g), chk4 (kOf g))
def hk : PySem.W.Hook where
  α := AlX
  obs := fun s => obsX s.heap.get?
  val := fun _ => (He.valD fnl, true, true, true, true)
  says := fun _ h => ∃ K : PySem.W.Frag, K.In h ∧ He.SaysD fal fnl K ∧ chk1 K = true ∧ chk2 K = true ∧ chk3 K = true ∧ chk4 K = true
  of := fun _ _ e => ⟨_, He.frG_in, congrArg (fun z : AlX => z.1) e, congrArg (fun z : AlX => z.2.1) e, congrArg (fun z : AlX => z.2.2.1) e, congrArg (fun z : AlX => z.2.2.2.1) e, congrArg (fun z : AlX => z.2.2.2.2) e⟩
  keeps := fun _ _ _ ⟨K, hK, c⟩ k => ⟨K, PySem.W.Frag.In.keeps hK k, c⟩
def ob (s : PySem.W.SharedT) : AlX := obsX (HandSHeadRun.getT s)
theorem ob_eq (s : PySem.W.SharedT) : ob s = hk.obs s.abs := by
  have e : HandSHeadRun.getT s = s.abs.heap.get? := funext (HandSHeadRun.getT_eq s)
  unfold ob
  rw [e]
  rfl
def loose : List Str := (["ArmError", "InvalidComplex", "InvalidNumbers", "InvalidPlace", "InvalidRatio", "InvalidRow", "InvalidRound", "InvalidLine", "InvalidMap", "InvalidFlag", "InvalidNumber", "InvalidCell", "InvalidHand", "InvalidMirrorRow", "InvalidRing", "InvalidExponents", "InvalidSize", "InvalidStage", "InvalidIndex", "InvalidPart", "InvalidValue", "InvalidName", "InvalidWish", "InvalidPhrase", "InvalidLot", "InvalidFraction", "InvalidSign", "InvalidArc", "NotALot", "NotAWorkshop"] : List Str) ++ (["NoMeeting", "NoLink", "OnCurve", "Same", "TooMany", "UnknownName", "InvalidTriple", "InvalidArm", "InvalidRounds", "InvalidCurve", "InvalidTests", "InvalidStock", "InvalidKinds", "InUse", "Broken", "NoPlace", "NoMap", "NoMapFits", "NoRowFits", "NotClosed", "NotSimple", "Meets", "NothingToUndo", "_law_tank", "_law_draw", "_law_pick", "_law_number", "_law_with_given", "_law_with_given_named", "_law_with_index"] : List Str) ++ (["_law_with_index_named", "_law_bare", "_law_marks", "_law_is_under", "_law_stand", "_law_thing", "_law_right"] : List Str)
end L01

end
section
open PySem PySem.W PySem.Calls PyProof.Rows HandSHeadRun
namespace L01
theorem run0 (w : World) : RunEq R (view R.prog [69]) Hook.none (fun _ => ()) 14000 loose w := by
  intro os
  kernel_rfl
end L01

end
section
open PySem PySem.W PySem.Calls PyProof.Rows HandSHeadRun
namespace L01
theorem run1 (w : World) (os : OsState) : (endF (stepQ (denQ tabQ) R.prog w) 14000 R.prog w os).map (fun s => He.obsD [] fnA (kOf (getT s))) = some (He.valD fnA) := by
  kernel_rfl
end L01

end
section
open PySem PySem.W PySem.Calls PyProof.Rows HandSHeadRun
namespace L01
theorem run2 (w : World) (os : OsState) : (endF (stepQ (denQ tabQ) R.prog w) 14000 R.prog w os).map (fun s => He.obsD fal fnB (kOf (getT s))) = some (He.valD fnB) := by
  kernel_rfl
end L01

end
section
open PySem PySem.W PySem.Calls PyProof.Rows HandSHeadRun
namespace L01
theorem run3 (w : World) (os : OsState) : (endF (stepQ (denQ tabQ) R.prog w) 14000 R.prog w os).map (fun s => (fun K => chk1 K && chk2 K) (kOf (getT s))) = some true := by
  kernel_rfl
end L01

end
section
open PySem PySem.W PySem.Calls PyProof.Rows HandSHeadRun
namespace L01
theorem run4 (w : World) (os : OsState) : (endF (stepQ (denQ tabQ) R.prog w) 14000 R.prog w os).map (fun s => (fun K => chk3 K && chk4 K) (kOf (getT s))) = some true := by
  kernel_rfl
end L01

end
set_option Elab.async false
set_option linter.all false
set_option maxRecDepth 100000
set_option maxHeartbeats 2000000
set_option autoImplicit false
/-! # The data layer: values as data trees, mutable objects in a store, readings lifted from functions -/
namespace DL
open PySem L2

/-- data: tuples and lists that never change any more are trees; what may change stands in the store -/
inductive D where
  | non | bl (b : Bool) | int (i : Int) | str (x : Str) | tup (l : List D) | lst (l : List D) | dct (kvs : List (List Int × V)) | obj (n : Nat) | scr (ns : List Int) | ftup (l : List D)
  /-- a dict of texts and numbers; an exception: its class, its one field -/
  | dsi (kvs : List (Str × Int)) | exi (C : Addr) (f : Str) (l : List D)

/-- an object of the store -/
inductive Ob where
  | lst (l : List D)
  | ins (c : Str) (fs : List (Str × D))
abbrev Sto := List Ob

/-- a slot of a frame: empty, data, or a list that this frame alone holds and changes -/
inductive Sl where
  | no | val (d : D) | own (l : List D)
abbrev Env := List Sl

/-- how a piece of code ends -/
inductive Out (α : Type) where
  | ok (a : α) (S : Sto)
  | exc (c : Str) (fs : List (Str × D)) (S : Sto)
  | bad

mutual
inductive Rep (K : PySem.W.Frag) (I : Hp) (A : List Addr) : V → D → Prop
  | non : Rep K I A .non .non
  | bl (b : Bool) : Rep K I A (.bl b) (.bl b)
  | int (i : Int) : Rep K I A (.int i) (.int i)
  | str (x : Str) : Rep K I A (.str x) (.str x)
  | tup {a : Addr} {xs : List V} {ds : List D} : SqT K I a xs → Reps K I A xs ds → Rep K I A (.ref a) (.tup ds)
  | lst {a : Addr} {xs : List V} {ds : List D} : I a = some (.lst xs) → Reps K I A xs ds → Rep K I A (.ref a) (.lst ds)
  | scr {a : Addr} {ns : List Int} : SqL K I a (ns.map V.int) → Rep K I A (.ref a) (.scr ns)
  | ftup {a : Addr} {o : Obj} {xs : List V} {ds : List D} : I a = some (.frz o (.tup xs)) → o.dict = none → Reps K I A xs ds → Rep K I A (.ref a) (.ftup ds)
  | dct {a : Addr} {kvs : List (List Int × V)} : I a = some (.dT (kvs.map fun p => (p.1.map Sum.inl, p.2))) → Rep K I A (.ref a) (.dct kvs)
  | obj {a : Addr} {n : Nat} : A[n]? = some a → Rep K I A (.ref a) (.obj n)
  | dsi {a : Addr} {kvs : List (Str × Int)} : I a = some (.dK (kvs.map fun p => (Sum.inr p.1, V.int p.2))) → Rep K I A (.ref a) (.dsi kvs)
  | exi0 {a C : Addr} {f : Str} : I a = some (ExO (.ref C) a) → Rep K I A (.ref a) (.exi C f [])
  | exi1 {a C dx : Addr} {f : Str} {fs : List (Str × V)} {v : V} {l : List D} : I a = some (exo a C (some dx)) → I dx = some (exd dx fs) → fs.lookup f = some v → Reps K I A [v] l → Rep K I A (.ref a) (.exi C f l)
inductive Reps (K : PySem.W.Frag) (I : Hp) (A : List Addr) : List V → List D → Prop
  | nil : Reps K I A [] []
  | cons {v : V} {vs : List V} {d : D} {ds : List D} : Rep K I A v d → Reps K I A vs ds → Reps K I A (v :: vs) (d :: ds)
end

theorem Same.rd {H H' : Hp} {a : Addr} {u : HO} (e : Same H H') (h : Rd H a u) : Rd H' a u := by
  rcases h with h | ⟨o, h⟩
  · exact .inl (e _ _ h)
  · exact .inr ⟨o, e _ _ h⟩
theorem Same.seqT {K : PySem.W.Frag} {H H' : Hp} {a : Addr} {xs : List V} (e : Same H H') (h : SqT K H a xs) : SqT K H' a xs := by
  rcases h with h | h
  · exact .inl (Same.rd e h)
  · exact .inr h

section
variable {K : PySem.W.Frag} {I I' : Hp} {A A' : List Addr}
mutual
theorem Rep.mono (hI : Same I I') (hA : ∀ (n : Nat) (a : Addr), A[n]? = some a → A'[n]? = some a) : ∀ (d : D) (v : V), Rep K I A v d → Rep K I' A' v d
  | .non, _, h => by cases h; exact .non
  | .bl b, _, h => by cases h; exact .bl b
  | .int i, _, h => by cases h; exact .int i
  | .str x, _, h => by cases h; exact .str x
  | .tup ds, _, h => by
    cases h with
    | tup h1 h2 => exact .tup (Same.seqT hI h1) (Reps.mono hI hA ds _ h2)
  | .lst ds, _, h => by
    cases h with
    | lst h1 h2 => exact .lst (hI _ _ h1) (Reps.mono hI hA ds _ h2)
  | .scr ns, _, h => by
    cases h with
    | scr h1 => exact .scr (hI.seq h1)
  | .ftup ds, _, h => by
    cases h with
    | ftup h1 h2 h3 => exact .ftup (hI _ _ h1) h2 (Reps.mono hI hA ds _ h3)
  | .dct _, _, h => by
    cases h with
    | dct h1 => exact .dct (hI _ _ h1)
  | .obj _, _, h => by
    cases h with
    | obj h1 => exact .obj (hA _ _ h1)
  | .dsi _, _, h => by
    cases h with
    | dsi h1 => exact .dsi (hI _ _ h1)
  | .exi _ _ l, _, h => by
    cases h with
    | exi0 h1 => exact .exi0 (hI _ _ h1)
    | exi1 h1 h2 h3 h4 => exact .exi1 (hI _ _ h1) (hI _ _ h2) h3 (Reps.mono hI hA l _ h4)
theorem Reps.mono (hI : Same I I') (hA : ∀ (n : Nat) (a : Addr), A[n]? = some a → A'[n]? = some a) : ∀ (ds : List D) (vs : List V), Reps K I A vs ds → Reps K I' A' vs ds
  | [], _, h => by cases h; exact .nil
  | d :: ds, _, h => by
    cases h with
    | cons h1 h2 => exact .cons (Rep.mono hI hA d _ h1) (Reps.mono hI hA ds _ h2)
end
theorem Reps.length : ∀ {ds : List D} {vs : List V}, Reps K I A vs ds → vs.length = ds.length
  | [], _, h => by cases h; rfl
  | d :: ds, _, h => by
    cases h with
    | cons h1 h2 => simp [Reps.length h2]
theorem Reps.get : ∀ {ds : List D} {vs : List V} {i : Nat} {v : V}, Reps K I A vs ds → vs[i]? = some v → ∃ d, ds[i]? = some d ∧ Rep K I A v d
  | [], _, i, v, h, e => by cases h; simp at e
  | d :: ds, _, 0, v, h, e => by
    cases h with
    | cons h1 h2 => simp at e; subst e; exact ⟨d, rfl, h1⟩
  | d :: ds, _, i + 1, v, h, e => by
    cases h with
    | cons h1 h2 =>
      obtain ⟨d', q1, q2⟩ := Reps.get (i := i) h2 (by simpa using e)
      exact ⟨d', by simpa using q1, q2⟩
theorem Reps.getD : ∀ {ds : List D} {vs : List V} {i : Nat} {d : D}, Reps K I A vs ds → ds[i]? = some d → ∃ v, vs[i]? = some v ∧ Rep K I A v d
  | [], _, i, v, h, e => by simp at e
  | d :: ds, _, 0, v, h, e => by
    cases h with
    | cons h1 h2 => simp at e; subst e; exact ⟨_, rfl, h1⟩
  | d :: ds, _, i + 1, v, h, e => by
    cases h with
    | cons h1 h2 =>
      obtain ⟨d', q1, q2⟩ := Reps.getD (i := i) h2 (by simpa using e)
      exact ⟨d', by simpa using q1, q2⟩
theorem Reps.append : ∀ {ds es : List D} {vs ws : List V}, Reps K I A vs ds → Reps K I A ws es → Reps K I A (vs ++ ws) (ds ++ es)
  | [], _, _, _, h, h' => by cases h; exact h'
  | d :: ds, _, _, _, h, h' => by
    cases h with
    | cons h1 h2 => exact .cons h1 (Reps.append h2 h')
theorem Reps.take : ∀ {ds : List D} {vs : List V} (n : Nat), Reps K I A vs ds → Reps K I A (vs.take n) (ds.take n)
  | _, _, 0, _ => by simp; exact .nil
  | [], _, n + 1, h => by cases h; simp; exact .nil
  | d :: ds, _, n + 1, h => by
    cases h with
    | cons h1 h2 => simp; exact .cons h1 (Reps.take n h2)
theorem Reps.drop : ∀ {ds : List D} {vs : List V} (n : Nat), Reps K I A vs ds → Reps K I A (vs.drop n) (ds.drop n)
  | _, _, 0, h => by simpa using h
  | [], _, n + 1, h => by cases h; simp; exact .nil
  | d :: ds, _, n + 1, h => by
    cases h with
    | cons h1 h2 => simpa using Reps.drop n h2
theorem Reps.set : ∀ {ds : List D} {vs : List V} {v : V} {d : D} (n : Nat), Reps K I A vs ds → Rep K I A v d → Reps K I A (vs.set n v) (ds.set n d)
  | [], _, v, d, _, h, _ => by cases h; exact .nil
  | _ :: _, _, v, d, 0, h, h' => by
    cases h with
    | cons h1 h2 => exact .cons h' h2
  | _ :: _, _, v, d, n + 1, h, h' => by
    cases h with
    | cons h1 h2 => exact .cons h1 (Reps.set n h2 h')
end

/-- an object of the store, at a -/
def RepO (K : PySem.W.Frag) (mg : Str → Option Value) (I : Hp) (A : List Addr) (H : Hp) (a : Addr) : Ob → Prop
  | .lst ds => ∃ xs, H a = some (.lst xs) ∧ Reps K I A xs ds
  | .ins c fs => ∃ C dx vs, mg c = some (.ref C) ∧ H a = some (.ins C dx vs) ∧ Paired (fun (p : Str × V) (q : Str × D) => p.1 = q.1 ∧ Rep K I A p.2 q.2) vs fs

/-- the store: its objects at A, apart from what never changes (I) -/
structure RelS (K : PySem.W.Frag) (mg : Str → Option Value) (H : Hp) (S : Sto) (I : Hp) (A : List Addr) : Prop where
  sub : Same I H
  len : A.length = S.length
  nd : A.Nodup
  out : ∀ a ∈ A, I a = none
  st : ∀ (n : Nat) (o : Ob), S[n]? = some o → ∃ a, A[n]? = some a ∧ RepO K mg I A H a o

/-- what a piece of code keeps of the heap H with I, A -/
structure Ext (H I : Hp) (A : List Addr) (H' I' : Hp) (A' : List Addr) : Prop where
  fr : ∀ a o, H a = some o → a ∉ A → H' a = some o
  dom : ∀ a, H a ≠ none → H' a ≠ none
  im : Same I I'
  fi : ∀ a, H a ≠ none → I a = none → I' a = none
  ad : ∃ B, A' = A ++ B ∧ ∀ b ∈ B, H b = none
theorem Ext.refl (H I : Hp) (A : List Addr) : Ext H I A H I A :=
  ⟨fun _ _ h _ => h, fun _ h => h, Same.refl _, fun _ _ h => h, [], by simp, by simp⟩
theorem Ext.ax {H I H' I' : Hp} {A A' : List Addr} (e : Ext H I A H' I' A') : ∀ (n : Nat) (a : Addr), A[n]? = some a → A'[n]? = some a := fun n a h => by
  obtain ⟨B, rfl, _⟩ := e.ad
  rw [List.getElem?_append_left (List.getElem?_eq_some_iff.mp h).1]; exact h
theorem Ext.rep {K : PySem.W.Frag} {H I H' I' : Hp} {A A' : List Addr} {v : V} {d : D} (e : Ext H I A H' I' A') (h : Rep K I A v d) : Rep K I' A' v d := h.mono e.im e.ax
theorem Ext.reps {K : PySem.W.Frag} {H I H' I' : Hp} {A A' : List Addr} {vs : List V} {ds : List D} (e : Ext H I A H' I' A') (h : Reps K I A vs ds) : Reps K I' A' vs ds := h.mono e.im e.ax
theorem Ext.trans {H I H1 I1 H2 I2 : Hp} {A A1 A2 : List Addr} (e : Ext H I A H1 I1 A1) (f : Ext H1 I1 A1 H2 I2 A2) : Ext H I A H2 I2 A2 := by
  obtain ⟨B, rfl, hB⟩ := e.ad
  obtain ⟨B', rfl, hB'⟩ := f.ad
  refine ⟨fun a o h n => f.fr a o (e.fr a o h n) ?_, fun a h => f.dom a (e.dom a h), e.im.trans f.im, fun a h hi => f.fi a (e.dom a h) (e.fi a h hi), B ++ B', by simp, ?_⟩
  · intro hm
    rcases List.mem_append.mp hm with z | z
    · exact n z
    · rw [hB a z] at h; cases h
  · intro b hb
    rcases List.mem_append.mp hb with z | z
    · exact hB b z
    · cases q : H b with
      | none => rfl
      | some o => exact absurd (hB' b z) (e.dom b (by rw [q]; simp))

/-- a frame's slots -/
structure RelE (K : PySem.W.Frag) (σ : L2.St) (H : Hp) (ρ : Env) (I : Hp) (A : List Addr) : Prop where
  len : σ.length = ρ.length
  val : ∀ (i : Nat) (d : D), ρ[i]? = some (Sl.val d) → ∃ v, σ[i]? = some (some v) ∧ Rep K I A v d
  own : ∀ (i : Nat) (ds : List D), ρ[i]? = some (Sl.own ds) → ∃ a xs, σ[i]? = some (some (V.ref a)) ∧ H a = some (.lst xs) ∧ Reps K I A xs ds ∧ I a = none ∧ a ∉ A
  dis : ∀ (i j : Nat) (ds es : List D) (a : Addr), ρ[i]? = some (Sl.own ds) → ρ[j]? = some (Sl.own es) → σ[i]? = some (some (V.ref a)) → σ[j]? = some (some (V.ref a)) → i = j

/-- the state of a frame; E0: heap, I, A at the frame's entry; own lists are younger than it -/
structure Entry where
  H : Hp
  I : Hp
  A : List Addr
structure Rel (K : PySem.W.Frag) (mg : Str → Option Value) (E : Entry) (σ : L2.St) (H : Hp) (ρ : Env) (S : Sto) (I : Hp) (A : List Addr) : Prop where
  s : RelS K mg H S I A
  e : RelE K σ H ρ I A
  x : Ext E.H E.I E.A H I A
  y : ∀ (i : Nat) (ds : List D) (a : Addr), ρ[i]? = some (Sl.own ds) → σ[i]? = some (some (V.ref a)) → E.H a = none

section
variable {K : PySem.W.Frag} {mg : Str → Option Value} {E : Entry} {σ : L2.St} {H H' : Hp} {ρ : Env} {S S' : Sto} {I I' : Hp} {A A' : List Addr}
/-- behind an expression -/
theorem Rel.step (r : Rel K mg E σ H ρ S I A) (s' : RelS K mg H' S' I' A') (x : Ext H I A H' I' A') : Rel K mg E σ H' ρ S' I' A' := by
  refine ⟨s', ⟨r.e.len, fun i d h => ?_, fun i ds h => ?_, r.e.dis⟩, r.x.trans x, r.y⟩
  · obtain ⟨v, h1, h2⟩ := r.e.val i d h
    exact ⟨v, h1, x.rep h2⟩
  · obtain ⟨a, xs, h1, h2, h3, h4, h5⟩ := r.e.own i ds h
    refine ⟨a, xs, h1, x.fr a _ h2 h5, x.reps h3, x.fi a (by rw [h2]; simp) h4, fun hm => ?_⟩
    obtain ⟨B, rfl, hB⟩ := x.ad
    rcases List.mem_append.mp hm with z | z
    · exact h5 z
    · rw [hB a z] at h2; cases h2
end

/-- denotations of expressions, of lists of them -/
abbrev EM (α : Type) := Env → Sto → Out α
/-- an exception: its class c by its name, its fields -/
def okX (K : PySem.W.Frag) (mg : Str → Option Value) (E : Entry) (H : Hp) (I : Hp) (A : List Addr) (c : Str) (fs : List (Str × D)) (S' : Sto) (Q : XK) : Prop :=
  ∀ C dd vs H' I' A', mg c = some (.ref C) → RelS K mg H' S' I' A' → Ext E.H E.I E.A H' I' A' → Ext H I A H' I' A' →
    (fs = [] → dd = none) → (fs ≠ [] → ∃ d, dd = some d ∧ H' d = some (.xd vs)) → Paired (fun (p : Str × V) (q : Str × D) => p.1 = q.1 ∧ Rep K I' A' p.2 q.2) vs fs → Q (.ref C) dd H'
/-- an end: k of what has come, or the wish of an exception -/
def Po {α : Type} (K : PySem.W.Frag) (mg : Str → Option Value) (E : Entry) (W : WX) (σ : L2.St) (H : Hp) (I : Hp) (A : List Addr) (o : Out α) (k : α → Sto → Prop) : Prop :=
  match o with
  | .ok a S' => k a S'
  | .exc c fs S' => okX K mg E H I A c fs S' (fun cls d H' => W cls d σ H')
  | .bad => False
/-- the states behind an expression whose value is such -/
def okR {β : Type} (K : PySem.W.Frag) (mg : Str → Option Value) (E : Entry) (σ : L2.St) (H : Hp) (ρ : Env) (I : Hp) (A : List Addr) (S' : Sto) (R : Hp → Hp → List Addr → β → Prop) (Q : β → Hp → Prop) : Prop :=
  ∀ v H' I' A', Rel K mg E σ H' ρ S' I' A' → Ext H I A H' I' A' → R H' I' A' v → Q v H'
/-- the reading lifted from a denotation: R says what a value stands for -/
def lft {α β : Type} (K : PySem.W.Frag) (mg : Str → Option Value) (E : Entry) (W : WX) (R : α → Hp → Hp → List Addr → β → Prop) (m : EM α) (σ : L2.St) (H : Hp) (Q : β → Hp → Prop) : Prop :=
  ∃ ρ S I A, Rel K mg E σ H ρ S I A ∧ Po K mg E W σ H I A (m ρ S) fun a S' => okR K mg E σ H ρ I A S' (R a) Q
def rD (K : PySem.W.Frag) : D → Hp → Hp → List Addr → V → Prop := fun d _ I A v => Rep K I A v d
def rDs (K : PySem.W.Frag) : List D → Hp → Hp → List Addr → List V → Prop := fun ds _ I A vs => Reps K I A vs ds
def rB : Bool → Hp → Hp → List Addr → Bool → Prop := fun b _ _ _ c => c = b
/-- a list (false) or tuple (true) that may be read just now, and for as long as its frame's own lists stay -/
def rL (K : PySem.W.Frag) : Bool × List D → Hp → Hp → List Addr → V → Prop := fun p H I A v => ∃ a xs, v = .ref a ∧ (if p.1 = true then SqT K I a xs else SqL K H a xs ∧ a ∉ A) ∧ Reps K I A xs p.2

def Out.bind {α β : Type} (o : Out α) (f : α → Sto → Out β) : Out β :=
  match o with
  | .ok a S => f a S
  | .exc c fs S => .exc c fs S
  | .bad => .bad
def EM.bind {α β : Type} (m : EM α) (f : α → EM β) : EM β := fun ρ S => (m ρ S).bind fun a S1 => f a ρ S1
def opt {α : Type} (o : Option α) (S : Sto) : Out α := match o with
  | some a => .ok a S
  | none => .bad
@[simp] theorem Out.bind_ok {α β : Type} (a : α) (S : Sto) (f : α → Sto → Out β) : (Out.ok a S).bind f = f a S := rfl
@[simp] theorem Out.bind_exc {α β : Type} (c : Str) (fs : List (Str × D)) (S : Sto) (f : α → Sto → Out β) : (Out.exc c fs S : Out α).bind f = .exc c fs S := rfl
@[simp] theorem Out.bind_bad {α β : Type} (f : α → Sto → Out β) : (Out.bad : Out α).bind f = .bad := rfl
@[simp] theorem opt_some {α : Type} (a : α) (S : Sto) : opt (some a) S = .ok a S := rfl
@[simp] theorem opt_none {α : Type} (S : Sto) : opt (none : Option α) S = .bad := rfl

section
variable {α β γ δ : Type} {K : PySem.W.Frag} {mg : Str → Option Value} {E : Entry} {W : WX} {σ : L2.St} {H H1 : Hp} {ρ : Env} {S : Sto} {I I1 : Hp} {A A1 : List Addr}
theorem okX.from {c : Str} {fs : List (Str × D)} {S' : Sto} {Q : XK} (x : Ext H I A H1 I1 A1) (h : okX K mg E H I A c fs S' Q) : okX K mg E H1 I1 A1 c fs S' Q :=
  fun C dd vs H' I' A' h1 h2 h3 h4 => h C dd vs H' I' A' h1 h2 h3 (x.trans h4)
theorem Po.from {o : Out α} {k k' : α → Sto → Prop} (x : Ext H I A H1 I1 A1) (h : Po K mg E W σ H I A o k) (hk : ∀ a S', k a S' → k' a S') : Po K mg E W σ H1 I1 A1 o k' := by
  cases o with
  | ok a S' => exact hk a S' h
  | exc c fs S' => exact okX.from (K := K) (mg := mg) (E := E) (Q := fun cls d H' => W cls d σ H') x h
  | bad => exact h
theorem okR.from {S' : Sto} {R : Hp → Hp → List Addr → β → Prop} {Q : β → Hp → Prop} (x : Ext H I A H1 I1 A1) (h : okR K mg E σ H ρ I A S' R Q) : okR K mg E σ H1 ρ I1 A1 S' R Q :=
  fun v H' I' A' h1 h2 h3 => h v H' I' A' h1 (x.trans h2) h3
theorem lft.imp {R : α → Hp → Hp → List Addr → β → Prop} {m : EM α} {Q Q' : β → Hp → Prop} (h : lft K mg E W R m σ H Q) (hq : ∀ v H', Q v H' → Q' v H') : lft K mg E W R m σ H Q' := by
  obtain ⟨ρ, S, I, A, r, p⟩ := h
  exact ⟨ρ, S, I, A, r, Po.from (Ext.refl _ _ _) p fun a S' ho v H' I' A' h1 h2 h3 => hq _ _ (ho v H' I' A' h1 h2 h3)⟩
/-- first a, then what hangs on it -/
theorem lft.seq {R : α → Hp → Hp → List Addr → β → Prop} {R' : γ → Hp → Hp → List Addr → δ → Prop} {m : EM α} {f : α → EM γ} {Q : δ → Hp → Prop} {T : β → Hp → Prop} (h : lft K mg E W R' (m.bind f) σ H Q)
    (hT : ∀ a v H1 S1 I1 A1 ρ, Rel K mg E σ H1 ρ S1 I1 A1 → R a H1 I1 A1 v → Po K mg E W σ H1 I1 A1 (f a ρ S1) (fun c S2 => okR K mg E σ H1 ρ I1 A1 S2 (R' c) Q) → T v H1) : lft K mg E W R m σ H T := by
  obtain ⟨ρ, S, I, A, r, p⟩ := h
  refine ⟨ρ, S, I, A, r, ?_⟩
  unfold EM.bind at p
  cases e : m ρ S with
  | ok a S1 =>
    rw [e] at p
    intro v H1 I1 A1 h1 h2 h3
    exact hT a v H1 S1 I1 A1 ρ h1 h3 (Po.from h2 p fun c S2 ho => okR.from h2 ho)
  | exc c fs S1 => rw [e] at p; exact p
  | bad => rw [e] at p; exact p
theorem lft.start {R : α → Hp → Hp → List Addr → β → Prop} {m : EM α} {Q : β → Hp → Prop} (r : Rel K mg E σ H ρ S I A) (p : Po K mg E W σ H I A (m ρ S) fun a S' => okR K mg E σ H ρ I A S' (R a) Q) : lft K mg E W R m σ H Q := ⟨ρ, S, I, A, r, p⟩
end

/-- an expression, a test, arguments -/
abbrev ME (X : Cx) (E : Entry) (W : WX) (e : Expr) (m : EM D) : Prop := PE X e (lft X.K X.mg E W (rD X.K) m)
abbrev MT (X : Cx) (E : Entry) (W : WX) (e : Expr) (m : EM Bool) : Prop := PT X e (lft X.K X.mg E W rB m)
abbrev MA (X : Cx) (E : Entry) (W : WX) (es : List Expr) (m : EM (List D)) : Prop := PA X es (lft X.K X.mg E W (rDs X.K) m)
abbrev ML (X : Cx) (E : Entry) (W : WX) (e : Expr) (m : EM (Bool × List D)) : Prop := PE X e (lft X.K X.mg E W (rL X.K) m)
theorem PE.imp {X : Cx} {e : Expr} {t t' : TE} (h : PE X e t) (hi : ∀ σ H Q, t' σ H Q → t σ H Q) : PE X e t' := ⟨fun pins s σ H Q I q => h.run pins s σ H Q I (hi σ H Q q)⟩
theorem PT.imp {X : Cx} {e : Expr} {t t' : TT} (h : PT X e t) (hi : ∀ σ H Q, t' σ H Q → t σ H Q) : PT X e t' := ⟨fun pins s σ H Q I q => h.run pins s σ H Q I (hi σ H Q q)⟩
theorem PA.imp {X : Cx} {e : List Expr} {t t' : TA} (h : PA X e t) (hi : ∀ σ H Q, t' σ H Q → t σ H Q) : PA X e t' := ⟨fun pos pins s σ H Q I q => h.run pos pins s σ H Q I (hi σ H Q q)⟩
theorem PS.imp {X : Cx} {e : Stmt} {t t' : TS} (h : PS X e t) (hi : ∀ D σ H, t' D σ H → t D σ H) : PS X e t' := ⟨fun pins s σ H D I q => h.run pins s σ H D I (hi D σ H q)⟩
theorem PSs.imp {X : Cx} {e : List Stmt} {t t' : TS} (h : PSs X e t) (hi : ∀ D σ H, t' D σ H → t D σ H) : PSs X e t' := ⟨fun pins s σ H D I q => h.run pins s σ H D I (hi D σ H q)⟩

/-! ### names, constants -/
def eC (d : D) : EM D := fun _ S => .ok d S
def eV (i : Nat) : EM D := fun ρ S => match ρ[i]? with
  | some (.val d) => .ok d S
  | _ => .bad
section
variable {X : Cx} {E : Entry} {W : WX} {x : Str} {pos : Pos}
theorem de_const {e : Expr} {v : V} {d : D} (h : PE X e (tC v)) (hr : ∀ I A, Rep X.K I A v d) : ME X E W e (eC d) := by
  refine PE.imp h fun σ H Q ⟨ρ, S, I, A, r, p⟩ => ?_
  exact p v H I A r (Ext.refl _ _ _) (hr I A)
theorem de_int {i : Int} {j : Nat} : ME X E W (.Constant (.int i) j pos) (eC (.int i)) := de_const pe_int fun _ _ => .int i
theorem de_bl {b : Bool} {j : Nat} : ME X E W (.Constant (.bool b) j pos) (eC (.bl b)) := de_const pe_bl fun _ _ => .bl b
theorem de_non {j : Nat} : ME X E W (.Constant .none j pos) (eC .non) := de_const pe_non fun _ _ => .non
theorem de_str {y : Str} {j : Nat} : ME X E W (.Constant (.str y) j pos) (eC (.str y)) := de_const pe_str fun _ _ => .str y
theorem de_glob {v : V} {u : Value} {d : D} (hg : Gl X x) (hm : X.mg x = some u) (r : RelV v u) (hr : ∀ I A, Rep X.K I A v d) (hd : (x == ("__debug__" : Str)) = false := by decide) : ME X E W (.Name x pos) (eC d) := de_const (pe_glob hg hm r hd) hr
theorem de_var (i : Nat) (h : PE X (.Name x pos) (tVar i)) : ME X E W (.Name x pos) (eV i) := by
  refine PE.imp h fun σ H Q ⟨ρ, S, I, A, r, p⟩ => ?_
  unfold eV at p
  cases e : ρ[i]? with
  | none => rw [e] at p; exact p.elim
  | some sl =>
    rw [e] at p
    cases sl with
    | no => exact p.elim
    | own l => exact p.elim
    | val d =>
      obtain ⟨v, h1, h2⟩ := r.e.val i d e
      exact ⟨v, h1, p v H I A r (Ext.refl _ _ _) h2⟩
end
end DL
set_option Elab.async false
set_option linter.all false
set_option maxRecDepth 100000
set_option maxHeartbeats 2000000
set_option autoImplicit false
namespace DL
open PySem L2

/-! ### steps from a known state -/
section
variable {α β γ δ : Type} {K : PySem.W.Frag} {mg : Str → Option Value} {E : Entry} {W : WX} {σ : L2.St} {H H1 : Hp} {ρ : Env} {S : Sto} {I I1 : Hp} {A A1 : List Addr}
theorem seq1 {R : α → Hp → Hp → List Addr → β → Prop} {R' : γ → Hp → Hp → List Addr → δ → Prop} {m : EM α} {f : α → Sto → Out γ} {Q : δ → Hp → Prop} {T : β → Hp → Prop} (r : Rel K mg E σ H ρ S I A)
    (p : Po K mg E W σ H I A ((m ρ S).bind f) fun c S2 => okR K mg E σ H ρ I A S2 (R' c) Q)
    (hT : ∀ a v H1 S1 I1 A1, Rel K mg E σ H1 ρ S1 I1 A1 → Ext H I A H1 I1 A1 → R a H1 I1 A1 v → Po K mg E W σ H1 I1 A1 (f a S1) (fun c S2 => okR K mg E σ H1 ρ I1 A1 S2 (R' c) Q) → T v H1) : lft K mg E W R m σ H T := by
  refine ⟨ρ, S, I, A, r, ?_⟩
  cases e : m ρ S with
  | ok a S1 =>
    rw [e] at p
    intro v H1 I1 A1 h1 h2 h3
    exact hT a v H1 S1 I1 A1 h1 h2 h3 (Po.from h2 p fun c S2 ho => okR.from h2 ho)
  | exc c fs S1 => rw [e] at p; exact p
  | bad => rw [e] at p; exact p
theorem Po.some {o : Option α} {k : α → Sto → Prop} (p : Po K mg E W σ H I A (opt o S) k) : ∃ z, o = some z ∧ k z S := by
  cases o with
  | none => exact p.elim
  | some z => exact ⟨z, rfl, p⟩
end

/-! ### new objects -/
section
variable {K : PySem.W.Frag} {mg : Str → Option Value} {E : Entry} {σ : L2.St} {H H' : Hp} {ρ : Env} {S : Sto} {I : Hp} {A : List Addr} {p : Addr} {o : HO}
theorem RelS.trk (s : RelS K mg H S I A) {a : Addr} (h : a ∈ A) : H a ≠ none := by
  obtain ⟨n, hn⟩ := List.getElem?_of_mem h
  have hl : n < S.length := by rw [← s.len]; exact (List.getElem?_eq_some_iff.mp hn).1
  obtain ⟨a', h1, h2⟩ := s.st n S[n] (by simp [hl])
  rw [hn] at h1; cases h1
  intro z
  cases e : S[n] with
  | lst l =>
    rw [e] at h2
    obtain ⟨xs, q, _⟩ := h2
    rw [z] at q; cases q
  | ins c fs =>
    rw [e] at h2
    obtain ⟨C, dx, vs, _, q, _⟩ := h2
    rw [z] at q; cases q
theorem RelS.notin (s : RelS K mg H S I A) (h : H p = none) : p ∉ A := fun hm => s.trk hm h
theorem RelS.inone (s : RelS K mg H S I A) (h : H p = none) : I p = none := by
  cases e : I p with
  | none => rfl
  | some o => rw [s.sub p o e] at h; cases h
theorem RepO.mono {I' : Hp} {A' : List Addr} {a : Addr} {ob : Ob} (hI : Same I I') (hA : ∀ (n : Nat) (a : Addr), A[n]? = some a → A'[n]? = some a) (hH : H' a = H a) (h : RepO K mg I A H a ob) : RepO K mg I' A' H' a ob := by
  cases ob with
  | lst ds =>
    obtain ⟨xs, h1, h2⟩ := h
    exact ⟨xs, hH.trans h1, h2.mono hI hA⟩
  | ins c fs =>
    obtain ⟨C, dx, vs, h1, h2, h3⟩ := h
    exact ⟨C, dx, vs, h1, hH.trans h2, Paired.mapP h3 fun p q z => ⟨z.1, z.2.mono hI hA⟩⟩
theorem same_upd (h : H p = none) : Same H (upd H p o) := fun b u e => by rw [upd_ne (ne_of_none e h)]; exact e
/-- a new thing that never changes -/
theorem RelS.new (s : RelS K mg H S I A) (h : H p = none) : RelS K mg (upd H p o) S (upd I p o) A where
  sub := fun b u e => by
    by_cases hb : b = p
    · subst hb; rw [upd_same] at e ⊢; exact e
    · rw [upd_ne hb] at e ⊢; exact s.sub b u e
  len := s.len
  nd := s.nd
  out := fun a ha => by
    rw [upd_ne (show a ≠ p from fun e => s.notin h (e ▸ ha))]; exact s.out a ha
  st := fun n ob e => by
    obtain ⟨a, h1, h2⟩ := s.st n ob e
    have hne : a ≠ p := fun e => s.notin h (e ▸ List.mem_of_getElem? h1)
    exact ⟨a, h1, h2.mono (same_upd (s.inone h)) (fun _ _ z => z) (upd_ne hne)⟩
theorem RelS.newX (s : RelS K mg H S I A) (h : H p = none) : Ext H I A (upd H p o) (upd I p o) A :=
  ⟨fun b u e _ => same_upd h b u e, fun b e => by
    by_cases hb : b = p
    · subst hb; rw [upd_same]; simp
    · rw [upd_ne hb]; exact e, same_upd (s.inone h), fun b e hi => by
    by_cases hb : b = p
    · subst hb; exact absurd h e
    · rw [upd_ne hb]; exact hi, [], by simp, by simp⟩
theorem Rel.new (r : Rel K mg E σ H ρ S I A) (h : H p = none) : Rel K mg E σ (upd H p o) ρ S (upd I p o) A := r.step (r.s.new h) (r.s.newX h)
theorem new_at {H : Hp} : (upd H p o) p = some o := upd_same
/-- a new tracked thing that nothing tells of: I and A stay -/
theorem RelS.tmp (s : RelS K mg H S I A) (h : H p = none) : RelS K mg (upd H p o) S I A where
  sub := fun b u e => same_upd h b u (s.sub b u e)
  len := s.len
  nd := s.nd
  out := s.out
  st := fun n ob e => by
    obtain ⟨a, h1, h2⟩ := s.st n ob e
    have hne : a ≠ p := fun e => s.notin h (e ▸ List.mem_of_getElem? h1)
    exact ⟨a, h1, h2.mono (Same.refl _) (fun _ _ z => z) (upd_ne hne)⟩
theorem RelS.tmpX (s : RelS K mg H S I A) (h : H p = none) : Ext H I A (upd H p o) I A :=
  ⟨fun b u e _ => same_upd h b u e, fun b e => by
    by_cases hb : b = p
    · subst hb; rw [upd_same]; simp
    · rw [upd_ne hb]; exact e, Same.refl _, fun b e hi => hi, [], by simp, by simp⟩
theorem Rel.tmp (r : Rel K mg E σ H ρ S I A) (h : H p = none) : Rel K mg E σ (upd H p o) ρ S I A := r.step (r.s.tmp h) (r.s.tmpX h)
/-- a new list of the store -/
theorem RelS.alloc (s : RelS K mg H S I A) (h : H p = none) {xs : List V} {ds : List D} (hr : Reps K I A xs ds) : RelS K mg (upd H p (.lst xs)) (S ++ [.lst ds]) I (A ++ [p]) where
  sub := fun b u e => same_upd h b u (s.sub b u e)
  len := by simp [s.len]
  nd := List.nodup_append.mpr ⟨s.nd, by simp, fun a ha b hb => by simp at hb; subst hb; exact fun e => s.notin h (e ▸ ha)⟩
  out := fun a ha => by
    rcases List.mem_append.mp ha with z | z
    · exact s.out a z
    · simp at z; subst z; exact s.inone h
  st := fun n ob e => by
    have hax : ∀ (n : Nat) (a : Addr), A[n]? = some a → (A ++ [p])[n]? = some a := fun n a z => by
      rw [List.getElem?_append_left (List.getElem?_eq_some_iff.mp z).1]; exact z
    by_cases hn : n < S.length
    · rw [List.getElem?_append_left hn] at e
      obtain ⟨a, h1, h2⟩ := s.st n ob e
      have hne : a ≠ p := fun e => s.notin h (e ▸ List.mem_of_getElem? h1)
      exact ⟨a, hax n a h1, h2.mono (Same.refl _) hax (upd_ne hne)⟩
    · have hn2 : n = S.length := by
        have := (List.getElem?_eq_some_iff.mp e).1
        simp at this; omega
      subst hn2
      simp at e
      subst e
      exact ⟨p, by rw [← s.len]; simp, xs, upd_same, hr.mono (Same.refl _) hax⟩
theorem RelS.allocX (s : RelS K mg H S I A) (h : H p = none) : Ext H I A (upd H p o) I (A ++ [p]) :=
  ⟨fun b u e _ => same_upd h b u e, fun b e => by
    by_cases hb : b = p
    · subst hb; rw [upd_same]; simp
    · rw [upd_ne hb]; exact e, Same.refl _, fun b e hi => hi, [p], rfl, by simp [h]⟩
end

/-! ### operators -/
/-- what an operator's reading is worth on data -/
def OpOk (K : PySem.W.Frag) (mg : Str → Option Value) (r : R2) (f : D → D → Option D) : Prop :=
  ∀ (x y z : D) (v w : V) (H : Hp) (S : Sto) (I : Hp) (A : List Addr) (Q : VK), RelS K mg H S I A → Rep K I A v x → Rep K I A w y → f x y = some z →
    (∀ u H' I', RelS K mg H' S I' A → Ext H I A H' I' A → Rep K I' A u z → Q u H') → r v w H Q
def UnOk (K : PySem.W.Frag) (mg : Str → Option Value) (r : V → Hp → VK → Prop) (f : D → Option D) : Prop :=
  ∀ (x z : D) (v : V) (H : Hp) (S : Sto) (I : Hp) (A : List Addr) (Q : VK), RelS K mg H S I A → Rep K I A v x → f x = some z →
    (∀ u H' I', RelS K mg H' S I' A → Ext H I A H' I' A → Rep K I' A u z → Q u H') → r v H Q
/-- a call's -/
def CaOk (K : PySem.W.Frag) (mg : Str → Option Value) (r : List V → Hp → VK → Prop) (f : List D → Option D) : Prop :=
  ∀ (xs : List D) (z : D) (vs : List V) (H : Hp) (S : Sto) (I : Hp) (A : List Addr) (Q : VK), RelS K mg H S I A → Reps K I A vs xs → f xs = some z →
    (∀ u H' I', RelS K mg H' S I' A → Ext H I A H' I' A → Rep K I' A u z → Q u H') → r vs H Q
def eBin (f : D → D → Option D) (a b : EM D) : EM D := fun ρ S => (a ρ S).bind fun x S1 => (b ρ S1).bind fun y S2 => opt (f x y) S2
def eUn (f : D → Option D) (a : EM D) : EM D := fun ρ S => (a ρ S).bind fun x S1 => opt (f x) S1
def eFn (f : List D → Option D) (a : EM (List D)) : EM D := fun ρ S => (a ρ S).bind fun x S1 => opt (f x) S1
def boolOf : D → Option Bool
  | .bl b => some b
  | _ => none
/-- a test by an expression that gives a bool -/
def eTest (a : EM D) : EM Bool := fun ρ S => (a ρ S).bind fun x S1 => opt (boolOf x) S1

abbrev ROr (r r' : R2) : R2 := fun x y H Q => r x y H Q ∨ r' x y H Q
def orElse (f g : D → D → Option D) : D → D → Option D := fun x y => match f x y with
  | some z => some z
  | none => g x y
theorem OpOk.or {K : PySem.W.Frag} {mg : Str → Option Value} {r r' : R2} {f g : D → D → Option D} (h : OpOk K mg r f) (h' : OpOk K mg r' g) : OpOk K mg (ROr r r') (orElse f g) := by
  intro x y z v w H S I A Q s rv rw' e k
  unfold orElse at e
  cases q : f x y with
  | some z' => rw [q] at e; cases e; exact .inl (h x y z v w H S I A Q s rv rw' q k)
  | none => rw [q] at e; exact .inr (h' x y z v w H S I A Q s rv rw' e k)
section
variable {X : Cx} {E : Entry} {W : WX} {a b c : Expr} {ma mb mc : EM D} {pos : Pos}
theorem de_bin {op : Operator} {r : R2} {f : D → D → Option D} (ho : OpR X (binaryOp op) r) (hf : OpOk X.K X.mg r f) (ha : ME X E W a ma) (hb : ME X E W b mb) : ME X E W (.BinOp a op b pos) (eBin f ma mb) := by
  refine PE.imp (pe_op ho ha hb) fun σ H Q ⟨ρ, S, I, A, r, p⟩ => ?_
  refine seq1 r p fun x v H1 S1 I1 A1 r1 x1 q1 p1 => ?_
  refine seq1 r1 p1 fun y w H2 S2 I2 A2 r2 x2 q2 p2 => ?_
  obtain ⟨z, e, k⟩ := p2.some
  exact hf x y z v w H2 S2 I2 A2 Q r2.s (x2.rep q1) q2 e fun u H' I' s' x' q' => k u H' I' A2 (r2.step s' x') x' q'
theorem de_un {op : UnaryOp} {r : V → Hp → VK → Prop} {f : D → Option D} (ho : UnR X (unaryOp op) r) (hf : UnOk X.K X.mg r f) (ha : ME X E W a ma) : ME X E W (.UnaryOp op a pos) (eUn f ma) := by
  refine PE.imp (pe_un ho ha) fun σ H Q ⟨ρ, S, I, A, r, p⟩ => ?_
  refine seq1 r p fun x v H1 S1 I1 A1 r1 x1 q1 p1 => ?_
  obtain ⟨z, e, k⟩ := p1.some
  exact hf x z v H1 S1 I1 A1 Q r1.s q1 e fun u H' I' s' x' q' => k u H' I' A1 (r1.step s' x') x' q'
theorem de_cmp {op : CmpOp} {r : R2} {f : D → D → Option D} (ho : OpR X (compareOp op) r) (hf : OpOk X.K X.mg r f) (ha : ME X E W a ma) (hb : ME X E W b mb) (hm : behindInMarks op b = false) : ME X E W (.Compare a [op] [b] pos) (eBin f ma mb) := by
  refine PE.imp (pe_cmpR ho ha hb hm) fun σ H Q ⟨ρ, S, I, A, r, p⟩ => ?_
  refine seq1 r p fun x v H1 S1 I1 A1 r1 x1 q1 p1 => ?_
  refine seq1 r1 p1 fun y w H2 S2 I2 A2 r2 x2 q2 p2 => ?_
  obtain ⟨z, e, k⟩ := p2.some
  exact hf x y z v w H2 S2 I2 A2 Q r2.s (x2.rep q1) q2 e fun u H' I' s' x' q' => k u H' I' A2 (r2.step s' x') x' q'
theorem rep_bool {K : PySem.W.Frag} {I : Hp} {A : List Addr} {v : V} {x : D} {b : Bool} (h : Rep K I A v x) (e : boolOf x = some b) : v = .bl b := by
  cases x <;> simp [boolOf] at e
  subst e
  cases h; rfl
theorem test_of {σ : L2.St} {H : Hp} {Q : Bool → Hp → Prop} {m : EM D} (h : lft X.K X.mg E W rB (eTest m) σ H Q) : lft X.K X.mg E W (rD X.K) m σ H fun v H' => ∃ k, v = .bl k ∧ Q k H' := by
  obtain ⟨ρ, S, I, A, r, p⟩ := h
  refine seq1 r p fun x v H1 S1 I1 A1 r1 x1 q1 p1 => ?_
  obtain ⟨b, eb, k⟩ := p1.some
  exact ⟨b, rep_bool q1 eb, k b H1 I1 A1 r1 (Ext.refl _ _ _) rfl⟩
theorem bin_go {r : R2} {f : D → D → Option D} (hf : OpOk X.K X.mg r f) {σ : L2.St} {H : Hp} {Q : VK} (h : lft X.K X.mg E W (rD X.K) (eBin f ma mb) σ H Q) : tOp r (lft X.K X.mg E W (rD X.K) ma) (lft X.K X.mg E W (rD X.K) mb) σ H Q := by
  obtain ⟨ρ, S, I, A, r, p⟩ := h
  refine seq1 r p fun x v H1 S1 I1 A1 r1 x1 q1 p1 => ?_
  refine seq1 r1 p1 fun y w H2 S2 I2 A2 r2 x2 q2 p2 => ?_
  obtain ⟨z, e, k⟩ := p2.some
  exact hf x y z v w H2 S2 I2 A2 Q r2.s (x2.rep q1) q2 e fun u H' I' s' x' q' => k u H' I' A2 (r2.step s' x') x' q'
/-- a test by a comparison -/
theorem dt_cmp {op : CmpOp} {r : R2} {f : D → D → Option D} (ho : OpR X (compareOp op) r) (hf : OpOk X.K X.mg r f) (ha : ME X E W a ma) (hb : ME X E W b mb) (hm : behindInMarks op b = false) : MT X E W (.Compare a [op] [b] pos) (eTest (eBin f ma mb)) :=
  PT.imp (pt_cmpR ho ha hb hm) fun σ H Q h => bin_go hf (test_of h)
/-- a test by a value -/
theorem dt_val (ha : ME X E W a ma) (he : ∀ whole, isTrue a X.env whole = (do let v ← whole; standAt a.pos; holding [v] (truthy v)) := by intro _; rfl) : MT X E W a (eTest ma) := by
  refine PT.imp (pt_val ha he) fun σ H Q ⟨ρ, S, I, A, r, p⟩ => ?_
  refine seq1 r p fun x v H1 S1 I1 A1 r1 x1 q1 p1 => ?_
  obtain ⟨b, eb, k⟩ := p1.some
  exact ⟨b, rep_bool q1 eb, k b H1 I1 A1 r1 (Ext.refl _ _ _) rfl⟩
end

/-! ### and, or, not, if-expressions -/
def eIte (t : EM Bool) (a b : EM D) : EM D := fun ρ S => (t ρ S).bind fun c S1 => if c = true then a ρ S1 else b ρ S1
def tAnd' (t u : EM Bool) : EM Bool := fun ρ S => (t ρ S).bind fun c S1 => if c = true then u ρ S1 else .ok false S1
def tOr' (t u : EM Bool) : EM Bool := fun ρ S => (t ρ S).bind fun c S1 => if c = true then .ok true S1 else u ρ S1
def tNot' (t : EM Bool) : EM Bool := fun ρ S => (t ρ S).bind fun c S1 => .ok (!c) S1
/-- as values, the left one a bool -/
def eAnd (a b : EM D) : EM D := fun ρ S => (a ρ S).bind fun x S1 => (opt (boolOf x) S1).bind fun c S1 => if c = true then b ρ S1 else .ok (.bl false) S1
def eOr (a b : EM D) : EM D := fun ρ S => (a ρ S).bind fun x S1 => (opt (boolOf x) S1).bind fun c S1 => if c = true then .ok (.bl true) S1 else b ρ S1
def eNot (a : EM D) : EM D := fun ρ S => (a ρ S).bind fun x S1 => (opt (boolOf x) S1).bind fun c S1 => .ok (.bl (!c)) S1
section
variable {X : Cx} {E : Entry} {W : WX} {a b c : Expr} {ma mb mc : EM D} {ta tb : EM Bool} {pos : Pos} {rest : List Expr}
theorem de_ite (hc : MT X E W c ta) (ha : ME X E W a ma) (hb : ME X E W b mb) : ME X E W (.IfExp c a b pos) (eIte ta ma mb) := by
  refine PE.imp (pe_ifExp hc ha hb) fun σ H Q ⟨ρ, S, I, A, r, p⟩ => ?_
  refine seq1 r p fun x v H1 S1 I1 A1 r1 x1 q1 p1 => ?_
  cases q1
  cases x with
  | true => rw [if_pos rfl] at p1 ⊢; exact ⟨ρ, S1, I1, A1, r1, p1⟩
  | false => rw [if_neg Bool.false_ne_true] at p1 ⊢; exact ⟨ρ, S1, I1, A1, r1, p1⟩
abbrev MW (X : Cx) (E : Entry) (W : WX) (e : Expr) (m : EM Bool) : Prop := PW X e (lft X.K X.mg E W rB m)
theorem PW.imp {X : Cx} {e : Expr} {t t' : TT} (h : PW X e t) (hi : ∀ σ H Q, t' σ H Q → t σ H Q) : PW X e t' := ⟨fun wh pins s σ H Q I q => h.run wh pins s σ H Q I (hi σ H Q q)⟩
theorem dw_and1 (ha : MT X E W a ta) : MW X E W (.BoolOp .And [a] pos) ta := pw_and1 ha
theorem dw_or1 (ha : MT X E W a ta) : MW X E W (.BoolOp .Or [a] pos) ta := pw_or1 ha
theorem dw_and (ha : MT X E W a ta) (hb : MW X E W (.BoolOp .And (b :: rest) pos) tb) : MW X E W (.BoolOp .And (a :: b :: rest) pos) (tAnd' ta tb) := by
  refine PW.imp (pw_and ha hb) fun σ H Q ⟨ρ, S, I, A, r, p⟩ => ?_
  refine seq1 r p fun x v H1 S1 I1 A1 r1 x1 q1 p1 => ?_
  cases q1
  cases x with
  | true => rw [if_pos rfl] at p1 ⊢; exact ⟨ρ, S1, I1, A1, r1, p1⟩
  | false => rw [if_neg Bool.false_ne_true] at p1 ⊢; exact p1 false H1 I1 A1 r1 (Ext.refl _ _ _) rfl
theorem dw_or (ha : MT X E W a ta) (hb : MW X E W (.BoolOp .Or (b :: rest) pos) tb) : MW X E W (.BoolOp .Or (a :: b :: rest) pos) (tOr' ta tb) := by
  refine PW.imp (pw_or ha hb) fun σ H Q ⟨ρ, S, I, A, r, p⟩ => ?_
  refine seq1 r p fun x v H1 S1 I1 A1 r1 x1 q1 p1 => ?_
  cases q1
  cases x with
  | true => rw [if_pos rfl] at p1 ⊢; exact p1 true H1 I1 A1 r1 (Ext.refl _ _ _) rfl
  | false => rw [if_neg Bool.false_ne_true] at p1 ⊢; exact ⟨ρ, S1, I1, A1, r1, p1⟩
theorem dt_w (h : MW X E W a ta) : MT X E W a ta := h.pt
theorem dt_not (ha : MT X E W a ta) : MT X E W (.UnaryOp .Not a pos) (tNot' ta) := by
  refine PT.imp (pt_not ha) fun σ H Q ⟨ρ, S, I, A, r, p⟩ => ?_
  refine seq1 r p fun x v H1 S1 I1 A1 r1 x1 q1 p1 => ?_
  cases q1
  exact p1 (!x) H1 I1 A1 r1 (Ext.refl _ _ _) rfl
theorem de_one {op : BoolOp} (ha : ME X E W a ma) : ME X E W (.BoolOp op [a] pos) ma := pe_one ha
theorem de_and (ha : ME X E W a ma) (hb : ME X E W (.BoolOp .And (b :: rest) pos) mb) : ME X E W (.BoolOp .And (a :: b :: rest) pos) (eAnd ma mb) := by
  refine PE.imp (pe_and ha hb) fun σ H Q ⟨ρ, S, I, A, r, p⟩ => ?_
  refine seq1 r p fun x v H1 S1 I1 A1 r1 x1 q1 p1 => ?_
  cases e : boolOf x with
  | none => rw [e] at p1; exact p1.elim
  | some b =>
    rw [e] at p1
    refine ⟨b, rep_bool q1 e, ?_⟩
    rw [opt_some, Out.bind_ok] at p1
    cases b with
    | true => rw [if_pos rfl] at p1 ⊢; exact ⟨ρ, S1, I1, A1, r1, p1⟩
    | false => rw [if_neg Bool.false_ne_true] at p1 ⊢; exact p1 _ H1 I1 A1 r1 (Ext.refl _ _ _) (.bl false)
theorem de_or (ha : ME X E W a ma) (hb : ME X E W (.BoolOp .Or (b :: rest) pos) mb) : ME X E W (.BoolOp .Or (a :: b :: rest) pos) (eOr ma mb) := by
  refine PE.imp (pe_or ha hb) fun σ H Q ⟨ρ, S, I, A, r, p⟩ => ?_
  refine seq1 r p fun x v H1 S1 I1 A1 r1 x1 q1 p1 => ?_
  cases e : boolOf x with
  | none => rw [e] at p1; exact p1.elim
  | some b =>
    rw [e] at p1
    refine ⟨b, rep_bool q1 e, ?_⟩
    rw [opt_some, Out.bind_ok] at p1
    cases b with
    | true => rw [if_pos rfl] at p1 ⊢; exact p1 _ H1 I1 A1 r1 (Ext.refl _ _ _) (.bl true)
    | false => rw [if_neg Bool.false_ne_true] at p1 ⊢; exact ⟨ρ, S1, I1, A1, r1, p1⟩
theorem de_not (ha : ME X E W a ma) : ME X E W (.UnaryOp .Not a pos) (eNot ma) := by
  refine PE.imp (pe_not ha) fun σ H Q ⟨ρ, S, I, A, r, p⟩ => ?_
  refine seq1 r p fun x v H1 S1 I1 A1 r1 x1 q1 p1 => ?_
  cases e : boolOf x with
  | none => rw [e] at p1; exact p1.elim
  | some b =>
    rw [e] at p1
    exact ⟨b, rep_bool q1 e, p1 _ H1 I1 A1 r1 (Ext.refl _ _ _) (.bl _)⟩
end

/-! ### arguments, displays -/
def aNil : EM (List D) := fun _ S => .ok [] S
def aCons (a : EM D) (r : EM (List D)) : EM (List D) := fun ρ S => (a ρ S).bind fun x S1 => (r ρ S1).bind fun xs S2 => .ok (x :: xs) S2
def eTup (a : EM (List D)) : EM D := fun ρ S => (a ρ S).bind fun xs S1 => if xs.length ≤ sizeLine then .ok (.tup xs) S1 else .bad
def eLst (a : EM (List D)) : EM D := fun ρ S => (a ρ S).bind fun xs S1 => if xs.length ≤ sizeLine then .ok (.lst xs) S1 else .bad
/-- a display that makes an object of the store -/
def eNew (a : EM (List D)) : EM D := fun ρ S => (a ρ S).bind fun xs S1 => if xs.length ≤ sizeLine then .ok (.obj S1.length) (S1 ++ [.lst xs]) else .bad
section
variable {X : Cx} {E : Entry} {W : WX} {e : Expr} {es : List Expr} {m : EM D} {ms : EM (List D)} {pos : Pos}
theorem da_nil : MA X E W [] aNil := by
  refine PA.imp pa_nil fun σ H Q ⟨ρ, S, I, A, r, p⟩ => ?_
  exact p [] H I A r (Ext.refl _ _ _) .nil
theorem da_cons (ha : ME X E W e m) (hr : MA X E W es ms) (hs : starEach (e :: es) X.env = (false, eval e X.env) :: starEach es X.env := by rfl) : MA X E W (e :: es) (aCons m ms) := by
  refine PA.imp (pa_cons ha hr hs) fun σ H Q ⟨ρ, S, I, A, r, p⟩ => ?_
  refine seq1 r p fun x v H1 S1 I1 A1 r1 x1 q1 p1 => ?_
  refine seq1 r1 p1 fun y w H2 S2 I2 A2 r2 x2 q2 p2 => ?_
  exact p2 (v :: w) H2 I2 A2 r2 (Ext.refl _ _ _) (.cons (x2.rep q1) q2)
theorem de_tup {x1 : Nat} (h : MA X E W es ms) : ME X E W (.Tuple es x1 pos) (eTup ms) := by
  refine PE.imp (pe_tup h) fun σ H Q ⟨ρ, S, I, A, r, p⟩ => ?_
  refine seq1 r p fun xs vs H1 S1 I1 A1 r1 x1 q1 p1 => ?_
  by_cases hl : xs.length ≤ sizeLine
  · rw [if_pos hl] at p1
    refine ⟨by rw [Reps.length q1]; exact hl, fun a ha => ?_⟩
    have x2 := r1.s.newX (o := .tup vs) ha
    exact p1 (.ref a) _ _ _ (r1.new ha) x2 (.tup (SqT.of upd_same) (x2.reps q1))
  · rw [if_neg hl] at p1; exact p1.elim
theorem de_lst (h : MA X E W es ms) : ME X E W (.List es pos) (eLst ms) := by
  refine PE.imp (pe_lst h) fun σ H Q ⟨ρ, S, I, A, r, p⟩ => ?_
  refine seq1 r p fun xs vs H1 S1 I1 A1 r1 x1 q1 p1 => ?_
  by_cases hl : xs.length ≤ sizeLine
  · rw [if_pos hl] at p1
    refine ⟨by rw [Reps.length q1]; exact hl, fun a ha => ?_⟩
    have x2 := r1.s.newX (o := .lst vs) ha
    exact p1 (.ref a) _ _ _ (r1.new ha) x2 (.lst upd_same (x2.reps q1))
  · rw [if_neg hl] at p1; exact p1.elim
theorem de_new (h : MA X E W es ms) : ME X E W (.List es pos) (eNew ms) := by
  refine PE.imp (pe_lst h) fun σ H Q ⟨ρ, S, I, A, r, p⟩ => ?_
  refine seq1 r p fun xs vs H1 S1 I1 A1 r1 x1 q1 p1 => ?_
  by_cases hl : xs.length ≤ sizeLine
  · rw [if_pos hl] at p1
    refine ⟨by rw [Reps.length q1]; exact hl, fun a ha => ?_⟩
    have x2 := r1.s.allocX (o := .lst vs) ha
    exact p1 (.ref a) _ _ _ (r1.step (r1.s.alloc ha q1) x2) x2 (.obj (by rw [← r1.s.len]; simp))
  · rw [if_neg hl] at p1; exact p1.elim
end

/-! ### calls of what is built in -/
section
variable {X : Cx} {E : Entry} {W : WX} {e : Expr} {es : List Expr} {m : EM D} {ms : EM (List D)} {pos p : Pos} {x : Str} {r : List V → Hp → VK → Prop} {f : List D → Option D}
theorem call_go (hf : CaOk X.K X.mg r f) {σ : L2.St} {H : Hp} {Q : VK} (h : lft X.K X.mg E W (rD X.K) (eFn f ms) σ H Q) : tCB r (lft X.K X.mg E W (rDs X.K) ms) σ H Q := by
  obtain ⟨ρ, S, I, A, r, p⟩ := h
  refine seq1 r p fun xs vs H1 S1 I1 A1 r1 x1 q1 p1 => ?_
  obtain ⟨z, e, k⟩ := p1.some
  exact hf xs z vs H1 S1 I1 A1 Q r1.s q1 e fun u H' I' s' x' q' => k u H' I' A1 (r1.step s' x') x' q'
theorem de_callB {id : String} (hc : CallR X (.builtin id) r) (hf : CaOk X.K X.mg r f) (hg : Gl X x) (hm : X.mg x = none) (hv : bootBuiltins x = some (.builtin id)) (ha : MA X E W (e :: es) ms) (hn : x ≠ "__name__" := by decide) (hdb : (x == ("__debug__" : Str)) = false := by decide)
    (he : starEach (e :: es) X.env = (false, eval e X.env) :: starEach es X.env := by rfl) (hpl : (backTo pos (starEach es X.env)).any (·.1) = false := by rfl) : ME X E W (.Call (.Name x p) (e :: es) [] pos) (eFn f ms) :=
  PE.imp (pe_callB hc hg hm hv ha hn hdb he hpl) fun σ H Q h => call_go hf h
theorem de_callTy {T : String} (hc : CallR X (.type T) r) (hf : CaOk X.K X.mg r f) (hg : Gl X x) (hm : X.mg x = none) (hv : bootBuiltins x = some (.type T)) (ha : MA X E W (e :: es) ms) (hn : x ≠ "__name__" := by decide) (hdb : (x == ("__debug__" : Str)) = false := by decide)
    (he : starEach (e :: es) X.env = (false, eval e X.env) :: starEach es X.env := by rfl) (hpl : (backTo pos (starEach es X.env)).any (·.1) = false := by rfl) : ME X E W (.Call (.Name x p) (e :: es) [] pos) (eFn f ms) :=
  PE.imp (pe_callTy hc hg hm hv ha hn hdb he hpl) fun σ H Q h => call_go hf h
end
end DL
set_option Elab.async false
set_option linter.all false
set_option maxRecDepth 100000
set_option maxHeartbeats 2000000
set_option autoImplicit false
namespace DL
open PySem L2

/-! ### arithmetic -/
def addI : D → D → Option D
  | .int i, .int j => some (.int (i + j))
  | _, _ => none
def subI : D → D → Option D
  | .int i, .int j => some (.int (i - j))
  | _, _ => none
def addIB : D → D → Option D
  | .int i, .bl k => some (.int (i + PyProof.Rows.b2i k))
  | _, _ => none
def mulW (i j : Int) : Bool := decide (i.natAbs.log2 + j.natAbs.log2 < 1000000)
def mulN (i j : Int) : Bool := decide (-(2 ^ 64) < i ∧ i < 2 ^ 64) || decide (-(2 ^ 64) < j ∧ j < 2 ^ 64)
def mulI1 : D → D → Option D
  | .int i, .int j => if mulW i j = true then some (.int (i * j)) else none
  | _, _ => none
def mulI2 : D → D → Option D
  | .int i, .int j => if mulN i j = true then some (.int (i * j)) else none
  | _, _ => none
def mulI : D → D → Option D
  | .int i, .int j => if (mulN i j || mulW i j) = true then some (.int (i * j)) else none
  | _, _ => none
def divW (j : Int) : Bool := decide (0 < j) && decide (j.natAbs.log2 < 9000)
def fdivI : D → D → Option D
  | .int i, .int j => if divW j = true then some (.int (i / j)) else none
  | _, _ => none
def modI : D → D → Option D
  | .int i, .int j => if 0 < j then some (.int (i % j)) else none
  | _, _ => none
def powI : D → D → Option D
  | .int i, .int j => if 0 ≤ j ∧ j ≤ 1000000 ∧ i.natAbs < 2 ^ 64 then some (.int (i ^ j.toNat)) else none
  | _, _ => none
def negI : D → Option D
  | .int i => some (.int (-i))
  | _ => none
def cmpI (p : Int → Int → Bool) : D → D → Option D
  | .int i, .int j => some (.bl (p i j))
  | _, _ => none
abbrev ltI := cmpI fun i j => decide (i < j)
abbrev leI := cmpI fun i j => decide (i ≤ j)
abbrev gtI := cmpI fun i j => decide (j < i)
abbrev geI := cmpI fun i j => decide (j ≤ i)
def addS : D → D → Option D
  | .str i, .str j => if i.length + j.length ≤ sizeLine then some (.str (i ++ j)) else none
  | _, _ => none
def catL : D → D → Option D
  | .lst xs, .lst ys => if xs.length + ys.length ≤ sizeLine then some (.lst (xs ++ ys)) else none
  | _, _ => none
def catT : D → D → Option D
  | .tup (x :: xs), .tup ys => if (x :: xs).length + ys.length ≤ sizeLine then some (.tup ((x :: xs) ++ ys)) else none
  | _, _ => none
def addD : D → D → Option D := orElse addI (orElse addIB (orElse addS (orElse catL catT)))

section
variable {K : PySem.W.Frag} {mg : Str → Option Value}
theorem ok_rI {C : Int → Int → Prop} [∀ i j, Decidable (C i j)] {g : Int → Int → V} {g' : Int → Int → D} (hg : ∀ i j I A, Rep K I A (g i j) (g' i j)) :
    OpOk K mg (rI C g) (fun x y => match x, y with | .int i, .int j => if C i j then some (g' i j) else none | _, _ => none) := by
  intro x y z v w H S I A Q s rv rw' e k
  cases x <;> first | (cases e; done) | skip
  cases y <;> first | (cases e; done) | skip
  rename_i i j
  cases rv
  cases rw'
  dsimp only at e
  by_cases h : C i j
  · rw [if_pos h] at e; cases e
    exact ⟨i, j, rfl, rfl, h, k _ H I s (Ext.refl _ _ _) (hg i j I A)⟩
  · rw [if_neg h] at e; cases e
theorem ok_rI0 {g : Int → Int → V} {g' : Int → Int → D} (hg : ∀ i j I A, Rep K I A (g i j) (g' i j)) :
    OpOk K mg (rI0 g) (fun x y => match x, y with | .int i, .int j => some (g' i j) | _, _ => none) := by
  intro x y z v w H S I A Q s rv rw' e k
  cases x <;> first | (cases e; done) | skip
  cases y <;> first | (cases e; done) | skip
  rename_i i j
  cases rv
  cases rw'
  cases e
  exact ⟨i, j, rfl, rfl, k _ H I s (Ext.refl _ _ _) (hg i j I A)⟩
theorem OpOk.congr {r : R2} {f g : D → D → Option D} (h : OpOk K mg r f) (e : ∀ x y, g x y = f x y) : OpOk K mg r g := by
  have : g = f := by funext x y; exact e x y
  rw [this]; exact h
theorem ok_addI : OpOk K mg (rI0 fun i j => .int (i + j)) addI := (ok_rI0 (g' := fun i j => .int (i + j)) fun _ _ _ _ => .int _).congr fun x y => by cases x <;> cases y <;> rfl
theorem ok_subI : OpOk K mg (rI0 fun i j => .int (i - j)) subI := (ok_rI0 (g' := fun i j => .int (i - j)) fun _ _ _ _ => .int _).congr fun x y => by cases x <;> cases y <;> rfl
theorem ok_cmpI (p : Int → Int → Bool) : OpOk K mg (rI0 fun i j => .bl (p i j)) (cmpI p) := (ok_rI0 (g' := fun i j => .bl (p i j)) fun _ _ _ _ => .bl _).congr fun x y => by cases x <;> cases y <;> rfl
instance (i j : Int) : Decidable (CMulW i j) := by unfold CMulW; exact inferInstance
instance (i j : Int) : Decidable (CDivW i j) := by unfold CDivW; exact inferInstance
instance (i j : Int) : Decidable (CPow i j) := by unfold CPow; exact inferInstance
instance (i j : Int) : Decidable (CMul i j) := by unfold CMul; exact inferInstance
theorem ok_mulI2 : OpOk K mg (rI CMul fun i j => .int (i * j)) mulI2 := (ok_rI (g' := fun i j => .int (i * j)) fun _ _ _ _ => .int _).congr fun x y => by
  cases x <;> cases y <;> try rfl
  simp [mulI2, mulN, CMul]
theorem ok_mulI1 : OpOk K mg (rI CMulW fun i j => .int (i * j)) mulI1 := (ok_rI (g' := fun i j => .int (i * j)) fun _ _ _ _ => .int _).congr fun x y => by
  cases x <;> cases y <;> try rfl
  simp [mulI1, mulW, CMulW]
theorem ok_mulI : OpOk K mg (ROr (rI CMul fun i j => .int (i * j)) (rI CMulW fun i j => .int (i * j))) mulI := (ok_mulI2.or ok_mulI1).congr fun x y => by
  cases x <;> cases y <;> try rfl
  rename_i i j
  show (if (mulN i j || mulW i j) = true then some (D.int (i * j)) else none) = (match (if mulN i j = true then some (D.int (i * j)) else none) with | some z => some z | none => if mulW i j = true then some (D.int (i * j)) else none)
  cases mulN i j <;> cases mulW i j <;> rfl
theorem ok_fdivI : OpOk K mg (rI CDivW fun i j => .int (i / j)) fdivI := (ok_rI (g' := fun i j => .int (i / j)) fun _ _ _ _ => .int _).congr fun x y => by
  cases x <;> cases y <;> try rfl
  simp [fdivI, divW, CDivW]
theorem ok_modI : OpOk K mg (rI (fun _ j => 0 < j) fun i j => .int (i % j)) modI := (ok_rI (g' := fun i j => .int (i % j)) fun _ _ _ _ => .int _).congr fun x y => by
  cases x <;> cases y <;> rfl
theorem ok_powI : OpOk K mg (rI CPow fun i j => .int (i ^ j.toNat)) powI := (ok_rI (g' := fun i j => .int (i ^ j.toNat)) fun _ _ _ _ => .int _).congr fun x y => by
  cases x <;> cases y <;> rfl
abbrev rIB : R2 := fun x y H Q => ∃ i k, x = .int i ∧ y = .bl k ∧ Q (.int (i + PyProof.Rows.b2i k)) H
theorem ok_addIB : OpOk K mg rIB addIB := by
  intro x y z v w H S I A Q s rv rw' e k
  cases x <;> first | (cases e; done) | skip
  cases y <;> first | (cases e; done) | skip
  cases rv; cases rw'; cases e
  exact ⟨_, _, rfl, rfl, k _ H I s (Ext.refl _ _ _) (.int _)⟩
abbrev rSS : R2 := fun x y H Q => ∃ i j, x = .str i ∧ y = .str j ∧ i.length + j.length ≤ sizeLine ∧ Q (.str (i ++ j)) H
theorem ok_addS : OpOk K mg rSS addS := by
  intro x y z v w H S I A Q s rv rw' e k
  cases x <;> first | (cases e; done) | skip
  cases y <;> first | (cases e; done) | skip
  rename_i i j
  cases rv; cases rw'
  dsimp only [addS] at e
  by_cases h : i.length + j.length ≤ sizeLine
  · rw [if_pos h] at e; cases e
    exact ⟨_, _, rfl, rfl, h, k _ H I s (Ext.refl _ _ _) (.str _)⟩
  · rw [if_neg h] at e; cases e
theorem ok_catL : OpOk K mg rCat catL := by
  intro x y z v w H S I A Q s rv rw' e k
  cases x <;> first | (cases e; done) | skip
  cases y <;> first | (cases e; done) | skip
  rename_i xs ys
  dsimp only [catL] at e
  cases rv with
  | lst h1 h2 =>
    cases rw' with
    | lst h3 h4 =>
      by_cases h : xs.length + ys.length ≤ sizeLine
      · rw [if_pos h] at e; cases e
        exact ⟨_, _, _, _, rfl, rfl, s.sub _ _ h1, s.sub _ _ h3, by rw [h2.length, h4.length]; exact h, fun p hp =>
          k _ _ _ (s.new hp) (s.newX hp) (.lst upd_same ((s.newX hp).reps (h2.append h4)))⟩
      · rw [if_neg h] at e; cases e
theorem sq_mono {I H : Hp} {a : Addr} {xs : List V} (h : Same I H) (q : SqT K I a xs) : SqT K H a xs := Same.seqT h q
theorem ok_catT : OpOk K mg (rCatT K) catT := by
  intro x y z v w H S I A Q s rv rw' e k
  cases x <;> first | (cases e; done) | skip
  rename_i xs
  cases xs with
  | nil => cases y <;> cases e
  | cons x0 xs =>
    cases y <;> first | (cases e; done) | skip
    rename_i ys
    dsimp only [catT] at e
    cases rv with
    | tup h1 h2 =>
      cases rw' with
      | tup h3 h4 =>
        by_cases h : (x0 :: xs).length + ys.length ≤ sizeLine
        · rw [if_pos h] at e; cases e
          have l1 := h2.length
          have l2 := h4.length
          refine ⟨_, _, _, _, rfl, rfl, sq_mono s.sub h1, sq_mono s.sub h3, fun z => by rw [z] at l1; simp at l1, by rw [l1, l2]; exact h, fun z => ?_, fun _ p hp => ?_⟩
          · subst z
            cases h4
            simp only [List.append_nil] at k
            exact k _ H I s (Ext.refl _ _ _) (.tup h1 h2)
          · exact k _ _ _ (s.new hp) (s.newX hp) (.tup (SqT.of upd_same) ((s.newX hp).reps (h2.append h4)))
        · rw [if_neg h] at e; cases e
abbrev rAddD (K : PySem.W.Frag) : R2 := ROr (rI0 fun i j => .int (i + j)) (ROr rIB (ROr rSS (ROr rCat (rCatT K))))
theorem ok_addD : OpOk K mg (rAddD K) addD := ok_addI.or (ok_addIB.or (ok_addS.or (ok_catL.or ok_catT)))
theorem ok_negI : UnOk K mg (rU fun i => .int (-i)) negI := by
  intro x z v H S I A Q s rv e k
  cases x <;> first | (cases e; done) | skip
  cases rv; cases e
  exact ⟨_, rfl, k _ H I s (Ext.refl _ _ _) (.int _)⟩
end
section
variable {X : Cx}
theorem op_addD : OpR X (binaryOp .Add) (rAddD X.K) := op_add.or (op_add_ib.or (op_add_str.or (op_cat.or op_catT)))
end
section
variable {X : Cx} {E : Entry} {W : WX} {a b : Expr} {ma mb : EM D} {pos : Pos}
theorem de_add (ha : ME X E W a ma) (hb : ME X E W b mb) : ME X E W (.BinOp a .Add b pos) (eBin addD ma mb) := de_bin op_addD ok_addD ha hb
theorem de_sub (ha : ME X E W a ma) (hb : ME X E W b mb) : ME X E W (.BinOp a .Sub b pos) (eBin subI ma mb) := de_bin op_sub ok_subI ha hb
theorem opr_or {X : Cx} {b : Value → Value → Sem Value} {r r' : R2} (h : OpR X b r) (h' : OpR X b r') : OpR X b (ROr r r') := fun pins s σ H x y v u Q I rx ry q => q.elim (h pins s σ H x y v u Q I rx ry) (h' pins s σ H x y v u Q I rx ry)
theorem de_mul (ha : ME X E W a ma) (hb : ME X E W b mb) : ME X E W (.BinOp a .Mult b pos) (eBin mulI ma mb) := de_bin (opr_or op_mul op_mulW) ok_mulI ha hb
theorem de_fdiv (ha : ME X E W a ma) (hb : ME X E W b mb) : ME X E W (.BinOp a .FloorDiv b pos) (eBin fdivI ma mb) := de_bin op_fdivW ok_fdivI ha hb
theorem de_mod (ha : ME X E W a ma) (hb : ME X E W b mb) : ME X E W (.BinOp a .Mod b pos) (eBin modI ma mb) := de_bin op_mod ok_modI ha hb
theorem de_pow (ha : ME X E W a ma) (hb : ME X E W b mb) : ME X E W (.BinOp a .Pow b pos) (eBin powI ma mb) := de_bin op_pow ok_powI ha hb
theorem de_neg (ha : ME X E W a ma) : ME X E W (.UnaryOp .USub a pos) (eUn negI ma) := de_un un_neg ok_negI ha
theorem de_lt (ha : ME X E W a ma) (hb : ME X E W b mb) : ME X E W (.Compare a [.Lt] [b] pos) (eBin ltI ma mb) := de_cmp op_lt (ok_cmpI _) ha hb (nomark _)
theorem de_le (ha : ME X E W a ma) (hb : ME X E W b mb) : ME X E W (.Compare a [.LtE] [b] pos) (eBin leI ma mb) := de_cmp op_le (ok_cmpI _) ha hb (nomark _)
theorem de_gt (ha : ME X E W a ma) (hb : ME X E W b mb) : ME X E W (.Compare a [.Gt] [b] pos) (eBin gtI ma mb) := de_cmp op_gt (ok_cmpI _) ha hb (nomark _)
theorem de_ge (ha : ME X E W a ma) (hb : ME X E W b mb) : ME X E W (.Compare a [.GtE] [b] pos) (eBin geI ma mb) := de_cmp op_ge (ok_cmpI _) ha hb (nomark _)
theorem dt_lt (ha : ME X E W a ma) (hb : ME X E W b mb) : MT X E W (.Compare a [.Lt] [b] pos) (eTest (eBin ltI ma mb)) := dt_cmp op_lt (ok_cmpI _) ha hb (nomark _)
theorem dt_le (ha : ME X E W a ma) (hb : ME X E W b mb) : MT X E W (.Compare a [.LtE] [b] pos) (eTest (eBin leI ma mb)) := dt_cmp op_le (ok_cmpI _) ha hb (nomark _)
theorem dt_gt (ha : ME X E W a ma) (hb : ME X E W b mb) : MT X E W (.Compare a [.Gt] [b] pos) (eTest (eBin gtI ma mb)) := dt_cmp op_gt (ok_cmpI _) ha hb (nomark _)
theorem dt_ge (ha : ME X E W a ma) (hb : ME X E W b mb) : MT X E W (.Compare a [.GtE] [b] pos) (eTest (eBin geI ma mb)) := dt_cmp op_ge (ok_cmpI _) ha hb (nomark _)
end

/-! ### == of data -/
mutual
def D.py : D → Option PyData
  | .non => some .none
  | .bl b => some (.bool b)
  | .int i => some (.int i)
  | .str x => some (.str x)
  | .tup l => match D.pys l with
    | some ds => some (.tuple ds)
    | none => none
  | .lst l => match D.pys l with
    | some ds => some (.list ds)
    | none => none
  | .scr ns => some (.list (ns.map .int))
  | .ftup l => match D.pys l with
    | some ds => some (.tuple ds)
    | none => none
  | .dct _ => none
  | .obj _ => none
  | .dsi _ => none
  | .exi _ _ _ => none
def D.pys : List D → Option (List PyData)
  | [] => some []
  | d :: ds => match D.py d, D.pys ds with
    | some x, some xs => some (x :: xs)
    | _, _ => none
end
theorem dp_ints {K : PySem.W.Frag} {H : Hp} : ∀ ns : List Int, DpAll K H (ns.map V.int) (ns.map PyData.int)
  | [] => .nil
  | n :: ns => .cons (.int n) (dp_ints ns)
section
variable {K : PySem.W.Frag} {I H : Hp} {A : List Addr}
mutual
theorem Rep.dp (s : Same I H) : ∀ (d : D) (v : V) (pd : PyData), Rep K I A v d → d.py = some pd → Dp K H v pd
  | .non, _, _, h, e => by cases h; cases e; exact .non
  | .bl b, _, _, h, e => by cases h; cases e; exact .bl b
  | .int i, _, _, h, e => by cases h; cases e; exact .int i
  | .str x, _, _, h, e => by cases h; cases e; exact .str x
  | .tup l, _, _, h, e => by
    cases h with
    | tup h1 h2 =>
      unfold D.py at e
      cases q : D.pys l with
      | none => rw [q] at e; cases e
      | some ds =>
        rw [q] at e; cases e
        exact .tup (Same.seqT s h1) (Reps.dp s l _ _ h2 q)
  | .lst l, _, _, h, e => by
    cases h with
    | lst h1 h2 =>
      unfold D.py at e
      cases q : D.pys l with
      | none => rw [q] at e; cases e
      | some ds =>
        rw [q] at e; cases e
        exact .lst (SqL.of (s _ _ h1)) (Reps.dp s l _ _ h2 q)
  | .scr ns, _, _, h, e => by
    cases h with
    | scr h1 =>
      unfold D.py at e
      cases e
      exact .lst (s.seq h1) (dp_ints ns)
  | .ftup l, _, _, h, e => by
    cases h with
    | ftup h1 _ h2 =>
      unfold D.py at e
      cases q : D.pys l with
      | none => rw [q] at e; cases e
      | some ds =>
        rw [q] at e; cases e
        exact .tup (.inl (.inr ⟨_, s _ _ h1⟩)) (Reps.dp s l _ _ h2 q)
  | .dct _, _, _, _, e => by unfold D.py at e; cases e
  | .obj _, _, _, _, e => by unfold D.py at e; cases e
theorem Reps.dp (s : Same I H) : ∀ (ds : List D) (vs : List V) (ps : List PyData), Reps K I A vs ds → D.pys ds = some ps → DpAll K H vs ps
  | [], _, _, h, e => by cases h; unfold D.pys at e; cases e; exact .nil
  | d :: ds, _, _, h, e => by
    cases h with
    | cons h1 h2 =>
      unfold D.pys at e
      cases q1 : D.py d with
      | none => rw [q1] at e; cases e
      | some x =>
        cases q2 : D.pys ds with
        | none => rw [q1, q2] at e; cases e
        | some xs =>
          rw [q1, q2] at e; cases e
          exact .cons (Rep.dp s d _ _ h1 q1) (Reps.dp s ds _ _ h2 q2)
end
end
def eqP (x y : D) : Option D := match x.py, y.py with
  | some a, some b => if SeqAt.shaped a = true ∧ SeqAt.shaped b = true then some (.bl (PyData.eqv a b)) else none
  | _, _ => none
def neP (x y : D) : Option D := match x.py, y.py with
  | some a, some b => if SeqAt.shaped a = true ∧ SeqAt.shaped b = true then some (.bl (!PyData.eqv a b)) else none
  | _, _ => none
section
variable {K : PySem.W.Frag} {mg : Str → Option Value}
theorem ok_eqP : OpOk K mg (rEqD K) eqP := by
  intro x y z v w H S I A Q s rv rw' e k
  unfold eqP at e
  cases q1 : x.py with
  | none => rw [q1] at e; cases e
  | some a =>
    cases q2 : y.py with
    | none => rw [q1, q2] at e; cases e
    | some b =>
      rw [q1, q2] at e
      dsimp only at e
      by_cases h : SeqAt.shaped a = true ∧ SeqAt.shaped b = true
      · rw [if_pos h] at e; cases e
        exact ⟨a, b, rv.dp s.sub _ _ _ q1, rw'.dp s.sub _ _ _ q2, h.1, h.2, k _ H I s (Ext.refl _ _ _) (.bl _)⟩
      · rw [if_neg h] at e; cases e
theorem ok_neP : OpOk K mg (rNeD K) neP := by
  intro x y z v w H S I A Q s rv rw' e k
  unfold neP at e
  cases q1 : x.py with
  | none => rw [q1] at e; cases e
  | some a =>
    cases q2 : y.py with
    | none => rw [q1, q2] at e; cases e
    | some b =>
      rw [q1, q2] at e
      dsimp only at e
      by_cases h : SeqAt.shaped a = true ∧ SeqAt.shaped b = true
      · rw [if_pos h] at e; cases e
        exact ⟨a, b, rv.dp s.sub _ _ _ q1, rw'.dp s.sub _ _ _ q2, h.1, h.2, k _ H I s (Ext.refl _ _ _) (.bl _)⟩
      · rw [if_neg h] at e; cases e
end
def eqS : D → D → Option D
  | .str x, .str y => some (.bl (x == y))
  | _, _ => none
def neS : D → D → Option D
  | .str x, .str y => some (.bl (!(x == y)))
  | _, _ => none
def eqD : D → D → Option D := orElse eqS eqP
def neD : D → D → Option D := orElse neS neP
section
variable {K : PySem.W.Frag} {mg : Str → Option Value}
theorem ok_eqS : OpOk K mg rEq eqS := by
  intro x y z v w H S I A Q s rv rw' e k
  cases x <;> first | (cases e; done) | skip
  cases y <;> first | (cases e; done) | skip
  cases rv; cases rw'; cases e
  exact ⟨rfl, k _ H I s (Ext.refl _ _ _) (by rw [← dec_str]; exact .bl _)⟩
theorem ok_neS : OpOk K mg rNe neS := by
  intro x y z v w H S I A Q s rv rw' e k
  cases x <;> first | (cases e; done) | skip
  cases y <;> first | (cases e; done) | skip
  cases rv; cases rw'; cases e
  exact ⟨rfl, k _ H I s (Ext.refl _ _ _) (by rw [← dec_str]; exact .bl _)⟩
theorem ok_eqD : OpOk K mg (ROr rEq (rEqD K)) eqD := ok_eqS.or ok_eqP
theorem ok_neD : OpOk K mg (ROr rNe (rNeD K)) neD := ok_neS.or ok_neP
end
section
variable {X : Cx} {E : Entry} {W : WX} {a b : Expr} {ma mb : EM D} {pos : Pos}
theorem de_eq (hu : X.A.units + 64 < cLine) (ha : ME X E W a ma) (hb : ME X E W b mb) : ME X E W (.Compare a [.Eq] [b] pos) (eBin eqD ma mb) := de_cmp (opr_or op_eq (op_eqD hu)) ok_eqD ha hb (nomark _)
theorem de_ne (hu : X.A.units + 64 < cLine) (ha : ME X E W a ma) (hb : ME X E W b mb) : ME X E W (.Compare a [.NotEq] [b] pos) (eBin neD ma mb) := de_cmp (opr_or op_ne (op_neD hu)) ok_neD ha hb (nomark _)
theorem dt_eq (hu : X.A.units + 64 < cLine) (ha : ME X E W a ma) (hb : ME X E W b mb) : MT X E W (.Compare a [.Eq] [b] pos) (eTest (eBin eqD ma mb)) := dt_cmp (opr_or op_eq (op_eqD hu)) ok_eqD ha hb (nomark _)
theorem dt_ne (hu : X.A.units + 64 < cLine) (ha : ME X E W a ma) (hb : ME X E W b mb) : MT X E W (.Compare a [.NotEq] [b] pos) (eTest (eBin neD ma mb)) := dt_cmp (opr_or op_ne (op_neD hu)) ok_neD ha hb (nomark _)
end
end DL
set_option Elab.async false
set_option linter.all false
set_option maxRecDepth 100000
set_option maxHeartbeats 2000000
set_option autoImplicit false
namespace DL
open PySem L2

/-! ### sequences -/
/-- tuple (true) or list (false), the items -/
def seqOf : D → Option (Bool × List D)
  | .tup l => some (true, l)
  | .ftup l => some (true, l)
  | .lst l => some (false, l)
  | .scr ns => some (false, ns.map .int)
  | _ => none
theorem reps_ints {K : PySem.W.Frag} {I : Hp} {A : List Addr} : ∀ ns : List Int, Reps K I A (ns.map V.int) (ns.map D.int)
  | [] => .nil
  | n :: ns => .cons (.int n) (reps_ints ns)
section
variable {K : PySem.W.Frag} {I H : Hp} {A : List Addr} {v : V} {d : D} {k : Bool} {l : List D}
theorem Rep.seq (s : Same I H) (h : Rep K I A v d) (e : seqOf d = some (k, l)) : ∃ a xs, v = .ref a ∧ (if k = true then SqT K H a xs else SqL K H a xs) ∧ Reps K I A xs l := by
  cases h <;> first | (cases e; done) | skip
  · rename_i h1 h2
    cases e
    exact ⟨_, _, rfl, by rw [if_pos rfl]; exact Same.seqT s h1, h2⟩
  · rename_i h1 h2
    cases e
    exact ⟨_, _, rfl, by rw [if_neg Bool.false_ne_true]; exact SqL.of (s _ _ h1), h2⟩
  · rename_i h1
    cases e
    exact ⟨_, _, rfl, by rw [if_neg Bool.false_ne_true]; exact s.seq h1, reps_ints _⟩
  · rename_i h1 _ h2
    cases e
    exact ⟨_, _, rfl, by rw [if_pos rfl]; exact .inl (.inr ⟨_, s _ _ h1⟩), h2⟩
theorem Rep.seqOr (s : Same I H) (h : Rep K I A v d) (e : seqOf d = some (k, l)) : ∃ a xs, v = .ref a ∧ (SqL K H a xs ∨ SqT K H a xs) ∧ Reps K I A xs l := by
  obtain ⟨a, xs, h1, h2, h3⟩ := h.seq s e
  cases k with
  | true => exact ⟨a, xs, h1, .inr (by rw [if_pos rfl] at h2; exact h2), h3⟩
  | false => exact ⟨a, xs, h1, .inl (by rw [if_neg Bool.false_ne_true] at h2; exact h2), h3⟩
end
/-- a list that stays readable: behind what keeps it -/
theorem sqL_ext {K : PySem.W.Frag} {H H1 I I1 : Hp} {A A1 : List Addr} {a : Addr} {xs : List V} (h : SqL K H a xs) (n : a ∉ A) (x : Ext H I A H1 I1 A1) : SqL K H1 a xs := by
  rcases h with (h | ⟨o, h⟩) | h
  · exact .inl (.inl (x.fr a _ h n))
  · exact .inl (.inr ⟨o, x.fr a _ h n⟩)
  · exact .inr h

/-! ### lists that are read just now -/
def eSeq (m : EM D) : EM (Bool × List D) := fun ρ S => (m ρ S).bind fun x S1 => opt (seqOf x) S1
/-- a list of the frame's own -/
def eOwn (i : Nat) : EM (Bool × List D) := fun ρ S => match ρ[i]? with
  | some (.own l) => .ok (false, l) S
  | _ => .bad
section
variable {X : Cx} {E : Entry} {W : WX} {a b : Expr} {m ma mb : EM D} {ml : EM (Bool × List D)} {pos : Pos} {x : Str}
/-- a list that stays as it is while no list of the store or of the frame's own is changed -/
def StL (K : PySem.W.Frag) (H : Hp) (A : List Addr) (a : Addr) (xs : List V) : Prop :=
  (Rd H a (.lst xs) ∧ a ∉ A) ∨ ∃ (o : Obj) (its : Array Value) (n : Nat), K.lookup a = some o ∧ o.cls = .type "list" ∧ o.dict = none ∧ o.data = .seq its n ∧ its.size ≤ sizeLine ∧ Vals xs its.toList
theorem StL.sq {K : PySem.W.Frag} {H : Hp} {A : List Addr} {a : Addr} {xs : List V} (h : StL K H A a xs) : SqL K H a xs := h.imp (fun z => z.1) id
theorem StL.ext {K : PySem.W.Frag} {H H1 I I1 : Hp} {A A1 : List Addr} {a : Addr} {xs : List V} (h : StL K H A a xs) (x : Ext H I A H1 I1 A1) : SqL K H1 a xs := by
  rcases h with ⟨h | ⟨o, h⟩, n⟩ | h
  · exact .inl (.inl (x.fr a _ h n))
  · exact .inl (.inr ⟨o, x.fr a _ h n⟩)
  · exact .inr h
/-- what stands for a sequence while it is read -/
def RdL (K : PySem.W.Frag) (H I : Hp) (A : List Addr) (p : Bool × List D) (v : V) : Prop := ∃ a xs, v = .ref a ∧ (if p.1 = true then SqT K I a xs else StL K H A a xs) ∧ Reps K I A xs p.2
abbrev MQ (X : Cx) (E : Entry) (W : WX) (e : Expr) (m : EM (Bool × List D)) : Prop := PE X e (lft X.K X.mg E W (fun p H I A v => RdL X.K H I A p v) m)
theorem Rep.rdl {K : PySem.W.Frag} {mg : Str → Option Value} {H I : Hp} {S : Sto} {A : List Addr} {v : V} {d : D} {k : Bool} {l : List D} (r : RelS K mg H S I A) (h : Rep K I A v d) (e : seqOf d = some (k, l)) : RdL K H I A (k, l) v := by
  cases h <;> first | (cases e; done) | skip
  · rename_i h1 h2
    cases e
    exact ⟨_, _, rfl, by rw [if_pos rfl]; exact h1, h2⟩
  · rename_i h1 h2
    cases e
    exact ⟨_, _, rfl, by rw [if_neg Bool.false_ne_true]; exact .inl ⟨.inl (r.sub _ _ h1), fun ha => by rw [r.out _ ha] at h1; cases h1⟩, h2⟩
  · rename_i h1
    cases e
    refine ⟨_, _, rfl, ?_, reps_ints _⟩
    rw [if_neg Bool.false_ne_true]
    rcases h1 with (h1 | ⟨o, h1⟩) | h1
    · exact .inl ⟨.inl (r.sub _ _ h1), fun ha => by rw [r.out _ ha] at h1; cases h1⟩
    · exact .inl ⟨.inr ⟨o, r.sub _ _ h1⟩, fun ha => by rw [r.out _ ha] at h1; cases h1⟩
    · exact .inr h1
  · rename_i h1 _ h2
    cases e
    exact ⟨_, _, rfl, by rw [if_pos rfl]; exact .inl (.inr ⟨_, h1⟩), h2⟩
theorem dq_val (h : ME X E W a m) : MQ X E W a (eSeq m) := by
  refine PE.imp h fun σ H Q ⟨ρ, S, I, A, r, p⟩ => ?_
  refine ⟨ρ, S, I, A, r, ?_⟩
  unfold eSeq at p
  cases e : m ρ S with
  | bad => rw [e] at p; exact p
  | exc c fs S1 => rw [e] at p; exact p
  | ok d S1 =>
    rw [e] at p
    have p' : Po X.K X.mg E W σ H I A (opt (seqOf d) S1) fun a S' => okR X.K X.mg E σ H ρ I A S' (fun H I A v => RdL X.K H I A a v) Q := p
    obtain ⟨⟨k, l⟩, eq, q⟩ := p'.some
    intro v H1 I1 A1 r1 x1 q1
    exact q v H1 I1 A1 r1 x1 (Rep.rdl r1.s q1 eq)
theorem dq_own (i : Nat) (h : PE X (.Name x pos) (tVar i)) : MQ X E W (.Name x pos) (eOwn i) := by
  refine PE.imp h fun σ H Q ⟨ρ, S, I, A, r, p⟩ => ?_
  unfold eOwn at p
  cases e : ρ[i]? with
  | none => rw [e] at p; exact p.elim
  | some sl =>
    rw [e] at p
    cases sl with
    | no => exact p.elim
    | val d => exact p.elim
    | own l =>
      obtain ⟨a, xs, h1, h2, h3, h4, h5⟩ := r.e.own i l e
      exact ⟨_, h1, p _ H I A r (Ext.refl _ _ _) ⟨a, xs, rfl, by rw [if_neg Bool.false_ne_true]; exact .inl ⟨.inl h2, h5⟩, h3⟩⟩
end
/-! ### x[i] -/
def ixQ (p : Bool × List D) : D → Option D
  | .int i => atI p.2 i
  | _ => none
def eIx (m : EM (Bool × List D)) (i : EM D) : EM D := fun ρ S => (m ρ S).bind fun p S1 => (i ρ S1).bind fun x S2 => opt (ixQ p x) S2
theorem atI_reps {K : PySem.W.Frag} {I : Hp} {A : List Addr} {xs : List V} {ds : List D} {i : Int} {z : D} (h : Reps K I A xs ds) (e : atI ds i = some z) : ∃ v, atI xs i = some v ∧ Rep K I A v z := by
  unfold atI at e ⊢
  rw [h.length]
  cases q : ixN ds.length i with
  | none => rw [q] at e; cases e
  | some j =>
    rw [q] at e
    exact h.getD e
section
variable {X : Cx} {E : Entry} {W : WX} {a b : Expr} {m ma mb : EM D} {ml : EM (Bool × List D)} {pos : Pos}
theorem de_ix (ha : MQ X E W a ml) (hb : ME X E W b mb) (hs : PlainIx b := by exact fun _ _ => rfl) : ME X E W (.Subscript a b pos) (eIx ml mb) := by
  refine PE.imp (pe_ix ix_seq ha hb hs) fun σ H Q ⟨ρ, S, I, A, r, p⟩ => ?_
  refine seq1 r p fun q v H1 S1 I1 A1 r1 x1 q1 p1 => ?_
  refine seq1 r1 p1 fun y w H2 S2 I2 A2 r2 x2 q2 p2 => ?_
  obtain ⟨z, e, k⟩ := p2.some
  obtain ⟨ad, xs, rfl, hq, hr⟩ := q1
  cases y <;> first | (cases e; done) | skip
  rename_i i
  cases q2
  obtain ⟨u, hu, ru⟩ := atI_reps (x2.reps hr) e
  have fin : Q u H2 := k u H2 I2 A2 r2 (Ext.refl _ _ _) ru
  obtain ⟨kd, l⟩ := q
  cases kd with
  | true =>
    rw [if_pos rfl] at hq
    exact .inr (.inl ⟨ad, xs, i, u, rfl, rfl, sq_mono (x2.im.trans r2.s.sub) hq, hu, fin⟩)
  | false =>
    rw [if_neg Bool.false_ne_true] at hq
    exact .inl ⟨ad, xs, i, u, rfl, rfl, hq.ext x2, hu, fin⟩
end
/-- the items of a sequence or of a list of the store -/
def itemsIn (S : Sto) : D → Option (List D)
  | .obj n => match S[n]? with
    | some (.lst l) => some l
    | _ => none
  | d => (seqOf d).map (·.2)
/-- x[k], k written: x may be a list of the store -/
def eIxK (m : EM D) (k : Int) : EM D := fun ρ S => (m ρ S).bind fun d S1 => match itemsIn S1 d with
  | some l => opt (atI l k) S1
  | none => .bad
section
variable {X : Cx} {E : Entry} {W : WX} {a b : Expr} {m ma mb : EM D} {ml : EM (Bool × List D)} {pos p2 : Pos}
theorem itemsIn_of {K : PySem.W.Frag} {mg : Str → Option Value} {H I : Hp} {S : Sto} {A : List Addr} {v : V} {d : D} {l : List D} (s : RelS K mg H S I A) (h : Rep K I A v d) (e : itemsIn S d = some l) : ∃ a xs, v = .ref a ∧ (SqL K H a xs ∨ SqT K H a xs) ∧ Reps K I A xs l := by
  have gen : (seqOf d).map (·.2) = some l → ∃ a xs, v = .ref a ∧ (SqL K H a xs ∨ SqT K H a xs) ∧ Reps K I A xs l := fun e => by
    cases q : seqOf d with
    | none => rw [q] at e; cases e
    | some kl =>
      obtain ⟨k, l'⟩ := kl
      rw [q] at e
      cases e
      exact h.seqOr s.sub q
  cases d <;> first | exact gen e | skip
  rename_i n
  cases h with
  | obj hn =>
    unfold itemsIn at e
    dsimp only at e
    cases q : S[n]? with
    | none => rw [q] at e; cases e
    | some ob =>
      rw [q] at e
      cases ob with
      | ins c fs => cases e
      | lst l' =>
        cases e
        obtain ⟨a', h1, xs, h2, h3⟩ := s.st n _ q
        rw [hn] at h1; cases h1
        exact ⟨_, xs, rfl, .inl (SqL.of h2), h3⟩
theorem de_ixk {k : Int} {j : Nat} (ha : ME X E W a m) : ME X E W (.Subscript a (.Constant (.int k) j p2) pos) (eIxK m k) := by
  refine PE.imp (pe_ix ix_seq ha pe_int (fun _ _ => rfl)) fun σ H Q ⟨ρ, S, I, A, r, p⟩ => ?_
  refine seq1 r p fun d v H1 S1 I1 A1 r1 x1 q1 p1 => ?_
  cases e : itemsIn S1 d with
  | none => rw [e] at p1; exact p1.elim
  | some l =>
    rw [e] at p1
    have p1' : Po X.K X.mg E W σ H1 I1 A1 (opt (atI l k) S1) fun c S2 => okR X.K X.mg E σ H1 ρ I1 A1 S2 (rD X.K c) Q := p1
    obtain ⟨z, ez, kk⟩ := p1'.some
    obtain ⟨ad, xs, rfl, hq, hr⟩ := itemsIn_of r1.s q1 e
    obtain ⟨u, hu, ru⟩ := atI_reps hr ez
    have fin : Q u H1 := kk u H1 I1 A1 r1 (Ext.refl _ _ _) ru
    rcases hq with hq | hq
    · exact .inl ⟨ad, xs, k, u, rfl, rfl, hq, hu, fin⟩
    · exact .inr (.inl ⟨ad, xs, k, u, rfl, rfl, hq, hu, fin⟩)
end

/-! ### x[lo:hi] -/
def cutG {α : Type} (xs : List α) (lo hi : Option Int) : List α := (xs.drop (HT.sIx xs.length 0 lo)).take (HT.sIx xs.length xs.length hi - HT.sIx xs.length 0 lo)
theorem cut_reps {K : PySem.W.Frag} {I : Hp} {A : List Addr} {xs : List V} {ds : List D} {lo hi : Option Int} (h : Reps K I A xs ds) : Reps K I A (cutV xs lo hi) (cutG ds lo hi) := by
  unfold cutV cutG
  rw [h.length]
  exact (h.drop _).take _
def cutQ (p : Bool × List D) (lo hi : Option Int) : Option D :=
  if p.1 = true then (if HT.sIx p.2.length 0 lo = 0 ∧ HT.sIx p.2.length p.2.length hi = p.2.length then none else some (.tup (cutG p.2 lo hi)))
  else some (.lst (cutG p.2 lo hi))
/-- a part of a slice -/
def oNone : EM (Option Int) := fun _ S => .ok none S
def intOf : D → Option Int
  | .int i => some i
  | _ => none
def oSome (m : EM D) : EM (Option Int) := fun ρ S => (m ρ S).bind fun x S1 => (opt (intOf x) S1).bind fun i S1 => .ok (some i) S1
def eCut (m : EM (Bool × List D)) (lo hi : EM (Option Int)) : EM D := fun ρ S => (m ρ S).bind fun p S1 => (lo ρ S1).bind fun l S2 => (hi ρ S2).bind fun h S3 => opt (cutQ p l h) S3
section
variable {X : Cx} {E : Entry} {W : WX} {a b : Expr} {m ma mb : EM D} {ml : EM (Bool × List D)} {mo mo2 : EM (Option Int)} {pos p2 : Pos} {lo hi : Option Expr}
theorem PO.imp {e : Option Expr} {t t' : TO} (h : PO X e t) (hi : ∀ σ H Q, t' σ H Q → t σ H Q) : PO X e t' := ⟨fun pins s σ H Q I q => h.run pins s σ H Q I (hi σ H Q q)⟩
abbrev MO (X : Cx) (E : Entry) (W : WX) (e : Option Expr) (m : EM (Option Int)) : Prop := PO X e (lft X.K X.mg E W (fun o _ _ _ o' => o' = o) m)
theorem do_none : MO X E W none oNone := by
  refine PO.imp po_none fun σ H Q ⟨ρ, S, I, A, r, p⟩ => ?_
  exact p none H I A r (Ext.refl _ _ _) rfl
theorem do_some (h : ME X E W a m) : MO X E W (some a) (oSome m) := by
  refine PO.imp (po_some h) fun σ H Q ⟨ρ, S, I, A, r, p⟩ => ?_
  refine seq1 r p fun d v H1 S1 I1 A1 r1 x1 q1 p1 => ?_
  cases e : intOf d with
  | none => rw [e] at p1; exact p1.elim
  | some i =>
    rw [e] at p1
    cases d <;> first | (cases e; done) | skip
    cases q1
    cases e
    exact ⟨_, rfl, p1 _ H1 I1 A1 r1 (Ext.refl _ _ _) rfl⟩
theorem de_cut (ha : MQ X E W a ml) (hl : MO X E W lo mo) (hh : MO X E W hi mo2) : ME X E W (.Subscript a (.Slice lo hi none p2) pos) (eCut ml mo mo2) := by
  refine PE.imp (pe_slice (sl_list.or sl_tup) ha hl hh) fun σ H Q ⟨ρ, S, I, A, r, p⟩ => ?_
  refine seq1 r p fun q v H1 S1 I1 A1 r1 x1 q1 p1 => ?_
  refine seq1 r1 p1 fun o o' H2 S2 I2 A2 r2 x2 q2 p2 => ?_
  subst q2
  refine seq1 r2 p2 fun o2 o2' H3 S3 I3 A3 r3 x3 q3 p3 => ?_
  subst q3
  obtain ⟨z, e, k⟩ := p3.some
  obtain ⟨ad, xs, rfl, hq, hr⟩ := q1
  obtain ⟨kd, l⟩ := q
  have hr3 := (x2.trans x3).reps hr
  have hl := hr.length
  unfold cutQ at e
  cases kd with
  | true =>
    rw [if_pos rfl] at e hq
    dsimp only at e
    by_cases hw : HT.sIx l.length 0 o' = 0 ∧ HT.sIx l.length l.length o2' = l.length
    · rw [if_pos hw] at e; cases e
    · rw [if_neg hw] at e; cases e
      refine .inr ⟨ad, xs, rfl, sq_mono ((x2.trans x3).im.trans r3.s.sub) hq, by rw [hl]; exact hw, fun p hp => ?_⟩
      exact k _ _ _ _ (r3.new hp) (r3.s.newX hp) (.tup (SqT.of upd_same) ((r3.s.newX hp).reps (cut_reps hr3)))
  | false =>
    rw [if_neg Bool.false_ne_true] at e hq
    cases e
    refine .inl ⟨ad, xs, rfl, hq.ext (x2.trans x3), fun p hp => ?_⟩
    exact k _ _ _ _ (r3.new hp) (r3.s.newX hp) (.lst upd_same ((r3.s.newX hp).reps (cut_reps hr3)))
end
end DL
set_option Elab.async false
set_option linter.all false
set_option maxRecDepth 100000
set_option maxHeartbeats 2000000
set_option autoImplicit false
namespace DL
open PySem L2

/-! ### x in y, x not in y: y a sequence that is read just now -/
def inB (x : D) (p : Bool × List D) : Option Bool := match x.py, D.pys p.2 with
  | some d, some ds => if SeqAt.shaped d = true ∧ SeqAt.shaped (if p.1 = true then .tuple ds else .list ds) = true then some (ds.any fun z => PyData.eqv z d) else none
  | _, _ => none
def eIn (m : EM D) (ml : EM (Bool × List D)) : EM D := fun ρ S => (m ρ S).bind fun x S1 => (ml ρ S1).bind fun p S2 => (opt (inB x p) S2).bind fun b S2 => .ok (.bl b) S2
def eNotIn (m : EM D) (ml : EM (Bool × List D)) : EM D := fun ρ S => (m ρ S).bind fun x S1 => (ml ρ S1).bind fun p S2 => (opt (inB x p) S2).bind fun b S2 => .ok (.bl (!b)) S2
def rInT (K : PySem.W.Frag) (neg : Bool) : R2 := fun x y H Q => ∃ d ds, Dp K H x d ∧ Dp K H y (.tuple ds) ∧ SeqAt.shaped d = true ∧ SeqAt.shaped (.tuple ds) = true ∧ Q (.bl (if neg = true then !(ds.any fun z => PyData.eqv z d) else (ds.any fun z => PyData.eqv z d))) H
section
variable {X : Cx}
theorem shaped_all {ds : List PyData} (h : SeqAt.shaped (.tuple ds) = true) : PyData.canLayAll0 ds = true := by
  have := SeqAt.canLay_of_shaped h
  simpa [PyData.canLay0] using this
theorem op_inT (hu : X.A.units + 65 < cLine) : OpR X (compareOp .In) (rInT X.K false) := by
  rintro pins s σ H x y v u Q I rx ry ⟨d, ds, hd, he, sd, se, q⟩
  obtain ⟨as, r1⟩ := Dp.reads I d x v hd rx
  obtain ⟨bs, r2⟩ := Dp.reads I (.tuple ds) y u he ry
  have hdd := SeqAt.depth_of_shaped sd
  refine SeqAt.in_tuple_reads r2 r1 (shaped_all se) (SeqAt.canLay_of_shaped sd) ?_ ⟨.bl _, H, I, rfl, q⟩
  have : min (PyData.depthAll ds) d.depth ≤ d.depth := Nat.min_le_right _ _
  omega
theorem op_notInT (hu : X.A.units + 65 < cLine) : OpR X (compareOp .NotIn) (rInT X.K true) := by
  rintro pins s σ H x y v u Q I rx ry ⟨d, ds, hd, he, sd, se, q⟩
  obtain ⟨as, r1⟩ := Dp.reads I d x v hd rx
  obtain ⟨bs, r2⟩ := Dp.reads I (.tuple ds) y u he ry
  have hdd := SeqAt.depth_of_shaped sd
  refine SeqAt.notIn_tuple_reads r2 r1 (shaped_all se) (SeqAt.canLay_of_shaped sd) ?_ ⟨.bl _, H, I, rfl, q⟩
  have : min (PyData.depthAll ds) d.depth ≤ d.depth := Nat.min_le_right _ _
  omega
end
section
variable {X : Cx} {E : Entry} {W : WX} {a b : Expr} {m ma mb : EM D} {ml : EM (Bool × List D)} {pos : Pos}
theorem in_go {σ : L2.St} {H : Hp} {Q : VK} {neg : Bool} {k : Bool → EM D} (hk : k = fun b _ S => .ok (.bl (if neg = true then !b else b)) S)
    (h : lft X.K X.mg E W (rD X.K) (fun ρ S => (ma ρ S).bind fun x S1 => (ml ρ S1).bind fun p S2 => (opt (inB x p) S2).bind fun b S2 => k b ρ S2) σ H Q) :
    tOp (fun x y H Q => (∃ d ds, Dp X.K H x d ∧ Dp X.K H y (.list ds) ∧ SeqAt.shaped d = true ∧ SeqAt.shaped (.list ds) = true ∧ Q (.bl (if neg = true then !(ds.any fun z => PyData.eqv z d) else (ds.any fun z => PyData.eqv z d))) H) ∨ rInT X.K neg x y H Q)
      (lft X.K X.mg E W (rD X.K) ma) (lft X.K X.mg E W (fun p H I A v => RdL X.K H I A p v) ml) σ H Q := by
  obtain ⟨ρ, S, I, A, r, p⟩ := h
  subst hk
  refine seq1 r p fun x v H1 S1 I1 A1 r1 x1 q1 p1 => ?_
  refine seq1 r1 p1 fun pl w H2 S2 I2 A2 r2 x2 q2 p2 => ?_
  obtain ⟨kd, l⟩ := pl
  cases e : inB x (kd, l) with
  | none => rw [e] at p2; exact p2.elim
  | some b =>
    rw [e] at p2
    have fin : Q (.bl (if neg = true then !b else b)) H2 := p2 _ H2 I2 A2 r2 (Ext.refl _ _ _) (.bl _)
    unfold inB at e
    dsimp only at e
    cases e1 : x.py with
    | none => rw [e1] at e; cases e
    | some d =>
      cases e2 : D.pys l with
      | none => rw [e1, e2] at e; cases e
      | some ds =>
        rw [e1, e2] at e
        dsimp only at e
        obtain ⟨ad, xs, rfl, hq, hr⟩ := q2
        have hd : Dp X.K H2 v d := Rep.dp r2.s.sub _ _ _ (x2.rep q1) e1
        have hl : DpAll X.K H2 xs ds := Reps.dp r2.s.sub _ _ _ hr e2
        cases kd with
        | true =>
          rw [if_pos rfl] at hq
          simp only [if_true] at e
          by_cases hs : SeqAt.shaped d = true ∧ SeqAt.shaped (.tuple ds) = true
          · rw [if_pos hs] at e; cases e
            exact .inr ⟨d, ds, hd, .tup (sq_mono r2.s.sub hq) hl, hs.1, hs.2, fin⟩
          · rw [if_neg hs] at e; cases e
        | false =>
          rw [if_neg Bool.false_ne_true] at hq
          simp only [Bool.false_eq_true, if_false] at e
          by_cases hs : SeqAt.shaped d = true ∧ SeqAt.shaped (.list ds) = true
          · rw [if_pos hs] at e; cases e
            exact .inl ⟨d, ds, hd, .lst hq.sq hl, hs.1, hs.2, fin⟩
          · rw [if_neg hs] at e; cases e
theorem op_in2 (hu : X.A.units + 65 < cLine) : OpR X (compareOp .In) (fun x y H Q => (∃ d ds, Dp X.K H x d ∧ Dp X.K H y (.list ds) ∧ SeqAt.shaped d = true ∧ SeqAt.shaped (.list ds) = true ∧ Q (.bl (if false = true then !(ds.any fun z => PyData.eqv z d) else (ds.any fun z => PyData.eqv z d))) H) ∨ rInT X.K false x y H Q) :=
  (op_inD hu).or (op_inT hu)
theorem op_notIn2 (hu : X.A.units + 65 < cLine) : OpR X (compareOp .NotIn) (fun x y H Q => (∃ d ds, Dp X.K H x d ∧ Dp X.K H y (.list ds) ∧ SeqAt.shaped d = true ∧ SeqAt.shaped (.list ds) = true ∧ Q (.bl (if true = true then !(ds.any fun z => PyData.eqv z d) else (ds.any fun z => PyData.eqv z d))) H) ∨ rInT X.K true x y H Q) :=
  (op_notInD hu).or (op_notInT hu)
theorem de_in (hu : X.A.units + 65 < cLine) (ha : ME X E W a ma) (hb : MQ X E W b ml) (hm : behindInMarks .In b = false := by rfl) : ME X E W (.Compare a [.In] [b] pos) (eIn ma ml) :=
  PE.imp (pe_cmpR (op_in2 hu) ha hb hm) fun σ H Q h => in_go (neg := false) (k := fun b _ S => .ok (.bl b) S) rfl h
theorem de_notIn (hu : X.A.units + 65 < cLine) (ha : ME X E W a ma) (hb : MQ X E W b ml) (hm : behindInMarks .NotIn b = false := by rfl) : ME X E W (.Compare a [.NotIn] [b] pos) (eNotIn ma ml) :=
  PE.imp (pe_cmpR (op_notIn2 hu) ha hb hm) fun σ H Q h => in_go (neg := true) (k := fun b _ S => .ok (.bl (!b)) S) rfl h
/-- as tests -/
theorem dt_in (hu : X.A.units + 65 < cLine) (ha : ME X E W a ma) (hb : MQ X E W b ml) (hm : behindInMarks .In b = false := by rfl) : MT X E W (.Compare a [.In] [b] pos) (eTest (eIn ma ml)) :=
  PT.imp (pt_cmpR (op_in2 hu) ha hb hm) fun σ H Q h => in_go (neg := false) (k := fun b _ S => .ok (.bl b) S) rfl (test_of h)
theorem dt_notIn (hu : X.A.units + 65 < cLine) (ha : ME X E W a ma) (hb : MQ X E W b ml) (hm : behindInMarks .NotIn b = false := by rfl) : MT X E W (.Compare a [.NotIn] [b] pos) (eTest (eNotIn ma ml)) :=
  PT.imp (pt_cmpR (op_notIn2 hu) ha hb hm) fun σ H Q h => in_go (neg := true) (k := fun b _ S => .ok (.bl (!b)) S) rfl (test_of h)
end

/-! ### a < b < c -/
def eChain (f g : D → D → Option D) (a b c : EM D) : EM D := fun ρ S => (a ρ S).bind fun x S1 => (b ρ S1).bind fun y S2 => (opt (f x y) S2).bind fun z S2 => (opt (boolOf z) S2).bind fun k S2 =>
  if k = true then (c ρ S2).bind fun w S3 => opt (g y w) S3 else .ok (.bl false) S2
section
variable {X : Cx} {E : Entry} {W : WX} {a b c : Expr} {ma mb mc : EM D} {pos : Pos}
theorem chain_go {r r' : R2} {f g : D → D → Option D} (hf : OpOk X.K X.mg r f) (hg : OpOk X.K X.mg r' g) {σ : L2.St} {H : Hp} {Q : VK} (h : lft X.K X.mg E W (rD X.K) (eChain f g ma mb mc) σ H Q) :
    tChain r r' (lft X.K X.mg E W (rD X.K) ma) (lft X.K X.mg E W (rD X.K) mb) (lft X.K X.mg E W (rD X.K) mc) σ H Q := by
  obtain ⟨ρ, S, I, A, r, p⟩ := h
  refine seq1 r p fun x v H1 S1 I1 A1 r1 x1 q1 p1 => ?_
  refine seq1 r1 p1 fun y w H2 S2 I2 A2 r2 x2 q2 p2 => ?_
  cases e : f x y with
  | none => rw [e] at p2; exact p2.elim
  | some z =>
    rw [e] at p2
    refine hf x y z v w H2 S2 I2 A2 _ r2.s (x2.rep q1) q2 e fun u H' I' s' x' q' => ?_
    cases eb : boolOf z with
    | none => rw [opt_some, Out.bind_ok, eb] at p2; exact p2.elim
    | some k =>
      rw [opt_some, Out.bind_ok, eb, opt_some, Out.bind_ok] at p2
      refine ⟨k, rep_bool q' eb, ?_⟩
      have r3 := r2.step s' x'
      cases k with
      | false =>
        rw [if_neg Bool.false_ne_true] at p2 ⊢
        exact p2 _ _ _ _ r3 x' (.bl false)
      | true =>
        rw [if_pos rfl] at p2 ⊢
        refine seq1 r3 (Po.from x' p2 fun c S2 ho => okR.from x' ho) fun w3 v3 H4 S4 I4 A4 r4 x4 q4 p4 => ?_
        obtain ⟨z4, e4, k4⟩ := p4.some
        exact hg y w3 z4 w v3 H4 S4 I4 A4 Q r4.s ((x'.trans x4).rep q2) q4 e4 fun u H' I' s' x' q' => k4 u H' I' A4 (r4.step s' x') x' q'
theorem de_chain {op op' : CmpOp} {r r' : R2} {f g : D → D → Option D} (ho : OpR X (compareOp op) r) (ho' : OpR X (compareOp op') r') (hf : OpOk X.K X.mg r f) (hg : OpOk X.K X.mg r' g) (ha : ME X E W a ma) (hb : ME X E W b mb) (hc : ME X E W c mc) (hm : lastMarks [op, op'] [b, c] = false := by with_unfolding_all rfl) : ME X E W (.Compare a [op, op'] [b, c] pos) (eChain f g ma mb mc) :=
  PE.imp (pe_chain ho ho' ha hb hc hm) fun σ H Q h => chain_go hf hg h
theorem dt_chain {op op' : CmpOp} {r r' : R2} {f g : D → D → Option D} (ho : OpR X (compareOp op) r) (ho' : OpR X (compareOp op') r') (hf : OpOk X.K X.mg r f) (hg : OpOk X.K X.mg r' g) (ha : ME X E W a ma) (hb : ME X E W b mb) (hc : ME X E W c mc) (hm : lastMarks [op, op'] [b, c] = false := by with_unfolding_all rfl) : MT X E W (.Compare a [op, op'] [b, c] pos) (eTest (eChain f g ma mb mc)) :=
  PT.imp (pt_chain ho ho' ha hb hc hm) fun σ H Q h => chain_go hf hg (test_of h)
theorem dt_chain_le (ha : ME X E W a ma) (hb : ME X E W b mb) (hc : ME X E W c mc) (hm : lastMarks [.LtE, .LtE] [b, c] = false := by with_unfolding_all rfl) : MT X E W (.Compare a [.LtE, .LtE] [b, c] pos) (eTest (eChain leI leI ma mb mc)) := dt_chain op_le op_le (ok_cmpI _) (ok_cmpI _) ha hb hc hm
end

/-! ### is None -/
def isN : D → D → Option D
  | .non, .non => some (.bl true)
  | _, .non => some (.bl false)
  | _, _ => none
def notN : D → D → Option D
  | .non, .non => some (.bl false)
  | _, .non => some (.bl true)
  | _, _ => none
abbrev rIsN' : R2 := fun x y H Q => y = .non ∧ Q (.bl (decide (x = .non))) H
abbrev rNotN' : R2 := fun x y H Q => y = .non ∧ Q (.bl (!decide (x = .non))) H
/-- is of bools -/
def isB : D → D → Option D
  | .bl a, .bl b => some (.bl (decide (a = b)))
  | _, _ => none
def isntB : D → D → Option D
  | .bl a, .bl b => some (.bl (!decide (a = b)))
  | _, _ => none
section
variable {K : PySem.W.Frag} {mg : Str → Option Value}
theorem ok_isN : OpOk K mg rIsN' isN := by
  intro x y z v w H S I A Q s rv rw' e k
  cases y <;> first | (cases x <;> cases e; done) | skip
  cases rw'
  cases rv <;> (cases e; exact ⟨rfl, k _ H I s (Ext.refl _ _ _) (by simp; exact .bl _)⟩)
theorem ok_notN : OpOk K mg rNotN' notN := by
  intro x y z v w H S I A Q s rv rw' e k
  cases y <;> first | (cases x <;> cases e; done) | skip
  cases rw'
  cases rv <;> (cases e; exact ⟨rfl, k _ H I s (Ext.refl _ _ _) (by simp; exact .bl _)⟩)
end
section
variable {X : Cx} {E : Entry} {W : WX} {a b c : Expr} {ma mb mc : EM D} {pos : Pos}
theorem de_isN (ha : ME X E W a ma) (hb : ME X E W b mb) : ME X E W (.Compare a [.Is] [b] pos) (eBin isN ma mb) := de_cmp op_isN ok_isN ha hb (nomark _)
theorem de_notN (ha : ME X E W a ma) (hb : ME X E W b mb) : ME X E W (.Compare a [.IsNot] [b] pos) (eBin notN ma mb) := de_cmp op_notN ok_notN ha hb (nomark _)
theorem dt_isN (ha : ME X E W a ma) (hb : ME X E W b mb) : MT X E W (.Compare a [.Is] [b] pos) (eTest (eBin isN ma mb)) := dt_cmp op_isN ok_isN ha hb (nomark _)
theorem dt_notN (ha : ME X E W a ma) (hb : ME X E W b mb) : MT X E W (.Compare a [.IsNot] [b] pos) (eTest (eBin notN ma mb)) := dt_cmp op_notN ok_notN ha hb (nomark _)
end

/-! ### calls of what is built in -/
def lenF : List D → Option D
  | [.str z] => if z.length ≤ sizeLine then some (.int z.length) else none
  | [d] => (seqOf d).map fun p => .int p.2.length
  | _ => none
def boolsOf : List D → Option (List Bool)
  | [] => some []
  | .bl b :: r => (boolsOf r).map (b :: ·)
  | _ => none
def intsOf : List D → Option (List Int)
  | [] => some []
  | .int b :: r => (intsOf r).map (b :: ·)
  | _ => none
def listOfD : D → Option (List D)
  | .lst l => some l
  | .scr ns => some (ns.map .int)
  | _ => none
def allF : List D → Option D
  | [d] => (listOfD d).bind fun l => (boolsOf l).map fun bs => .bl (bs.all id)
  | _ => none
def anyF : List D → Option D
  | [d] => (listOfD d).bind fun l => (boolsOf l).map fun bs => .bl (bs.any id)
  | _ => none
def sumF : List D → Option D
  | [d] => (listOfD d).bind fun l => (intsOf l).map fun ns => .int ns.sum
  | _ => none
def absF : List D → Option D
  | [.int i] => some (.int (if i < 0 then -i else i))
  | _ => none
def intF : List D → Option D
  | [.int i] => some (.int i)
  | [.bl k] => some (.int (if k then 1 else 0))
  | _ => none
def maxF : List D → Option D
  | [.int i, .int j] => some (.int (if j > i then j else i))
  | _ => none
def minF : List D → Option D
  | [.int i, .int j] => some (.int (if j < i then j else i))
  | _ => none
def gcdF : List D → Option D
  | [.int a, .int b] => some (.int ((Nat.gcd a.natAbs b.natAbs : Nat) : Int))
  | _ => none
def divmodW (i j : Int) : Bool := decide (0 < j) && !Builtin.divisionGoesByPylong i j
def divmodF : List D → Option D
  | [.int i, .int j] => if divmodW i j = true then some (.tup [.int (i / j), .int (i % j)]) else none
  | _ => none
def listF : List D → Option D
  | [d] => (seqOf d).map fun p => .lst p.2
  | _ => none
def tupleF : List D → Option D
  | [.tup l] => some (.tup l)
  | [.ftup l] => some (.ftup l)
  | [d] => (listOfD d).map .tup
  | _ => none
section
variable {K : PySem.W.Frag} {mg : Str → Option Value} {I H : Hp} {A : List Addr}
theorem reps1 {vs : List V} {d : D} (h : Reps K I A vs [d]) : ∃ v, vs = [v] ∧ Rep K I A v d := by
  cases h with
  | cons h1 h2 => cases h2; exact ⟨_, rfl, h1⟩
theorem reps2 {vs : List V} {d d' : D} (h : Reps K I A vs [d, d']) : ∃ v v', vs = [v, v'] ∧ Rep K I A v d ∧ Rep K I A v' d' := by
  cases h with
  | cons h1 h2 =>
    cases h2 with
    | cons h3 h4 => cases h4; exact ⟨_, _, rfl, h1, h3⟩
theorem reps_bools : ∀ {l : List D} {bs : List Bool} {vs : List V}, Reps K I A vs l → boolsOf l = some bs → vs = bs.map V.bl
  | [], bs, vs, h, e => by cases h; cases e; rfl
  | d :: l, bs, vs, h, e => by
    cases h with
    | cons h1 h2 =>
      cases d <;> first | (cases e; done) | skip
      rename_i b
      simp only [boolsOf] at e
      cases q : boolsOf l with
      | none => rw [q] at e; cases e
      | some bs' =>
        rw [q] at e; cases e
        cases h1
        rw [reps_bools h2 q]; rfl
theorem reps_intsOf : ∀ {l : List D} {bs : List Int} {vs : List V}, Reps K I A vs l → intsOf l = some bs → vs = bs.map V.int
  | [], bs, vs, h, e => by cases h; cases e; rfl
  | d :: l, bs, vs, h, e => by
    cases h with
    | cons h1 h2 =>
      cases d <;> first | (cases e; done) | skip
      rename_i b
      simp only [intsOf] at e
      cases q : intsOf l with
      | none => rw [q] at e; cases e
      | some bs' =>
        rw [q] at e; cases e
        cases h1
        rw [reps_intsOf h2 q]; rfl
theorem Rep.list (s : Same I H) {v : V} {d : D} {l : List D} (h : Rep K I A v d) (e : listOfD d = some l) : ∃ a xs, v = .ref a ∧ SqL K H a xs ∧ Reps K I A xs l := by
  cases h <;> first | (cases e; done) | skip
  · rename_i h1 h2
    cases e
    exact ⟨_, _, rfl, SqL.of (s _ _ h1), h2⟩
  · rename_i h1
    cases e
    exact ⟨_, _, rfl, s.seq h1, reps_ints _⟩
abbrev rLenSeq (K : PySem.W.Frag) : List V → Hp → VK → Prop := fun xs H Q => ∃ p ys, xs = [.ref p] ∧ (SqL K H p ys ∨ SqT K H p ys) ∧ Q (.int ys.length) H
abbrev rLenStr : List V → Hp → VK → Prop := fun xs H Q => ∃ z, xs = [.str z] ∧ z.length ≤ sizeLine ∧ Q (.int z.length) H
theorem CallR.or {X : Cx} {f : Value} {r r' : List V → Hp → VK → Prop} (h : CallR X f r) (h' : CallR X f r') : CallR X f (fun xs H Q => r xs H Q ∨ r' xs H Q) := by
  intro pins s σ H xs us Q I rx q
  rcases q with q | q
  · exact h pins s σ H xs us Q I rx q
  · exact h' pins s σ H xs us Q I rx q
theorem ok_len : CaOk K mg (fun xs H Q => rLenSeq K xs H Q ∨ rLenStr xs H Q) lenF := by
  intro xs z vs H S I A Q s rv e k
  match xs, e with
  | a :: b :: r, e => cases a <;> cases e
  | [d], e =>
    obtain ⟨v, rfl, h⟩ := reps1 rv
    have gen : (seqOf d).map (fun p => D.int p.2.length) = some z → rLenSeq K [v] H Q ∨ rLenStr [v] H Q := fun e => by
      cases q : seqOf d with
      | none => rw [q] at e; cases e
      | some kl =>
        obtain ⟨kd, l⟩ := kl
        rw [q] at e; cases e
        obtain ⟨a, xs, rfl, h1, h2⟩ := h.seqOr s.sub q
        exact .inl ⟨a, xs, rfl, h1, by rw [h2.length]; exact k _ H I s (Ext.refl _ _ _) (.int _)⟩
    cases d <;> first | exact gen e | skip
    rename_i y
    cases h
    simp only [lenF] at e
    by_cases hl : y.length ≤ sizeLine
    · rw [if_pos hl] at e; cases e
      exact .inr ⟨y, rfl, hl, k _ H I s (Ext.refl _ _ _) (.int _)⟩
    · rw [if_neg hl] at e; cases e
theorem ok_all : CaOk K mg (rAll K) allF := by
  intro xs z vs H S I A Q s rv e k
  match xs, e with
  | [d], e =>
    obtain ⟨v, rfl, h⟩ := reps1 rv
    simp only [allF] at e
    cases q : listOfD d with
    | none => rw [q] at e; cases e
    | some l =>
      obtain ⟨a, ys, rfl, h1, h2⟩ := h.list s.sub q
      cases qb : boolsOf l with
      | none => rw [q] at e; simp [qb] at e
      | some bs =>
        rw [q] at e; simp [qb] at e; subst e
        have := reps_bools h2 qb
        subst this
        exact ⟨a, bs, rfl, h1, k _ H I s (Ext.refl _ _ _) (.bl _)⟩
theorem ok_any : CaOk K mg (rAny K) anyF := by
  intro xs z vs H S I A Q s rv e k
  match xs, e with
  | [d], e =>
    obtain ⟨v, rfl, h⟩ := reps1 rv
    simp only [anyF] at e
    cases q : listOfD d with
    | none => rw [q] at e; cases e
    | some l =>
      obtain ⟨a, ys, rfl, h1, h2⟩ := h.list s.sub q
      cases qb : boolsOf l with
      | none => rw [q] at e; simp [qb] at e
      | some bs =>
        rw [q] at e; simp [qb] at e; subst e
        have := reps_bools h2 qb
        subst this
        exact ⟨a, bs, rfl, h1, k _ H I s (Ext.refl _ _ _) (.bl _)⟩
theorem ok_sum : CaOk K mg (rSum K) sumF := by
  intro xs z vs H S I A Q s rv e k
  match xs, e with
  | [d], e =>
    obtain ⟨v, rfl, h⟩ := reps1 rv
    simp only [sumF] at e
    cases q : listOfD d with
    | none => rw [q] at e; cases e
    | some l =>
      obtain ⟨a, ys, rfl, h1, h2⟩ := h.list s.sub q
      cases qb : intsOf l with
      | none => rw [q] at e; simp [qb] at e
      | some bs =>
        rw [q] at e; simp [qb] at e; subst e
        have := reps_intsOf h2 qb
        subst this
        exact ⟨a, bs, rfl, h1, k _ H I s (Ext.refl _ _ _) (.int _)⟩
abbrev rAbs : List V → Hp → VK → Prop := fun xs H Q => ∃ i, xs = [.int i] ∧ Q (.int (if i < 0 then -i else i)) H
theorem ok_abs : CaOk K mg rAbs absF := by
  intro xs z vs H S I A Q s rv e k
  match xs, e with
  | [.int i], e =>
    obtain ⟨v, rfl, h⟩ := reps1 rv
    cases h; cases e
    exact ⟨i, rfl, k _ H I s (Ext.refl _ _ _) (.int _)⟩
abbrev rInt1 : List V → Hp → VK → Prop := fun xs H Q => (∃ i, xs = [.int i] ∧ Q (.int i) H) ∨ ∃ k, xs = [.bl k] ∧ Q (.int (if k then 1 else 0)) H
theorem ok_int : CaOk K mg rInt1 intF := by
  intro xs z vs H S I A Q s rv e k
  match xs, e with
  | [.int i], e =>
    obtain ⟨v, rfl, h⟩ := reps1 rv
    cases h; cases e
    exact .inl ⟨i, rfl, k _ H I s (Ext.refl _ _ _) (.int _)⟩
  | [.bl b], e =>
    obtain ⟨v, rfl, h⟩ := reps1 rv
    cases h; cases e
    exact .inr ⟨b, rfl, k _ H I s (Ext.refl _ _ _) (.int _)⟩
abbrev rMax2 : List V → Hp → VK → Prop := fun xs H Q => ∃ i j, xs = [.int i, .int j] ∧ Q (.int (if j > i then j else i)) H
abbrev rMin2 : List V → Hp → VK → Prop := fun xs H Q => ∃ i j, xs = [.int i, .int j] ∧ Q (.int (if j < i then j else i)) H
theorem ok_max2 : CaOk K mg rMax2 maxF := by
  intro xs z vs H S I A Q s rv e k
  match xs, e with
  | [.int i, .int j], e =>
    obtain ⟨v, w, rfl, h, h'⟩ := reps2 rv
    cases h; cases h'; cases e
    exact ⟨i, j, rfl, k _ H I s (Ext.refl _ _ _) (.int _)⟩
theorem ok_min2 : CaOk K mg rMin2 minF := by
  intro xs z vs H S I A Q s rv e k
  match xs, e with
  | [.int i, .int j], e =>
    obtain ⟨v, w, rfl, h, h'⟩ := reps2 rv
    cases h; cases h'; cases e
    exact ⟨i, j, rfl, k _ H I s (Ext.refl _ _ _) (.int _)⟩
theorem ok_gcd : CaOk K mg rGcd gcdF := by
  intro xs z vs H S I A Q s rv e k
  match xs, e with
  | [.int i, .int j], e =>
    obtain ⟨v, w, rfl, h, h'⟩ := reps2 rv
    cases h; cases h'; cases e
    exact ⟨i, j, rfl, k _ H I s (Ext.refl _ _ _) (.int _)⟩
abbrev rDivmodW : List V → Hp → VK → Prop := fun xs H Q => ∃ i j, xs = [.int i, .int j] ∧ CDivP i j ∧ ∀ p, H p = none → Q (.ref p) (upd H p (.tup [.int (i / j), .int (i % j)]))
theorem ok_divmod : CaOk K mg rDivmodW divmodF := by
  intro xs z vs H S I A Q s rv e k
  match xs, e with
  | [.int i, .int j], e =>
    obtain ⟨v, w, rfl, h, h'⟩ := reps2 rv
    cases h; cases h'
    simp only [divmodF] at e
    by_cases hw : divmodW i j = true
    · rw [if_pos hw] at e; cases e
      refine ⟨i, j, rfl, ?_, fun p hp => k _ _ _ (s.new hp) (s.newX hp) (.tup (SqT.of upd_same) (.cons (.int _) (.cons (.int _) .nil)))⟩
      unfold divmodW at hw
      simp only [Bool.and_eq_true, decide_eq_true_eq, Bool.not_eq_true'] at hw
      exact hw
    · rw [if_neg hw] at e; cases e
abbrev rListOf (K : PySem.W.Frag) : List V → Hp → VK → Prop := fun xs H Q => ∃ p ys, xs = [.ref p] ∧ (SqL K H p ys ∨ SqT K H p ys) ∧ ∀ l, H l = none → Q (.ref l) (upd H l (.lst ys))
theorem ok_list : CaOk K mg (rListOf K) listF := by
  intro xs z vs H S I A Q s rv e k
  match xs, e with
  | [d], e =>
    obtain ⟨v, rfl, h⟩ := reps1 rv
    simp only [listF] at e
    cases q : seqOf d with
    | none => rw [q] at e; cases e
    | some kl =>
      obtain ⟨kd, l⟩ := kl
      rw [q] at e; cases e
      obtain ⟨a, xs, rfl, h1, h2⟩ := h.seqOr s.sub q
      exact ⟨a, xs, rfl, h1, fun p hp => k _ _ _ (s.new hp) (s.newX hp) (.lst upd_same ((s.newX hp).reps h2))⟩
abbrev rTupleOf (K : PySem.W.Frag) : List V → Hp → VK → Prop := fun xs H Q => ∃ p ys, xs = [.ref p] ∧ ((SqL K H p ys ∧ ∀ l, H l = none → Q (.ref l) (upd H l (.tup ys))) ∨ (SqT K H p ys ∧ Q (.ref p) H))
theorem ok_tuple : CaOk K mg (rTupleOf K) tupleF := by
  intro xs z vs H S I A Q s rv e k
  match xs, e with
  | a :: b :: r, e => cases a <;> cases e
  | [d], e =>
    obtain ⟨v, rfl, h⟩ := reps1 rv
    have gen : (listOfD d).map D.tup = some z → rTupleOf K [v] H Q := fun e => by
      cases q : listOfD d with
      | none => rw [q] at e; cases e
      | some l =>
        rw [q] at e; cases e
        obtain ⟨a, xs, rfl, h1, h2⟩ := h.list s.sub q
        exact ⟨a, xs, rfl, .inl ⟨h1, fun p hp => k _ _ _ (s.new hp) (s.newX hp) (.tup (SqT.of upd_same) ((s.newX hp).reps h2))⟩⟩
    cases d <;> first | exact gen e | skip
    · cases e
      cases h with
      | tup h1 h2 => exact ⟨_, _, rfl, .inr ⟨sq_mono s.sub h1, k _ H I s (Ext.refl _ _ _) (.tup h1 h2)⟩⟩
    · cases e
      cases h with
      | ftup h1 h2 h3 => exact ⟨_, _, rfl, .inr ⟨.inl (.inr ⟨_, s.sub _ _ h1⟩), k _ H I s (Ext.refl _ _ _) (.ftup h1 h2 h3)⟩⟩
end
section
variable {X : Cx} {E : Entry} {W : WX} {e : Expr} {es : List Expr} {ms : EM (List D)} {pos p : Pos}
theorem de_len (hg : Gl X "len") (hm : X.mg "len" = none) (ha : MA X E W [e] ms) (he : starEach [e] X.env = (false, eval e X.env) :: starEach [] X.env := by rfl) : ME X E W (.Call (.Name "len" p) [e] [] pos) (eFn lenF ms) :=
  de_callB (call_len_seq.or call_len_str) ok_len hg hm PySem.boot_len ha (by decide) (by decide) he rfl
theorem de_all (hc : X.calm = true) (hg : Gl X "all") (hm : X.mg "all" = none) (ha : MA X E W [e] ms) (he : starEach [e] X.env = (false, eval e X.env) :: starEach [] X.env := by rfl) : ME X E W (.Call (.Name "all" p) [e] [] pos) (eFn allF ms) :=
  de_callB (cr_all hc) ok_all hg hm (by decide +kernel) ha (by decide) (by decide) he rfl
theorem de_any (hc : X.calm = true) (hg : Gl X "any") (hm : X.mg "any" = none) (ha : MA X E W [e] ms) (he : starEach [e] X.env = (false, eval e X.env) :: starEach [] X.env := by rfl) : ME X E W (.Call (.Name "any" p) [e] [] pos) (eFn anyF ms) :=
  de_callB (cr_any hc) ok_any hg hm (by decide +kernel) ha (by decide) (by decide) he rfl
theorem de_sum (hc : X.calm = true) (hg : Gl X "sum") (hm : X.mg "sum" = none) (ha : MA X E W [e] ms) (he : starEach [e] X.env = (false, eval e X.env) :: starEach [] X.env := by rfl) : ME X E W (.Call (.Name "sum" p) [e] [] pos) (eFn sumF ms) :=
  de_callB (cr_sum hc) ok_sum hg hm (by decide +kernel) ha (by decide) (by decide) he rfl
theorem de_abs (hg : Gl X "abs") (hm : X.mg "abs" = none) (ha : MA X E W [e] ms) (he : starEach [e] X.env = (false, eval e X.env) :: starEach [] X.env := by rfl) : ME X E W (.Call (.Name "abs" p) [e] [] pos) (eFn absF ms) :=
  de_callB call_abs ok_abs hg hm (by decide +kernel) ha (by decide) (by decide) he rfl
theorem de_toInt (hg : Gl X "int") (hm : X.mg "int" = none) (ha : MA X E W [e] ms) (he : starEach [e] X.env = (false, eval e X.env) :: starEach [] X.env := by rfl) : ME X E W (.Call (.Name "int" p) [e] [] pos) (eFn intF ms) :=
  de_callTy call_int1 ok_int hg hm (by decide +kernel) ha (by decide) (by decide) he rfl
theorem de_toList (hg : Gl X "list") (hm : X.mg "list" = none) (ha : MA X E W [e] ms) (he : starEach [e] X.env = (false, eval e X.env) :: starEach [] X.env := by rfl) : ME X E W (.Call (.Name "list" p) [e] [] pos) (eFn listF ms) :=
  de_callTy call_list_of ok_list hg hm (by decide +kernel) ha (by decide) (by decide) he rfl
theorem de_toTuple (hg : Gl X "tuple") (hm : X.mg "tuple" = none) (ha : MA X E W [e] ms) (he : starEach [e] X.env = (false, eval e X.env) :: starEach [] X.env := by rfl) : ME X E W (.Call (.Name "tuple" p) [e] [] pos) (eFn tupleF ms) :=
  de_callTy call_tuple_of ok_tuple hg hm (by decide +kernel) ha (by decide) (by decide) he rfl
theorem de_max2 {e2 : Expr} (hc : X.calm = true) (hg : Gl X "max") (hm : X.mg "max" = none) (ha : MA X E W [e, e2] ms) (he : starEach [e, e2] X.env = (false, eval e X.env) :: starEach [e2] X.env := by rfl) (hpl : (backTo pos (starEach [e2] X.env)).any (·.1) = false := by rfl) : ME X E W (.Call (.Name "max" p) [e, e2] [] pos) (eFn maxF ms) :=
  de_callB (call_max2 hc) ok_max2 hg hm (by decide +kernel) ha (by decide) (by decide) he hpl
theorem de_min2 {e2 : Expr} (hc : X.calm = true) (hg : Gl X "min") (hm : X.mg "min" = none) (ha : MA X E W [e, e2] ms) (he : starEach [e, e2] X.env = (false, eval e X.env) :: starEach [e2] X.env := by rfl) (hpl : (backTo pos (starEach [e2] X.env)).any (·.1) = false := by rfl) : ME X E W (.Call (.Name "min" p) [e, e2] [] pos) (eFn minF ms) :=
  de_callB (call_min2 hc) ok_min2 hg hm (by decide +kernel) ha (by decide) (by decide) he hpl
theorem de_divmod {e2 : Expr} (hg : Gl X "divmod") (hm : X.mg "divmod" = none) (ha : MA X E W [e, e2] ms) (he : starEach [e, e2] X.env = (false, eval e X.env) :: starEach [e2] X.env := by rfl) (hpl : (backTo pos (starEach [e2] X.env)).any (·.1) = false := by rfl) : ME X E W (.Call (.Name "divmod" p) [e, e2] [] pos) (eFn divmodF ms) :=
  de_callB call_divmodW ok_divmod hg hm (by decide +kernel) ha (by decide) (by decide) he hpl
/-- gcd, out of math -/
theorem de_gcd {e2 : Expr} (hg : Gl X "gcd") (hm : X.mg "gcd" = some (.builtin "math.gcd")) (ha : MA X E W [e, e2] ms) (he : starEach [e, e2] X.env = (false, eval e X.env) :: starEach [e2] X.env := by rfl) (hpl : (backTo pos (starEach [e2] X.env)).any (·.1) = false := by rfl) : ME X E W (.Call (.Name "gcd" p) [e, e2] [] pos) (eFn gcdF ms) :=
  PE.imp (pe_callBfun cr_gcd hg hm ha (by decide) he hpl) fun σ H Q h => call_go ok_gcd h
end
end DL
set_option Elab.async false
set_option linter.all false
set_option maxRecDepth 100000
set_option maxHeartbeats 2000000
set_option autoImplicit false
namespace DL
open PySem L2

/-! ### statements -/
inductive SOut where
  | nx (ρ : Env) (S : Sto)
  | rt (d : D) (S : Sto)
  | bk (ρ : Env) (S : Sto)
  | ct (ρ : Env) (S : Sto)
  | exc (c : Str) (fs : List (Str × D)) (ρ : Env) (S : Sto)
  | bad
abbrev SM := Env → Sto → SOut
structure GrowA (I : Hp) (A : List Addr) (I' : Hp) (A' : List Addr) : Prop where
  im : Same I I'
  ax : ∀ (n : Nat) (a : Addr), A[n]? = some a → A'[n]? = some a
theorem GrowA.refl (I : Hp) (A : List Addr) : GrowA I A I A := ⟨Same.refl _, fun _ _ h => h⟩
theorem GrowA.trans {I I1 I2 : Hp} {A A1 A2 : List Addr} (a : GrowA I A I1 A1) (b : GrowA I1 A1 I2 A2) : GrowA I A I2 A2 := ⟨a.im.trans b.im, fun n x h => b.ax n x (a.ax n x h)⟩
theorem Ext.grow {H H' I I' : Hp} {A A' : List Addr} (x : Ext H I A H' I' A') : GrowA I A I' A' := ⟨x.im, x.ax⟩

def PoS (K : PySem.W.Frag) (mg : Str → Option Value) (E : Entry) (W : WX) (I : Hp) (A : List Addr) (o : SOut) (D : Ends) : Prop :=
  match o with
  | .nx ρ' S' => ∀ σ' H' I' A', Rel K mg E σ' H' ρ' S' I' A' → GrowA I A I' A' → D.nx σ' H'
  | .bk ρ' S' => ∀ σ' H' I' A', Rel K mg E σ' H' ρ' S' I' A' → GrowA I A I' A' → D.bk σ' H'
  | .ct ρ' S' => ∀ σ' H' I' A', Rel K mg E σ' H' ρ' S' I' A' → GrowA I A I' A' → D.ct σ' H'
  | .rt d S' => ∀ v H' I' A', RelS K mg H' S' I' A' → Ext E.H E.I E.A H' I' A' → GrowA I A I' A' → Rep K I' A' v d → D.rt v H'
  | .exc c fs ρ' S' => ∀ C dd vs σ' H' I' A', mg c = some (.ref C) → Rel K mg E σ' H' ρ' S' I' A' → GrowA I A I' A' →
      (fs = [] → dd = none) → (fs ≠ [] → ∃ d, dd = some d ∧ H' d = some (.xd vs)) → Paired (fun (p : Str × V) (q : Str × DL.D) => p.1 = q.1 ∧ Rep K I' A' p.2 q.2) vs fs → W (.ref C) dd σ' H'
  | .bad => False
def lftS (K : PySem.W.Frag) (mg : Str → Option Value) (E : Entry) (W : WX) (m : SM) : TS := fun D σ H => ∃ ρ S I A, Rel K mg E σ H ρ S I A ∧ PoS K mg E W I A (m ρ S) D

section
variable {α β : Type} {K : PySem.W.Frag} {mg : Str → Option Value} {E : Entry} {W : WX} {σ : L2.St} {H H1 : Hp} {ρ : Env} {S : Sto} {I I1 : Hp} {A A1 : List Addr} {D D' : Ends}
theorem PoS.from {o : SOut} (g : GrowA I A I1 A1) (h : PoS K mg E W I A o D) : PoS K mg E W I1 A1 o D := by
  cases o with
  | nx ρ' S' => exact fun σ' H' I' A' r x => h σ' H' I' A' r (g.trans x)
  | bk ρ' S' => exact fun σ' H' I' A' r x => h σ' H' I' A' r (g.trans x)
  | ct ρ' S' => exact fun σ' H' I' A' r x => h σ' H' I' A' r (g.trans x)
  | rt d S' => exact fun v H' I' A' r x y => h v H' I' A' r x (g.trans y)
  | exc c fs ρ' S' => exact fun C dd vs σ' H' I' A' h1 r x => h C dd vs σ' H' I' A' h1 r (g.trans x)
  | bad => exact h
theorem PoS.imp {o : SOut} (h : PoS K mg E W I A o D) (hn : ∀ σ H, D.nx σ H → D'.nx σ H) (hr : ∀ v H, D.rt v H → D'.rt v H) (hb : ∀ σ H, D.bk σ H → D'.bk σ H) (hc : ∀ σ H, D.ct σ H → D'.ct σ H) : PoS K mg E W I A o D' := by
  cases o with
  | nx ρ' S' => exact fun σ' H' I' A' r x => hn _ _ (h σ' H' I' A' r x)
  | bk ρ' S' => exact fun σ' H' I' A' r x => hb _ _ (h σ' H' I' A' r x)
  | ct ρ' S' => exact fun σ' H' I' A' r x => hc _ _ (h σ' H' I' A' r x)
  | rt d S' => exact fun v H' I' A' r x y z => hr _ _ (h v H' I' A' r x y z)
  | exc c fs ρ' S' => exact h
  | bad => exact h
def sE {α : Type} (m : EM α) (f : α → SM) : SM := fun ρ S => match m ρ S with
  | .ok a S1 => f a ρ S1
  | .exc c fs S1 => .exc c fs ρ S1
  | .bad => .bad
theorem seqE {R : α → Hp → Hp → List Addr → β → Prop} {m : EM α} {f : α → SM} {T : β → Hp → Prop} (r : Rel K mg E σ H ρ S I A) (p : PoS K mg E W I A (sE m f ρ S) D)
    (hT : ∀ a v H1 S1 I1 A1, Rel K mg E σ H1 ρ S1 I1 A1 → Ext H I A H1 I1 A1 → R a H1 I1 A1 v → PoS K mg E W I1 A1 (f a ρ S1) D → T v H1) : lft K mg E W R m σ H T := by
  refine ⟨ρ, S, I, A, r, ?_⟩
  unfold sE at p
  cases e : m ρ S with
  | ok a S1 =>
    rw [e] at p
    intro v H1 I1 A1 h1 h2 h3
    exact hT a v H1 S1 I1 A1 h1 h2 h3 (PoS.from h2.grow p)
  | exc c fs S1 =>
    rw [e] at p
    intro C dd vs H' I' A' h1 h2 h3 h4 h5 h6 h7
    exact p C dd vs σ H' I' A' h1 (r.step h2 h4) h4.grow h5 h6 h7
  | bad => rw [e] at p; exact p
end

abbrev DS (X : Cx) (E : Entry) (W : WX) (st : Stmt) (m : SM) : Prop := PS X st (lftS X.K X.mg E W m)
abbrev DSs (X : Cx) (E : Entry) (W : WX) (sts : List Stmt) (m : SM) : Prop := PSs X sts (lftS X.K X.mg E W m)
def sNext : SM := fun ρ S => .nx ρ S
def sBreak : SM := fun ρ S => .bk ρ S
def sCont : SM := fun ρ S => .ct ρ S
def sNever : SM := fun _ _ => .bad
def sSeq (m n : SM) : SM := fun ρ S => match m ρ S with
  | .nx ρ' S' => n ρ' S'
  | o => o
def sDrop (m : EM D) : SM := sE m fun _ => sNext
def sRet (m : EM D) : SM := sE m fun d _ S => .rt d S
def sIf (t : EM Bool) (a b : SM) : SM := sE t fun c => if c = true then a else b
def sSet (i : Nat) (m : EM D) : SM := sE m fun d ρ S => .nx (ρ.set i (.val d)) S

section
variable {K : PySem.W.Frag} {mg : Str → Option Value} {E : Entry} {σ : L2.St} {H : Hp} {ρ : Env} {S : Sto} {I : Hp} {A : List Addr}
theorem Rel.setVal (r : Rel K mg E σ H ρ S I A) {i : Nat} {v : V} {d : D} (h : Rep K I A v d) : Rel K mg E (σ.set i (some v)) H (ρ.set i (.val d)) S I A := by
  have ne : ∀ (j : Nat) (ds : List D), (ρ.set i (.val d))[j]? = some (Sl.own ds) → j ≠ i ∧ ρ[j]? = some (Sl.own ds) := fun j ds e => by
    by_cases hj : i = j
    · subst hj
      by_cases hl : i < ρ.length
      · rw [List.getElem?_set_self hl] at e; cases e
      · rw [List.getElem?_eq_none (by simpa using hl)] at e; cases e
    · rw [List.getElem?_set_ne hj] at e; exact ⟨fun z => hj z.symm, e⟩
  refine ⟨r.s, ⟨by simp [r.e.len], fun j d' e => ?_, fun j ds e => ?_, fun j k ds es a e1 e2 e3 e4 => ?_⟩, r.x, fun j ds a e e' => ?_⟩
  · by_cases hj : i = j
    · subst hj
      by_cases hl : i < ρ.length
      · rw [List.getElem?_set_self hl] at e
        cases e
        exact ⟨v, by rw [List.getElem?_set_self (by rw [r.e.len]; exact hl)], h⟩
      · rw [List.getElem?_eq_none (by simpa using hl)] at e; cases e
    · rw [List.getElem?_set_ne hj] at e ⊢
      exact r.e.val j d' e
  · obtain ⟨hj, e⟩ := ne j ds e
    rw [List.getElem?_set_ne (fun z => hj z.symm)]
    exact r.e.own j ds e
  · obtain ⟨hj, e1⟩ := ne j ds e1
    obtain ⟨hk, e2⟩ := ne k es e2
    rw [List.getElem?_set_ne (fun z => hj z.symm)] at e3
    rw [List.getElem?_set_ne (fun z => hk z.symm)] at e4
    exact r.e.dis j k ds es a e1 e2 e3 e4
  · obtain ⟨hj, e⟩ := ne j ds e
    rw [List.getElem?_set_ne (fun z => hj z.symm)] at e'
    exact r.y j ds a e e'
end

section
variable {X : Cx} {E : Entry} {W : WX} {st : Stmt} {rest : List Stmt} {m n : SM} {e : Expr} {me : EM D} {pos : Pos}
theorem dss_nil : DSs X E W [] sNext := by
  refine PSs.imp pss_nil fun D σ H ⟨ρ, S, I, A, r, p⟩ => ?_
  exact p σ H I A r (GrowA.refl _ _)
theorem seq_go {D : Ends} {σ : L2.St} {H : Hp} (h : lftS X.K X.mg E W (sSeq m n) D σ H) : tSeq (lftS X.K X.mg E W m) (lftS X.K X.mg E W n) D σ H := by
  obtain ⟨ρ, S, I, A, r, p⟩ := h
  refine ⟨ρ, S, I, A, r, ?_⟩
  unfold sSeq at p
  cases e : m ρ S with
  | nx ρ' S' =>
    rw [e] at p
    exact fun σ' H' I' A' r' g => ⟨ρ', S', I', A', r', PoS.from g p⟩
  | _ => rw [e] at p; exact p
theorem dss_cons (h1 : DS X E W st m) (h2 : DSs X E W rest n) : DSs X E W (st :: rest) (sSeq m n) := PSs.imp (pss_cons h1 h2) fun D σ H h => seq_go h
theorem dss_one (h1 : DS X E W st m) : DSs X E W [st] m := pss_one h1
theorem dss_never {sts : List Stmt} : DSs X E W sts sNever := PSs.imp pss_never fun D σ H ⟨ρ, S, I, A, r, p⟩ => p
theorem ds_never : DS X E W st sNever := PS.imp ps_never fun D σ H ⟨ρ, S, I, A, r, p⟩ => p
theorem ds_pass : DS X E W (.Pass pos) sNext := by
  refine PS.imp ps_pass fun D σ H ⟨ρ, S, I, A, r, p⟩ => ?_
  exact p σ H I A r (GrowA.refl _ _)
theorem ds_break : DS X E W (.Break pos) sBreak := by
  refine PS.imp ps_break fun D σ H ⟨ρ, S, I, A, r, p⟩ => ?_
  exact p σ H I A r (GrowA.refl _ _)
theorem ds_cont : DS X E W (.Continue pos) sCont := by
  refine PS.imp ps_continue fun D σ H ⟨ρ, S, I, A, r, p⟩ => ?_
  exact p σ H I A r (GrowA.refl _ _)
theorem ds_expr (he : ME X E W e me) (hs : swapsWith e none pos.line X.env = pure false := by rfl) : DS X E W (.Expr e pos) (sDrop me) := by
  refine PS.imp (ps_expr he hs) fun D σ H ⟨ρ, S, I, A, r, p⟩ => ?_
  refine seqE r p fun d v H1 S1 I1 A1 r1 x1 q1 p1 => ?_
  exact p1 σ H1 I1 A1 r1 (GrowA.refl _ _)
theorem ds_ret (he : ME X E W e me) : DS X E W (.Return (some e) pos) (sRet me) := by
  refine PS.imp (ps_ret he) fun D σ H ⟨ρ, S, I, A, r, p⟩ => ?_
  refine seqE r p fun d v H1 S1 I1 A1 r1 x1 q1 p1 => ?_
  exact p1 v H1 I1 A1 r1.s r1.x (GrowA.refl _ _) q1
theorem ds_if {c : Expr} {a b : List Stmt} {t : EM Bool} (hc : MT X E W c t) (ha : DSs X E W a m) (hb : DSs X E W b n) : DS X E W (.If c a b pos) (sIf t m n) := by
  refine PS.imp (ps_if hc ha hb) fun D σ H ⟨ρ, S, I, A, r, p⟩ => ?_
  refine seqE r p fun d v H1 S1 I1 A1 r1 x1 q1 p1 => ?_
  cases q1
  cases d with
  | true => rw [if_pos rfl] at p1 ⊢; exact ⟨ρ, S1, I1, A1, r1, p1⟩
  | false => rw [if_neg Bool.false_ne_true] at p1 ⊢; exact ⟨ρ, S1, I1, A1, r1, p1⟩
theorem ds_set (i : Nat) {x : Str} {pos' : Pos} (hN : X.N.Nodup) (hi : X.N[i]? = some x) (hx : Loc X.env.scope x) (he : ME X E W e me) (hs : swapsWith e (some (.Name x pos')) pos.line X.env = pure false := by rfl) (hf : X.fn x = true ∨ X.env.scope.names.lookup x = some .local := by first | exact .inl rfl | exact .inr rfl | assumption) :
    DS X E W (.Assign [.Name x pos'] e pos) (sSet i me) := by
  refine PS.imp (ps_set hN hi hx he hs hf) fun D σ H ⟨ρ, S, I, A, r, p⟩ => ?_
  refine seqE r p fun d v H1 S1 I1 A1 r1 x1 q1 p1 => ?_
  exact p1 _ H1 I1 A1 (r1.setVal q1) (GrowA.refl _ _)
end

/-! ### calls of the text's own defs -/
/-- the promise: the def hands back what F says -/
def spD (K : PySem.W.Frag) (mg : Str → Option Value) (n : Nat) (F : List D → Sto → Out D) : Sp := fun vs H Q E =>
  vs.length = n ∧ ∃ ds S I A, RelS K mg H S I A ∧ Reps K I A vs ds ∧ match F ds S with
    | .ok d S' => ∀ v H' I' A', RelS K mg H' S' I' A' → Ext H I A H' I' A' → Rep K I' A' v d → Q v H'
    | .exc c fs S' => okX K mg ⟨H, I, A⟩ H I A c fs S' E
    | .bad => False
def eCall (F : List D → Sto → Out D) (ms : EM (List D)) : EM D := fun ρ S => (ms ρ S).bind fun ds S1 => F ds S1
theorem okX.entry {K : PySem.W.Frag} {mg : Str → Option Value} {E : Entry} {H I : Hp} {A : List Addr} {c : Str} {fs : List (Str × D)} {S' : Sto} {Q : XK} (x : Ext E.H E.I E.A H I A) (h : okX K mg E H I A c fs S' Q) : okX K mg ⟨H, I, A⟩ H I A c fs S' Q :=
  fun C dd vs H' I' A' h1 h2 h3 h4 => h C dd vs H' I' A' h1 h2 (x.trans h4) h4
section
variable {X : Cx} {E : Entry} {W : WX} {f : Addr} {fd : FuncData} {ps : List Str} {k nn : Nat} {F : List D → Sto → Out D} {x : Str} {e : Expr} {es : List Expr} {ms : EM (List D)} {pos p : Pos}
theorem own_go {σ : L2.St} {H : Hp} {Q : VK} (hn : ∀ ρ S ds S1, ms ρ S = .ok ds S1 → ds.length = nn) (h : lft X.K X.mg E W (rD X.K) (eCall F ms) σ H Q) : tCallS (spD X.K X.mg nn F) (WE W) (lft X.K X.mg E W (rDs X.K) ms) σ H Q := by
  obtain ⟨ρ, S, I, A, r, p⟩ := h
  have hn' := hn ρ S
  unfold tCallS
  refine ⟨ρ, S, I, A, r, ?_⟩
  unfold eCall at p
  cases e : ms ρ S with
  | bad => rw [e] at p; exact p
  | exc c fs S1 => rw [e] at p; exact p
  | ok ds S1 =>
    rw [e] at p
    intro vs H1 I1 A1 r1 x1 q1
    refine ⟨by rw [Reps.length q1]; exact hn' ds S1 e, ds, S1, I1, A1, r1.s, q1, ?_⟩
    have p1 : Po X.K X.mg E W σ H I A (F ds S1) fun c S2 => okR X.K X.mg E σ H ρ I A S2 (rD X.K c) Q := p
    have p2 := Po.from (k' := fun c S2 => okR X.K X.mg E σ H1 ρ I1 A1 S2 (rD X.K c) Q) x1 p1 fun c S2 ho => okR.from x1 ho
    cases q : F ds S1 with
    | bad => rw [q] at p2; exact p2
    | exc c fs S2 => rw [q] at p2; exact okX.entry r1.x p2
    | ok d S2 =>
      rw [q] at p2
      intro v H' I' A' s' x' rv
      exact p2 v H' I' A' (r1.step s' x') x' rv
/-- f(e, ..) -/
theorem de_call (G : FnOk X.prog X.w X.K X.mg X.base (L2.CX X.prog X.w) k f fd ps (spD X.K X.mg nn F)) (hr : Room k X.A) (hg : Gl X x) (hm : X.mg x = some (.ref f)) (hk : PySem.W.keepIn X.K (.ref f) = true) (hb : Binds X.K fd ps []) (tk : Takes X W)
    (ha : MA X E W (e :: es) ms) (hn : ∀ ρ S ds S1, ms ρ S = .ok ds S1 → ds.length = nn) (hdb : (x == ("__debug__" : Str)) = false := by decide) (he : starEach (e :: es) X.env = (false, eval e X.env) :: starEach es X.env := by rfl) (hpl : (backTo pos (starEach es X.env)).any (·.1) = false := by rfl) :
    ME X E W (.Call (.Name x p) (e :: es) [] pos) (eCall F ms) :=
  PE.imp (pe_callS G hr hg hm hk hb (fun σ => passAt tk σ) ha hdb he hpl) fun σ H Q h => own_go hn h
/-- f() -/
theorem de_call0 (G : FnOk X.prog X.w X.K X.mg X.base (L2.CX X.prog X.w) k f fd ps (spD X.K X.mg 0 F)) (hr : Room k X.A) (hg : Gl X x) (hm : X.mg x = some (.ref f)) (hk : PySem.W.keepIn X.K (.ref f) = true) (hb : Binds X.K fd ps []) (tk : Takes X W)
    (hdb : (x == ("__debug__" : Str)) = false := by decide) : ME X E W (.Call (.Name x p) [] [] pos) (eCall F aNil) := by
  refine ⟨fun pins s σ H Q I h => ?_⟩
  have h' := own_go (nn := 0) (ms := aNil) (fun ρ S ds S1 e => by cases e; rfl) h
  have hq : ∃ Q' : Prop, True := ⟨True, trivial⟩
  refine wpAny_Call_Name_kw (ld_glob I hg hm ?_ hdb)
  refine PySem.W.callWith_K0 I.kIn hk ?_
  obtain ⟨ρ, S, I0, A, r, p⟩ := h'
  exact run_fnS (us := []) (vs := []) G hr hb (passAt tk σ) I .nil (p [] H I0 A r (Ext.refl _ _ _) .nil)
end
theorem len_nil : ∀ (ρ : Env) (S : Sto) (ds : List D) (S1 : Sto), aNil ρ S = .ok ds S1 → ds.length = 0 := fun ρ S ds S1 e => by cases e; rfl
theorem len_cons {m : EM D} {ms : EM (List D)} {n : Nat} (h : ∀ ρ S ds S1, ms ρ S = .ok ds S1 → ds.length = n) : ∀ (ρ : Env) (S : Sto) (ds : List D) (S1 : Sto), aCons m ms ρ S = .ok ds S1 → ds.length = n + 1 := fun ρ S ds S1 e => by
  unfold aCons at e
  cases q : m ρ S with
  | bad => rw [q] at e; cases e
  | exc c fs S' => rw [q] at e; cases e
  | ok d S' =>
    rw [q, Out.bind_ok] at e
    cases q2 : ms ρ S' with
    | bad => rw [q2] at e; cases e
    | exc c fs S' => rw [q2] at e; cases e
    | ok d S'' =>
      rw [q2, Out.bind_ok] at e
      cases e
      simp [h _ _ _ _ q2]

/-! ### a def by its body -/
def envStart (n : Nat) (ds : List D) : Env := ds.map Sl.val ++ List.replicate (n - ds.length) Sl.no
def runB (m : SM) (n : Nat) : List D → Sto → Out D := fun ds S => match m (envStart n ds) S with
  | .nx _ S' => .ok .non S'
  | .rt d S' => .ok d S'
  | .exc c fs _ S' => .exc c fs S'
  | _ => .bad
theorem rel_start {K : PySem.W.Frag} {mg : Str → Option Value} {H I : Hp} {A : List Addr} {S : Sto} {N : List Str} {vs : List V} {ds : List D} (s : RelS K mg H S I A) (h : Reps K I A vs ds) :
    Rel K mg ⟨H, I, A⟩ (L2.start N vs) H (envStart N.length ds) S I A := by
  have hl := h.length
  have no : ∀ (i : Nat) (l : List D), (envStart N.length ds)[i]? ≠ some (Sl.own l) := fun i l e => by
    unfold envStart at e
    by_cases hi : i < ds.length
    · rw [List.getElem?_append_left (by simpa using hi), List.getElem?_map] at e
      cases q : ds[i]? with
      | none => rw [q] at e; cases e
      | some d => rw [q] at e; cases e
    · rw [List.getElem?_append_right (by simpa using hi), List.getElem?_replicate] at e
      split at e <;> cases e
  refine ⟨s, ⟨by unfold L2.start envStart; simp [hl], fun i d e => ?_, fun i l e => absurd e (no i l), fun i j l l' a e => absurd e (no i l)⟩, Ext.refl _ _ _, fun i l a e => absurd e (no i l)⟩
  unfold envStart at e
  by_cases hi : i < ds.length
  · rw [List.getElem?_append_left (by simpa using hi), List.getElem?_map] at e
    cases q : ds[i]? with
    | none => rw [q] at e; cases e
    | some d' =>
      rw [q] at e; cases e
      obtain ⟨v, h1, h2⟩ := h.getD q
      refine ⟨v, ?_, h2⟩
      unfold L2.start
      rw [List.getElem?_append_left (by simpa [hl] using hi), List.getElem?_map, h1]; rfl
  · rw [List.getElem?_append_right (by simpa using hi), List.getElem?_replicate] at e
    split at e <;> cases e
section
variable {P : Program} {w : World} {K : PySem.W.Frag} {mg : Str → Option Value} {base : Heap}
/-- the context of a def of the text, with what its rules ask -/
structure CtxOf (X : Cx) (K : PySem.W.Frag) (mg : Str → Option Value) (P : Program) (w : World) (base : Heap) (N : List Str) (sc : Scope) (W : WX) (k : Nat) : Prop where
  hP : X.prog = P
  hw : X.w = w
  hK : X.K = K
  hmg : X.mg = mg
  hb : X.base = base
  hN : X.N = N
  hsc : X.env.scope = sc
  calm : X.calm = true
  tk : Takes X W
  hr : Room k X.A
  pa : PassesOwn (model X.prog X.w) X.A X.env X.xe
theorem def_ok {x qual : Str} {st : Stmt} {f : Addr} {fd : FuncData} {N ps : List Str} {k : Nat} {m : SM} {F : List D → Sto → Out D} (Fu : Fun K x qual st f fd) (S : FnScope N ps (defScope st))
    (hF : ∀ ds S, F ds S = runB m N.length ds S)
    (hbody : ∀ (cdv : Value) (A : Around) (outer : List PySem.Env) (s : Shared) (H : Hp) (E : XK) (En : Entry), Room k (A.deeper (PyProof.Rows.envOfC qual (defScope st) s.heap.objs.size f cdv)) →
      (Takes (cxOf (L2.CX P w) P w K mg base N qual (defScope st) f cdv A outer s H E) (fun cls d _ H => E cls d H)) →
      PassesOwn (model P w) (cxOf (L2.CX P w) P w K mg base N qual (defScope st) f cdv A outer s H E).A (cxOf (L2.CX P w) P w K mg base N qual (defScope st) f cdv A outer s H E).env (cxOf (L2.CX P w) P w K mg base N qual (defScope st) f cdv A outer s H E).xe →
      DSs (cxOf (L2.CX P w) P w K mg base N qual (defScope st) f cdv A outer s H E) En (fun cls d _ H => E cls d H) (defBody st) m) :
    FnOk P w K mg base (L2.CX P w) (k + 1) f fd ps (spD K mg ps.length F) := by
  refine Fu.okX S (fun vs H Q E h => h.1) (fun cdv A outer s H vs Q E hr h => ?_)
  obtain ⟨hl, ds, St, I, A', rs, rv, hq⟩ := h
  refine ⟨_, hbody cdv A outer s H E ⟨H, I, A'⟩ hr (takes_of rfl rfl rfl rfl) (passes_of rfl), envStart N.length ds, St, I, A', rel_start rs rv, ?_⟩
  rw [hF] at hq
  unfold runB at hq
  cases e : m (envStart N.length ds) St with
  | nx ρ' S' =>
    rw [e] at hq
    exact fun σ' H' I' A'' r _ => hq .non H' I' A'' r.s r.x .non
  | rt d S' =>
    rw [e] at hq
    exact fun v H' I' A'' s' x' _ rv' => hq v H' I' A'' s' x' rv'
  | exc c fs ρ' S' =>
    rw [e] at hq
    exact fun C dd vs' σ' H' I' A'' h1 r _ h5 h6 h7 => hq C dd vs' H' I' A'' h1 r.s r.x r.x h5 h6 h7
  | bk _ _ => rw [e] at hq; exact hq.elim
  | ct _ _ => rw [e] at hq; exact hq.elim
  | bad => rw [e] at hq; exact hq.elim
end
end DL
set_option Elab.async false
set_option linter.all false
set_option maxRecDepth 100000
set_option maxHeartbeats 2000000
set_option autoImplicit false
namespace DL
open PySem L2

/-! ### targets -/
abbrev GM := D → Env → Sto → Option (Env × Sto)
/-- sl: the slots that are stored -/
def lftG (K : PySem.W.Frag) (mg : Str → Option Value) (E : Entry) (sl : List Nat) (g : GM) : TG := fun v σ H Q => ∃ ρ S I A d, Rel K mg E σ H ρ S I A ∧ Rep K I A v d ∧ ∃ ρ' S', g d ρ S = some (ρ', S') ∧
  ∀ σ' H' I' A', Rel K mg E σ' H' ρ' S' I' A' → Ext H I A H' I' A' → (∀ vs, (∀ i ∈ sl, i ∈ vs) → wipe σ' vs = wipe σ vs) → Q σ' H'
def lftGs (K : PySem.W.Frag) (mg : Str → Option Value) (E : Entry) (sl : List Nat) (g : List D → Env → Sto → Option (Env × Sto)) : TGs := fun vs σ H Q => ∃ ρ S I A ds, Rel K mg E σ H ρ S I A ∧ Reps K I A vs ds ∧ ∃ ρ' S', g ds ρ S = some (ρ', S') ∧
  ∀ σ' H' I' A', Rel K mg E σ' H' ρ' S' I' A' → Ext H I A H' I' A' → (∀ vs, (∀ i ∈ sl, i ∈ vs) → wipe σ' vs = wipe σ vs) → Q σ' H'
def gVar (i : Nat) : GM := fun d ρ S => some (ρ.set i (.val d), S)
def gsNil : List D → Env → Sto → Option (Env × Sto)
  | [], ρ, S => some (ρ, S)
  | _, _, _ => none
def gsCons (g : GM) (gs : List D → Env → Sto → Option (Env × Sto)) : List D → Env → Sto → Option (Env × Sto)
  | d :: ds, ρ, S => match g d ρ S with
    | some (ρ1, S1) => gs ds ρ1 S1
    | none => none
  | [], _, _ => none
/-- unpacking of a tuple or a list -/
def gSeq (n : Nat) (gs : List D → Env → Sto → Option (Env × Sto)) : GM := fun d ρ S => match seqOf d with
  | some (_, l) => if l.length = n then gs l ρ S else none
  | none => none
/-- x[k] = v: x a list of the store, k written -/
def gItm (o : EM D) (k : Int) : GM := fun d ρ S => match o ρ S with
  | .ok (.obj n) S1 => match S1[n]? with
    | some (.lst l) => match ixN l.length k with
      | some j => some (ρ, S1.set n (.lst (l.set j d)))
      | none => none
    | _ => none
  | _ => none
abbrev DG (X : Cx) (E : Entry) (sl : List Nat) (tg : Expr) (g : GM) : Prop := PG X tg (lftG X.K X.mg E sl g)
abbrev DGs (X : Cx) (E : Entry) (sl : List Nat) (tgs : List Expr) (g : List D → Env → Sto → Option (Env × Sto)) : Prop := PGs X tgs (lftGs X.K X.mg E sl g)
theorem PG.imp {X : Cx} {e : Expr} {t t' : TG} (h : PG X e t) (hi : ∀ v σ H Q, t' v σ H Q → t v σ H Q) : PG X e t' := ⟨fun pins s σ H v u Q I r q => h.run pins s σ H v u Q I r (hi v σ H Q q)⟩
theorem PGs.imp {X : Cx} {e : List Expr} {t t' : TGs} (h : PGs X e t) (hi : ∀ v σ H Q, t' v σ H Q → t v σ H Q) : PGs X e t' := ⟨fun pins s σ H v u Q I r q => h.run pins s σ H v u Q I r (hi v σ H Q q)⟩
theorem wipe_set {σ : L2.St} {i : Nat} {v : Option V} : ∀ {vs : List Nat}, i ∈ vs → wipe (σ.set i v) vs = wipe σ vs := by
  intro vs h
  apply List.ext_getElem?
  intro j
  by_cases hj : j ∈ vs
  · have out : ∀ τ : L2.St, (wipe τ vs)[j]? = if j < τ.length then some none else none := fun τ => by
      have hl := wipe_length τ vs
      cases q : (wipe τ vs)[j]? with
      | none =>
        have := List.getElem?_eq_none_iff.mp q
        rw [if_neg (by omega)]
      | some o =>
        cases o with
        | none =>
          have := (List.getElem?_eq_some_iff.mp q).1
          rw [if_pos (by omega)]
        | some x => exact absurd hj (wipe_some q).2
    rw [out, out, List.length_set]
  · have hij : i ≠ j := fun e => hj (e ▸ h)
    rw [wipe_out hj, wipe_out hj, List.getElem?_set_ne hij]
section
variable {X : Cx} {E : Entry} {W : WX} {pos : Pos}
theorem dg_var (i : Nat) {x : Str} (h : PG X (.Name x pos) (gName i)) : DG X E [i] (.Name x pos) (gVar i) := by
  refine PG.imp h fun v σ H Q ⟨ρ, S, I, A, d, r, rv, ρ', S', e, k⟩ => ?_
  cases e
  exact k _ H I A (r.setVal rv) (Ext.refl _ _ _) fun vs hv => wipe_set (hv i (by simp))
theorem dgs_nil : DGs X E [] [] gsNil := by
  refine PGs.imp pgs_nil fun vs σ H Q ⟨ρ, S, I, A, ds, r, rv, ρ', S', e, k⟩ => ?_
  cases ds with
  | cons d ds => cases e
  | nil =>
    cases e
    cases rv
    exact ⟨rfl, k σ H I A r (Ext.refl _ _ _) fun _ _ => rfl⟩
theorem dgs_cons {sl sl' : List Nat} {e : Expr} {es : List Expr} {g : GM} {gs : List D → Env → Sto → Option (Env × Sto)} (h1 : DG X E sl e g) (h2 : DGs X E sl' es gs)
    (hs : (assignEach (e :: es) X.env).map (·.2) = assign e X.env :: (assignEach es X.env).map (·.2) := by rfl) : DGs X E (sl ++ sl') (e :: es) (gsCons g gs) := by
  refine PGs.imp (pgs_cons h1 h2 hs) fun vs σ H Q ⟨ρ, S, I, A, ds, r, rv, ρ', S', e, k⟩ => ?_
  cases ds with
  | nil => cases e
  | cons d ds =>
    cases rv with
    | cons rv rvs =>
      unfold gsCons at e
      dsimp only at e
      cases q : g d ρ S with
      | none => rw [q] at e; cases e
      | some p =>
        obtain ⟨ρ1, S1⟩ := p
        rw [q] at e
        refine ⟨_, _, rfl, ρ, S, I, A, d, r, rv, ρ1, S1, q, fun σ1 H1 I1 A1 r1 x1 w1 => ?_⟩
        refine ⟨ρ1, S1, I1, A1, ds, r1, x1.reps rvs, ρ', S', e, fun σ2 H2 I2 A2 r2 x2 w2 => ?_⟩
        exact k σ2 H2 I2 A2 r2 (x1.trans x2) fun vs hv => (w2 vs fun i hi => hv i (List.mem_append_right _ hi)).trans (w1 vs fun i hi => hv i (List.mem_append_left _ hi))
theorem pg_or {tg : Expr} {t t' : TG} (h : PG X tg t) (h' : PG X tg t') : PG X tg (fun v σ H Q => t v σ H Q ∨ t' v σ H Q) := ⟨fun pins s σ H v u Q I r q => q.elim (h.run pins s σ H v u Q I r) (h'.run pins s σ H v u Q I r)⟩
theorem dg_seq {sl : List Nat} {es : List Expr} {k n : Nat} {gs : List D → Env → Sto → Option (Env × Sto)} (hc : X.calm = true) (h : DGs X E sl es gs)
    (hn : (assignEach es X.env).length = n := by rfl) (hst : (assignEach es X.env).findIdx? (·.1) = none := by rfl) : DG X E sl (.Tuple es k pos) (gSeq n gs) := by
  refine PG.imp (pg_or (pg_tup hc h hn hst) (pg_lst hc h hn hst)) fun v σ H Q ⟨ρ, S, I, A, d, r, rv, ρ', S', e, k⟩ => ?_
  unfold gSeq at e
  cases q : seqOf d with
  | none => rw [q] at e; cases e
  | some kl =>
    obtain ⟨kd, l⟩ := kl
    rw [q] at e
    dsimp only at e
    by_cases hl : l.length = n
    · rw [if_pos hl] at e
      obtain ⟨a, xs, rfl, h1, h2⟩ := rv.seq r.s.sub q
      cases kd with
      | true =>
        rw [if_pos rfl] at h1
        exact .inl ⟨a, xs, rfl, h1, by rw [h2.length]; exact hl, ρ, S, I, A, l, r, h2, ρ', S', e, k⟩
      | false =>
        rw [if_neg Bool.false_ne_true] at h1
        exact .inr ⟨a, xs, rfl, h1, by rw [h2.length]; exact hl, ρ, S, I, A, l, r, h2, ρ', S', e, k⟩
    · rw [if_neg hl] at e; cases e
end

/-! ### a list of the store is changed -/
section
variable {K : PySem.W.Frag} {mg : Str → Option Value} {E : Entry} {σ : L2.St} {H : Hp} {ρ : Env} {S : Sto} {I : Hp} {A : List Addr}
theorem RelS.put (s : RelS K mg H S I A) {n : Nat} {a : Addr} {xs : List V} {l : List D} (hn : A[n]? = some a) (hr : Reps K I A xs l) (hs : n < S.length) : RelS K mg (upd H a (.lst xs)) (S.set n (.lst l)) I A where
  sub := fun b u e => by
    have : b ≠ a := fun z => by rw [z, s.out a (List.mem_of_getElem? hn)] at e; cases e
    rw [upd_ne this]; exact s.sub b u e
  len := by simp [s.len]
  nd := s.nd
  out := s.out
  st := fun j ob e => by
    by_cases hj : n = j
    · subst hj
      rw [List.getElem?_set_self hs] at e
      cases e
      exact ⟨a, hn, xs, upd_same, hr⟩
    · rw [List.getElem?_set_ne hj] at e
      obtain ⟨b, h1, h2⟩ := s.st j ob e
      have hb : b ≠ a := fun z => hj (by
        subst z
        obtain ⟨p1, q1⟩ := List.getElem?_eq_some_iff.mp hn
        obtain ⟨p2, q2⟩ := List.getElem?_eq_some_iff.mp h1
        exact (List.getElem_inj s.nd).mp (q1.trans q2.symm))
      exact ⟨b, h1, h2.mono (Same.refl _) (fun _ _ z => z) (upd_ne hb)⟩
theorem RelS.putX (s : RelS K mg H S I A) {n : Nat} {a : Addr} {o : HO} (hn : A[n]? = some a) : Ext H I A (upd H a o) I A :=
  ⟨fun b u e hb => by rw [upd_ne (show b ≠ a from fun z => hb (z ▸ List.mem_of_getElem? hn))]; exact e, fun b e => by
    by_cases hb : b = a
    · subst hb; rw [upd_same]; simp
    · rw [upd_ne hb]; exact e, Same.refl _, fun b e hi => hi, [], by simp, by simp⟩
end
section
variable {X : Cx} {E : Entry} {W : WX} {pos p2 : Pos} {o : Expr} {mo : EM D}
/-- x[k] = v as a target; x's value is a list of the store -/
theorem dg_itm {k : Int} {j : Nat} (hs : ME X E W o mo) (hm : ∀ ρ S d S1, mo ρ S = .ok d S1 → S1 = S)
    (ha : ∀ v, assign (.Subscript o (.Constant (.int k) j p2) pos) X.env v = (do
      let ov ← holding [v] (eval o X.env)
      let iv ← holding [v, ov] (eval (.Constant (.int k) j p2) X.env)
      standAt pos
      holding [v, ov, iv] (setItem ov iv v)
      release [v, ov, iv] []) := by intro _; rfl) : DG X E [] (.Subscript o (.Constant (.int k) j p2) pos) (gItm mo k) := by
  refine PG.imp (pg_sub hs pe_int set_list ha) fun v σ H Q ⟨ρ, S, I, A, d, r, rv, ρ', S', e, kk⟩ => ?_
  unfold gItm at e
  cases q : mo ρ S with
  | bad => rw [q] at e; cases e
  | exc c fs S1 => rw [q] at e; cases e
  | ok d1 S1 =>
    have hS := hm ρ S d1 S1 q
    subst hS
    rw [q] at e
    cases d1 <;> first | (cases e; done) | skip
    rename_i n
    dsimp only at e
    cases q2 : S1[n]? with
    | none => rw [q2] at e; cases e
    | some ob =>
      rw [q2] at e
      cases ob with
      | ins c fs => cases e
      | lst l =>
        dsimp only at e
        cases q3 : ixN l.length k with
        | none => rw [q3] at e; cases e
        | some jj =>
          rw [q3] at e
          cases e
          refine ⟨ρ, S1, I, A, r, ?_⟩
          rw [q]
          intro ov H1 I1 A1 r1 x1 q1
          cases q1 with
          | obj hn =>
            obtain ⟨a', h1, xs, h2, h3⟩ := r1.s.st n _ q2
            rw [hn] at h1; cases h1
            refine ⟨_, xs, k, jj, rfl, rfl, h2, by rw [h3.length]; exact q3, ?_⟩
            have hlt := (List.getElem?_eq_some_iff.mp q2).1
            have x2 := r1.s.putX (o := .lst (xs.set jj v)) hn
            exact kk σ _ I1 A1 (r1.step (r1.s.put hn (h3.set jj (x1.rep rv)) hlt) x2) (x1.trans x2) fun _ _ => rfl
end
/-! ### assignments -/
def sAsg (m : EM D) (g : GM) : SM := sE m fun d ρ S => match g d ρ S with
  | some (ρ', S') => .nx ρ' S'
  | none => .bad
section
variable {X : Cx} {E : Entry} {W : WX} {tg e : Expr} {me : EM D} {g : GM} {sl : List Nat} {pos : Pos}
theorem ds_asg (he : ME X E W e me) (hg : DG X E sl tg g) (hs : swapsWithSole [tg] e pos.line X.env = pure false := by rfl) (hw : swappedStores [tg] e X.env = pure none := by rfl)
    (h1 : (assignEach [tg] X.env).map (·.2) = [assign tg X.env] := by rfl) : DS X E W (.Assign [tg] e pos) (sAsg me g) := by
  refine PS.imp (ps_asg he hg hs hw h1) fun D σ H ⟨ρ, S, I, A, r, p⟩ => ?_
  refine seqE r p fun d v H1 S1 I1 A1 r1 x1 q1 p1 => ?_
  cases q : g d ρ S1 with
  | none => rw [q] at p1; exact p1.elim
  | some pr =>
    obtain ⟨ρ', S'⟩ := pr
    rw [q] at p1
    exact ⟨ρ, S1, I1, A1, d, r1, q1, ρ', S', q, fun σ' H' I' A' r' x' _ => p1 σ' H' I' A' r' x'.grow⟩
/-- a, b = x, y: plain local names -/
def sPar (i j : Nat) (m : EM (List D)) : SM := sE m fun l ρ S => match l with
  | [d, d'] => .nx ((ρ.set i (.val d)).set j (.val d')) S
  | _ => .bad
theorem ds_par (i j : Nat) {x y : Str} {a b : Expr} {ms : EM (List D)} {px py pt : Pos} {kt k2 : Nat} {pt2 : Pos} (hc : X.calm = true) (hN : X.N.Nodup) (hi : X.N[i]? = some x) (hj : X.N[j]? = some y) (hij : i ≠ j)
    (hx : X.env.scope.names.lookup x = some .local) (hy : X.env.scope.names.lookup y = some .local) (ha : MA X E W [a, b] ms)
    (hw : swappedStores [.Tuple [.Name x px, .Name y py] kt pt] (.Tuple [a, b] k2 pt2) X.env = pure (some [x, y]))
    (hs : swapsWithSole [.Tuple [.Name x px, .Name y py] kt pt] (.Tuple [a, b] k2 pt2) pos.line X.env = pure false := by rfl) :
    DS X E W (.Assign [.Tuple [.Name x px, .Name y py] kt pt] (.Tuple [a, b] k2 pt2) pos) (sPar i j ms) := by
  refine PS.imp (ps_par hc hN hi hj hij hx hy ha hw hs) fun D σ H ⟨ρ, S, I, A, r, p⟩ => ?_
  refine seqE r p fun l vs H1 S1 I1 A1 r1 x1 q1 p1 => ?_
  match l, p1 with
  | [], p1 => exact p1.elim
  | [_], p1 => exact p1.elim
  | _ :: _ :: _ :: _, p1 => exact p1.elim
  | [d, d'], p1 =>
    obtain ⟨v, w, rfl, h1, h2⟩ := reps2 q1
    exact ⟨v, w, rfl, p1 _ H1 I1 A1 ((r1.setVal h1).setVal h2) (GrowA.refl _ _)⟩
end
end DL
set_option Elab.async false
set_option linter.all false
set_option maxRecDepth 100000
set_option maxHeartbeats 2000000
set_option autoImplicit false
namespace DL
open PySem L2

/-! ### what is walked -/
/-- J walks the items ds, whatever else happens in between -/
structure Walks (K : PySem.W.Frag) (mg : Str → Option Value) (J : It) (I : Hp) (A : List Addr) (ds : List D) : Prop where
  go : ∀ H S I' A' i, RelS K mg H S I' A' → GrowA I A I' A' → i < ds.length → J.go i H
  stop : ∀ H S I' A' i, RelS K mg H S I' A' → GrowA I A I' A' → ds.length ≤ i → J.stop i H
  yld : ∀ H S I' A' i x H', RelS K mg H S I' A' → GrowA I A I' A' → J.yld i H x H' → i < ds.length → ∃ d I2, ds[i]? = some d ∧ RelS K mg H' S I2 A' ∧ Ext H I' A' H' I2 A' ∧ Rep K I2 A' x d
def lftI (K : PySem.W.Frag) (mg : Str → Option Value) (E : Entry) (W : WX) (m : EM (List D)) : TI := fun σ H R => ∃ ρ S I A, Rel K mg E σ H ρ S I A ∧ Po K mg E W σ H I A (m ρ S) fun ds S' =>
  ∀ J H' I' A', Rel K mg E σ H' ρ S' I' A' → Ext H I A H' I' A' → Walks K mg J I' A' ds → R J H'
abbrev DI (X : Cx) (E : Entry) (W : WX) (tg e : Expr) (m : EM (List D)) : Prop := PI X tg e (lftI X.K X.mg E W m)
theorem PI.imp {X : Cx} {tg e : Expr} {t t' : TI} (h : PI X tg e t) (hi : ∀ σ H R, t' σ H R → t σ H R) : PI X tg e t' := ⟨fun pins s σ H R I q => h.run pins s σ H R I (hi σ H R q)⟩
theorem pi_or {X : Cx} {tg e : Expr} {te : TE} (h : PE X e te) : PI X tg e (fun σ H R => te σ H fun x H1 => ∃ a, x = .ref a ∧ (((∃ xs, SqL X.K H1 a xs) ∧ R (Itl X.K a) H1) ∨ ((∃ xs, SqT X.K H1 a xs) ∧ R (Itt X.K a) H1))) := by
  refine ⟨fun pins s σ H R I q => ?_⟩
  refine thn (h.run pins s σ H _ I q) fun v s1 ⟨x, H1, I1, r1, a, ex, hq⟩ => ?_
  have one : ∀ t : TI, PI X tg e t → True := fun _ _ => trivial
  subst ex
  cases r1
  rcases hq with ⟨hq, hr⟩ | ⟨hq, hr⟩
  · obtain ⟨xs, hq⟩ := hq
    obtain ⟨its, rv, p, hz⟩ := I1.list hq
    refine PySem.wpAny_pyIter_list p.isList ?_
    refine ⟨s1.heap.objs.size, [s1.heap.objs.size], _, _, H1, rfl, I1.kept (t' := s1.toks) (fun b o e => Heap.get?_push_of_some _ e), turn_list a _, ⟨_, Heap.get?_push_size _ rfl, rfl, rfl⟩, fun b hb => ?_, hr⟩
    simp at hb
    subst hb
    exact I1.fpOk (Nat.le_refl _) (I1.hok.fresh (Nat.le_refl _))
  · obtain ⟨xs, hq⟩ := hq
    obtain ⟨its, rv, p, hz⟩ := I1.tuple hq
    refine PySem.wpAny_pyIter_tuple (show s1.heap.IsTuple a its.toArray from p) ?_
    refine ⟨s1.heap.objs.size, [s1.heap.objs.size], _, _, H1, rfl, I1.kept (t' := s1.toks) (fun b o e => Heap.get?_push_of_some _ e), turn_tuple a _, ⟨_, Heap.get?_push_size _ rfl, rfl, rfl⟩, fun b hb => ?_, hr⟩
    simp at hb
    subst hb
    exact I1.fpOk (Nat.le_refl _) (I1.hok.fresh (Nat.le_refl _))
def iSeq (m : EM D) : EM (List D) := fun ρ S => (m ρ S).bind fun d S1 => opt ((seqOf d).map (·.2)) S1
section
variable {K : PySem.W.Frag} {mg : Str → Option Value} {I : Hp} {A : List Addr} {a : Addr} {xs : List V} {ds : List D}
theorem walks_tup (h : SqT K I a xs) (hr : Reps K I A xs ds) : Walks K mg (Itt K a) I A ds where
  go := fun H S I' A' i s g hi => ⟨xs, xs[i]'(by rw [hr.length]; exact hi), sq_mono (g.im.trans s.sub) h, by simp⟩
  stop := fun H S I' A' i s g hi => ⟨xs, sq_mono (g.im.trans s.sub) h, by rw [hr.length]; exact hi⟩
  yld := fun H S I' A' i x H' s g y hi => by
    obtain ⟨rfl, hy⟩ := y
    obtain ⟨d, e1, e2⟩ := hr.get (hy xs (sq_mono (g.im.trans s.sub) h))
    exact ⟨d, I', e1, s, Ext.refl _ _ _, e2.mono g.im g.ax⟩
theorem walks_list' (h : SqL K I a xs) (hr : Reps K I A xs ds) : Walks K mg (Itl K a) I A ds where
  go := fun H S I' A' i s g hi => ⟨xs, xs[i]'(by rw [hr.length]; exact hi), (g.im.trans s.sub).seq h, by simp⟩
  stop := fun H S I' A' i s g hi => ⟨xs, (g.im.trans s.sub).seq h, by rw [hr.length]; exact hi⟩
  yld := fun H S I' A' i x H' s g y hi => by
    obtain ⟨rfl, hy⟩ := y
    obtain ⟨d, e1, e2⟩ := hr.get (hy xs ((g.im.trans s.sub).seq h))
    exact ⟨d, I', e1, s, Ext.refl _ _ _, e2.mono g.im g.ax⟩
theorem walks_range (lo : Int) (n : Nat) : Walks K mg (Itr lo n) I A ((List.range n).map fun i => .int (lo + (i : Nat))) where
  go := fun H S I' A' i s g hi => by show i < n; simpa using hi
  stop := fun H S I' A' i s g hi => by show n ≤ i; simpa using hi
  yld := fun H S I' A' i x H' s g y hi => by
    obtain ⟨rfl, rfl⟩ := y
    simp at hi
    exact ⟨.int (lo + i), I', by simp [hi], s, Ext.refl _ _ _, .int _⟩
end
section
variable {X : Cx} {E : Entry} {W : WX} {tg e e2 : Expr} {m : EM D} {ms : EM (List D)} {pos p : Pos}
theorem di_seq (h : ME X E W e m) : DI X E W tg e (iSeq m) := by
  refine PI.imp (pi_or h) fun σ H R ⟨ρ, S, I, A, r, p⟩ => ?_
  refine ⟨ρ, S, I, A, r, ?_⟩
  unfold iSeq at p
  cases q : m ρ S with
  | bad => rw [q] at p; exact p
  | exc c fs S1 => rw [q] at p; exact p
  | ok d S1 =>
    rw [q] at p
    intro v H1 I1 A1 r1 x1 q1
    cases q2 : seqOf d with
    | none => rw [Out.bind_ok, q2] at p; exact p.elim
    | some kl =>
      obtain ⟨kd, l⟩ := kl
      rw [Out.bind_ok, q2] at p
      have p' : ∀ J H' I' A', Rel X.K X.mg E σ H' ρ S1 I' A' → Ext H I A H' I' A' → Walks X.K X.mg J I' A' l → R J H' := p
      obtain ⟨a, xs, rfl, h1, h2⟩ := Rep.seq (Same.refl I1) q1 q2
      cases kd with
      | true =>
        rw [if_pos rfl] at h1
        exact ⟨a, rfl, .inr ⟨⟨xs, sq_mono r1.s.sub h1⟩, p' _ H1 I1 A1 r1 x1 (walks_tup h1 h2)⟩⟩
      | false =>
        rw [if_neg Bool.false_ne_true] at h1
        exact ⟨a, rfl, .inl ⟨⟨xs, r1.s.sub.seq h1⟩, p' _ H1 I1 A1 r1 x1 (walks_list' h1 h2)⟩⟩
theorem len2 {α : Type} {l : List α} (h : l.length = 2) : ∃ a b, l = [a, b] := by
  match l, h with
  | [a, b], _ => exact ⟨a, b, rfl⟩
def rngW (lo hi : Int) : Bool := decide (-(2 ^ 62) ≤ lo ∧ lo < 2 ^ 62 ∧ -(2 ^ 62) ≤ hi ∧ hi < 2 ^ 62)
theorem rngW_of {lo hi : Int} (h : rngW lo hi = true) : -(2 ^ 62) ≤ lo ∧ lo < 2 ^ 62 ∧ -(2 ^ 62) ≤ hi ∧ hi < 2 ^ 62 := of_decide_eq_true h
def rngOf (lo hi : Int) : Option (List D) := if rngW lo hi = true then some ((List.range (hi - lo).toNat).map fun i => .int (lo + (i : Nat))) else none
def rngF : List D → Option (List D)
  | [.int n] => rngOf 0 n
  | [.int a, .int b] => rngOf a b
  | _ => none
def iRng (ms : EM (List D)) : EM (List D) := fun ρ S => (ms ρ S).bind fun l S1 => opt (rngF l) S1
theorem di_range1 (hg : Gl X "range") (hm : X.mg "range" = none) (ha : MA X E W [e] ms) (hn : ∀ ρ S ds S1, ms ρ S = .ok ds S1 → ds.length = 1) (hs : starEach [e] X.env = [(false, eval e X.env)] := by rfl) : DI X E W tg (.Call (.Name "range" p) [e] [] pos) (iRng ms) := by
  refine PI.imp (pi_range1 hg hm ha hs) fun σ H R ⟨ρ, S, I, A, r, p⟩ => ?_
  refine ⟨ρ, S, I, A, r, ?_⟩
  unfold iRng at p
  cases q : ms ρ S with
  | bad => rw [q] at p; exact p
  | exc c fs S1 => rw [q] at p; exact p
  | ok l S1 =>
    rw [q] at p
    intro vs H1 I1 A1 r1 x1 q1
    obtain ⟨d, rfl⟩ := List.length_eq_one_iff.mp (hn ρ S l S1 q)
    · skip
      rw [Out.bind_ok] at p
      obtain ⟨v, rfl, h1⟩ := reps1 q1
      cases d <;> first | (exact p.elim) | skip
      rename_i n
      cases h1
      unfold rngF rngOf at p
      dsimp only at p
      by_cases hb' : rngW 0 n = true
      · rw [if_pos hb'] at p
        have hb := rngW_of hb'
        have p' : ∀ J H' I' A', Rel X.K X.mg E σ H' ρ S1 I' A' → Ext H I A H' I' A' → Walks X.K X.mg J I' A' ((List.range (n - 0).toNat).map fun i => .int (0 + (i : Nat))) → R J H' := p
        refine ⟨n, rfl, hb.2.2.1, hb.2.2.2, ?_⟩
        have e0 : n.toNat = (n - 0).toNat := by rw [Int.sub_zero]
        rw [e0]
        exact p' _ H1 I1 A1 r1 x1 (walks_range 0 _)
      · rw [if_neg hb'] at p; exact p.elim
theorem di_range2 (hg : Gl X "range") (hm : X.mg "range" = none) (ha : MA X E W [e, e2] ms) (hn : ∀ ρ S ds S1, ms ρ S = .ok ds S1 → ds.length = 2) (hs : starEach [e, e2] X.env = [(false, eval e X.env), (false, eval e2 X.env)] := by rfl) (hs2 : starEach [e2] X.env = [(false, eval e2 X.env)] := by rfl) : DI X E W tg (.Call (.Name "range" p) [e, e2] [] pos) (iRng ms) := by
  refine PI.imp (pi_range2 hg hm ha hs hs2) fun σ H R ⟨ρ, S, I, A, r, p⟩ => ?_
  refine ⟨ρ, S, I, A, r, ?_⟩
  unfold iRng at p
  cases q : ms ρ S with
  | bad => rw [q] at p; exact p
  | exc c fs S1 => rw [q] at p; exact p
  | ok l S1 =>
    rw [q] at p
    intro vs H1 I1 A1 r1 x1 q1
    obtain ⟨d, d', rfl⟩ := len2 (hn ρ S l S1 q)
    · skip
      rw [Out.bind_ok] at p
      obtain ⟨v, v', rfl, h1, h2⟩ := reps2 q1
      cases d <;> first | (exact p.elim) | skip
      cases d' <;> first | (exact p.elim) | skip
      rename_i a n
      cases h1
      cases h2
      unfold rngF rngOf at p
      dsimp only at p
      by_cases hb' : rngW a n = true
      · rw [if_pos hb'] at p
        have hb := rngW_of hb'
        have p' : ∀ J H' I' A', Rel X.K X.mg E σ H' ρ S1 I' A' → Ext H I A H' I' A' → Walks X.K X.mg J I' A' ((List.range (n - a).toNat).map fun i => .int (a + (i : Nat))) → R J H' := p
        exact ⟨a, n, rfl, hb, p' _ H1 I1 A1 r1 x1 (walks_range a _)⟩
      · rw [if_neg hb'] at p; exact p.elim
end

/-! ### for -/
def loopF (g : GM) (b : SM) : List D → SM
  | [] => sNext
  | d :: ds => fun ρ S => match g d ρ S with
    | none => .bad
    | some (ρ1, S1) => match b ρ1 S1 with
      | .nx ρ2 S2 => loopF g b ds ρ2 S2
      | .ct ρ2 S2 => loopF g b ds ρ2 S2
      | .bk ρ2 S2 => .nx ρ2 S2
      | o => o
def sFor (it : EM (List D)) (g : GM) (b : SM) : SM := sE it fun ds => loopF g b ds
section
variable {X : Cx} {E : Entry} {W : WX} {tg iter : Expr} {body : List Stmt} {it : EM (List D)} {g : GM} {sl : List Nat} {b : SM} {pos : Pos}
theorem ds_for (hp : PassesOwn (model X.prog X.w) X.A X.env X.xe) (hc : X.calm = true) (hi : DI X E W tg iter it) (hg : DG X E sl tg g) (hb : DSs X E W body b) (hs : ∀ x, foldedSetIterable iter X.env x = pure x := by intro _; rfl) : DS X E W (.For tg iter body [] pos) (sFor it g b) := by
  refine PS.imp (ps_for hp hc hi hg hb hs) fun D σ H ⟨ρ, S, I, A, r, p⟩ => ?_
  refine ⟨ρ, S, I, A, r, ?_⟩
  unfold sFor sE at p
  cases q : it ρ S with
  | bad => rw [q] at p; exact p
  | exc c fs S1 =>
    rw [q] at p
    intro C dd vs H' I' A' h1 h2 h3 h4 h5 h6 h7
    exact p C dd vs σ H' I' A' h1 (r.step h2 h4) h4.grow h5 h6 h7
  | ok ds S1 =>
    rw [q] at p
    intro J H1 I1 A1 r1 x1 wk
    refine ⟨fun i m σ H => m = ds.length - i ∧ i ≤ ds.length ∧ ∃ ρ S I A, Rel X.K X.mg E σ H ρ S I A ∧ GrowA I1 A1 I A ∧ PoS X.K X.mg E W I A (loopF g b (ds.drop i) ρ S) D, ⟨ds.length, by simp, Nat.zero_le _, ρ, S1, I1, A1, r1, GrowA.refl _ _, ?_⟩, ?_⟩
    · rw [List.drop_zero]; exact PoS.from x1.grow p
    · rintro i m σ2 H2 ⟨rfl, hi, ρ2, S2, I2, A2, r2, g2, p2⟩
      by_cases hlt : i < ds.length
      · refine .inr ⟨wk.go H2 S2 I2 A2 i r2.s g2 hlt, fun σ' H' => i + 1 ≤ ds.length ∧ ∃ ρ S I A, Rel X.K X.mg E σ' H' ρ S I A ∧ GrowA I1 A1 I A ∧ PoS X.K X.mg E W I A (loopF g b (ds.drop (i + 1)) ρ S) D, fun σ' H' ⟨h1, h2⟩ => ⟨ds.length - (i + 1), by omega, rfl, h1, h2⟩, fun x H3 y => ?_⟩
        obtain ⟨d, I3, e1, s3, x3, rx⟩ := wk.yld H2 S2 I2 A2 i x H3 r2.s g2 y hlt
        have e2 : ds.drop i = d :: ds.drop (i + 1) := by
          rw [List.drop_eq_getElem_cons hlt]
          congr 1
          exact Option.some.inj ((List.getElem?_eq_getElem hlt).symm.trans e1)
        rw [e2] at p2
        unfold loopF at p2
        have r3 := r2.step s3 x3
        cases qg : g d ρ2 S2 with
        | none => rw [qg] at p2; exact p2.elim
        | some pr =>
          obtain ⟨ρ4, S4⟩ := pr
          rw [qg] at p2
          dsimp only at p2
          refine ⟨ρ2, S2, I3, A2, d, r3, rx, ρ4, S4, qg, fun σ4 H4 I4 A4 r4 x4 _ => ?_⟩
          refine ⟨ρ4, S4, I4, A4, r4, ?_⟩
          have gr : GrowA I2 A2 I4 A4 := x3.grow.trans x4.grow
          cases qb : b ρ4 S4 with
          | nx ρ5 S5 =>
            rw [qb] at p2
            exact fun σ5 H5 I5 A5 r5 g5 => ⟨hlt, ρ5, S5, I5, A5, r5, g2.trans (gr.trans g5), PoS.from (gr.trans g5) p2⟩
          | ct ρ5 S5 =>
            rw [qb] at p2
            exact fun σ5 H5 I5 A5 r5 g5 => ⟨hlt, ρ5, S5, I5, A5, r5, g2.trans (gr.trans g5), PoS.from (gr.trans g5) p2⟩
          | bk ρ5 S5 =>
            rw [qb] at p2
            exact fun σ5 H5 I5 A5 r5 g5 => p2 σ5 H5 I5 A5 r5 (gr.trans g5)
          | rt d5 S5 =>
            rw [qb] at p2
            exact fun v H5 I5 A5 s5 x5 g5 => p2 v H5 I5 A5 s5 x5 (gr.trans g5)
          | exc c fs ρ5 S5 =>
            rw [qb] at p2
            exact fun C dd vs σ5 H5 I5 A5 h1 r5 g5 => p2 C dd vs σ5 H5 I5 A5 h1 r5 (gr.trans g5)
          | bad => rw [qb] at p2; exact p2
      · have e : i = ds.length := by omega
        subst e
        rw [List.drop_length] at p2
        exact .inl ⟨wk.stop H2 S2 I2 A2 _ r2.s g2 (Nat.le_refl _), p2 σ2 H2 I2 A2 r2 (GrowA.refl _ _)⟩

/-! ### while -/
def whileF (t : EM Bool) (b : SM) : Nat → SM
  | 0 => fun _ _ => .bad
  | n + 1 => sE t fun c => if c = true then fun ρ S => match b ρ S with
      | .nx ρ2 S2 => whileF t b n ρ2 S2
      | .ct ρ2 S2 => whileF t b n ρ2 S2
      | .bk ρ2 S2 => .nx ρ2 S2
      | o => o
    else sNext
theorem ds_while (n : Nat) {c : Expr} {t : EM Bool} (hp : PassesOwn (model X.prog X.w) X.A X.env X.xe) (hc : MT X E W c t) (hb : DSs X E W body b) : DS X E W (.While c body [] pos) (whileF t b n) := by
  refine PS.imp (ps_while hp hc hb) fun D σ H ⟨ρ, S, I, A, r, p⟩ => ?_
  refine ⟨fun m σ H => ∃ ρ S I A, Rel X.K X.mg E σ H ρ S I A ∧ PoS X.K X.mg E W I A (whileF t b m ρ S) D, ⟨n, ρ, S, I, A, r, p⟩, ?_⟩
  rintro m σ2 H2 ⟨ρ2, S2, I2, A2, r2, p2⟩
  cases m with
  | zero => exact (show False from p2).elim
  | succ m =>
    unfold whileF at p2
    refine seqE r2 p2 fun d v H3 S3 I3 A3 r3 x3 q3 p3 => ?_
    cases q3
    cases d with
    | false =>
      rw [if_neg Bool.false_ne_true] at p3 ⊢
      exact p3 σ2 H3 I3 A3 r3 (GrowA.refl _ _)
    | true =>
      rw [if_pos rfl] at p3 ⊢
      refine ⟨fun σ' H' => ∃ ρ S I A, Rel X.K X.mg E σ' H' ρ S I A ∧ PoS X.K X.mg E W I A (whileF t b m ρ S) D, fun σ' H' h => ⟨m, Nat.lt_succ_self m, h⟩, ρ2, S3, I3, A3, r3, ?_⟩
      cases qb : b ρ2 S3 with
      | nx ρ5 S5 =>
        rw [qb] at p3
        exact fun σ5 H5 I5 A5 r5 g5 => ⟨ρ5, S5, I5, A5, r5, PoS.from g5 p3⟩
      | ct ρ5 S5 =>
        rw [qb] at p3
        exact fun σ5 H5 I5 A5 r5 g5 => ⟨ρ5, S5, I5, A5, r5, PoS.from g5 p3⟩
      | bk ρ5 S5 =>
        rw [qb] at p3
        exact p3
      | rt d5 S5 =>
        rw [qb] at p3
        exact p3
      | exc c fs ρ5 S5 =>
        rw [qb] at p3
        exact p3
      | bad => rw [qb] at p3; exact p3
end
end DL
set_option Elab.async false
set_option linter.all false
set_option maxRecDepth 100000
set_option maxHeartbeats 2000000
set_option autoImplicit false
namespace DL
open PySem L2

/-! ### comprehensions -/
def wipeE (ρ : Env) : List Nat → Env
  | [] => ρ
  | v :: vs => (wipeE ρ vs).set v .no
section
variable {K : PySem.W.Frag} {mg : Str → Option Value} {E : Entry} {σ : L2.St} {H H' H1 : Hp} {ρ : Env} {S S' : Sto} {I I' I1 : Hp} {A A' A1 : List Addr} {P : Addr} {xs ys : List V}
theorem Rel.setNo (r : Rel K mg E σ H ρ S I A) {i : Nat} : Rel K mg E (σ.set i none) H (ρ.set i .no) S I A := by
  have ne : ∀ (j : Nat) (sl : Sl), (ρ.set i .no)[j]? = some sl → sl ≠ .no → j ≠ i ∧ ρ[j]? = some sl := fun j sl e hn => by
    by_cases hj : i = j
    · subst hj
      by_cases hl : i < ρ.length
      · rw [List.getElem?_set_self hl] at e; cases e; exact absurd rfl hn
      · rw [List.getElem?_eq_none (by simpa using hl)] at e; cases e
    · rw [List.getElem?_set_ne hj] at e; exact ⟨fun z => hj z.symm, e⟩
  refine ⟨r.s, ⟨by simp [r.e.len], fun j d' e => ?_, fun j ds e => ?_, fun j k ds es a e1 e2 e3 e4 => ?_⟩, r.x, fun j ds a e e' => ?_⟩
  · obtain ⟨hj, e⟩ := ne j _ e (by simp)
    rw [List.getElem?_set_ne (fun z => hj z.symm)]
    exact r.e.val j d' e
  · obtain ⟨hj, e⟩ := ne j _ e (by simp)
    rw [List.getElem?_set_ne (fun z => hj z.symm)]
    exact r.e.own j ds e
  · obtain ⟨hj, e1⟩ := ne j _ e1 (by simp)
    obtain ⟨hk, e2⟩ := ne k _ e2 (by simp)
    rw [List.getElem?_set_ne (fun z => hj z.symm)] at e3
    rw [List.getElem?_set_ne (fun z => hk z.symm)] at e4
    exact r.e.dis j k ds es a e1 e2 e3 e4
  · obtain ⟨hj, e⟩ := ne j _ e (by simp)
    rw [List.getElem?_set_ne (fun z => hj z.symm)] at e'
    exact r.y j ds a e e'
theorem Rel.wipe (r : Rel K mg E σ H ρ S I A) : ∀ vs : List Nat, Rel K mg E (L2.wipe σ vs) H (wipeE ρ vs) S I A
  | [] => r
  | v :: vs => (Rel.wipe r vs).setNo
/-- what stands at P alone is changed: P is of nobody -/
theorem RelS.poke (s : RelS K mg H S I A) {o : HO} (hI : I P = none) (hA : P ∉ A) : RelS K mg (upd H P o) S I A where
  sub := fun b u e => by
    by_cases hb : b = P
    · subst hb; rw [hI] at e; cases e
    · rw [upd_ne hb]; exact s.sub b u e
  len := s.len
  nd := s.nd
  out := s.out
  st := fun n ob e => by
    obtain ⟨a, h1, h2⟩ := s.st n ob e
    have hne : a ≠ P := fun e => hA (e ▸ List.mem_of_getElem? h1)
    exact ⟨a, h1, h2.mono (Same.refl _) (fun _ _ z => z) (upd_ne hne)⟩
theorem Ext.poke (x : Ext H1 I1 A1 H I A) {o : HO} (hP : H1 P = none) : Ext H1 I1 A1 (upd H P o) I A :=
  ⟨fun a u h n => by
    have : a ≠ P := fun e => by rw [e, hP] at h; cases h
    rw [upd_ne this]; exact x.fr a u h n, fun a h => by
    by_cases hb : a = P
    · subst hb; rw [upd_same]; simp
    · rw [upd_ne hb]; exact x.dom a h, x.im, x.fi, x.ad⟩
theorem Ext.nonE (x : Ext H I A H' I' A') {a : Addr} (h : H' a = none) : H a = none := by
  cases q : H a with
  | none => rfl
  | some o => exact absurd h (x.dom a (by rw [q]; simp))
theorem Rel.poke (r : Rel K mg E σ H ρ S I A) {o : HO} (hI : I P = none) (hA : P ∉ A) (hE : E.H P = none) (ho : ∀ (i : Nat) (ds : List D) (a : Addr), ρ[i]? = some (Sl.own ds) → σ[i]? = some (some (V.ref a)) → a ≠ P) : Rel K mg E σ (upd H P o) ρ S I A :=
  ⟨r.s.poke hI hA, ⟨r.e.len, r.e.val, fun i ds h => by
    obtain ⟨a, xs, h1, h2, h3, h4, h5⟩ := r.e.own i ds h
    exact ⟨a, xs, h1, by rw [upd_ne (ho i ds a h h1)]; exact h2, h3, h4, h5⟩, r.e.dis⟩, r.x.poke hE, r.y⟩
/-- from now on P never changes -/
theorem same_frz {o : HO} (hI : I P = none) : Same I (upd I P o) := fun b u e => by
  by_cases hb : b = P
  · subst hb; rw [hI] at e; cases e
  · rw [upd_ne hb]; exact e
theorem RelS.frz (s : RelS K mg H S I A) {o : HO} (hP : H P = some o) (hI : I P = none) (hA : P ∉ A) : RelS K mg H S (upd I P o) A where
  sub := fun b u e => by
    by_cases hb : b = P
    · subst hb; rw [upd_same] at e; cases e; exact hP
    · rw [upd_ne hb] at e; exact s.sub b u e
  len := s.len
  nd := s.nd
  out := fun a ha => by
    rw [upd_ne (show a ≠ P from fun e => hA (e ▸ ha))]; exact s.out a ha
  st := fun n ob e => by
    obtain ⟨a, h1, h2⟩ := s.st n ob e
    exact ⟨a, h1, h2.mono (same_frz hI) (fun _ _ z => z) rfl⟩
theorem Ext.frz (x : Ext H1 I1 A1 H I A) {o : HO} (hP : H1 P = none) (hI : I P = none) : Ext H1 I1 A1 H (upd I P o) A :=
  ⟨x.fr, x.dom, x.im.trans (same_frz hI), fun a h hi => by
    have : a ≠ P := fun e => h (e ▸ hP)
    rw [upd_ne this]; exact x.fi a h hi, x.ad⟩
end

/-- in a block no exception may come -/
def Out.bindN {α β : Type} (o : Out α) (f : α → Sto → Out β) : Out β :=
  match o with
  | .ok a S => f a S
  | _ => .bad
@[simp] theorem Out.bindN_ok {α β : Type} (a : α) (S : Sto) (f : α → Sto → Out β) : (Out.ok a S).bindN f = f a S := rfl
theorem wipe_wipe {σ : L2.St} {vs : List Nat} : L2.wipe (L2.wipe σ vs) vs = L2.wipe σ vs := by
  have key : ∀ ws : List Nat, (∀ i ∈ ws, i ∈ vs) → L2.wipe (L2.wipe σ vs) ws = L2.wipe σ vs := by
    intro ws
    induction ws with
    | nil => intro _; rfl
    | cons w ws ih =>
      intro h
      show (L2.wipe (L2.wipe σ vs) ws).set w none = _
      rw [ih fun i hi => h i (List.mem_cons_of_mem _ hi)]
      apply List.ext_getElem?
      intro j
      by_cases hj : w = j
      · subst hj
        by_cases hl : w < (L2.wipe σ vs).length
        · rw [List.getElem?_set_self hl]
          cases q : (L2.wipe σ vs)[w]? with
          | none => have := List.getElem?_eq_none_iff.mp q; omega
          | some o =>
            cases o with
            | none => rfl
            | some x => exact absurd (h w List.mem_cons_self) (wipe_some q).2
        · rw [List.getElem?_eq_none (by simpa using hl), List.getElem?_eq_none (by omega)]
      · rw [List.getElem?_set_ne hj]
  exact key vs fun i h => h
def lcF (g : GM) (t : EM Bool) (e : EM D) (ρ : Env) : List D → List D → Sto → Out (List D)
  | [], acc, S => .ok acc S
  | d :: ds, acc, S => match g d ρ S with
    | none => .bad
    | some (ρ1, S1) => (t ρ1 S1).bindN fun b S2 => if b = true then (e ρ1 S2).bindN fun y S3 => if acc.length < sizeLine then lcF g t e ρ ds (acc ++ [y]) S3 else .bad else lcF g t e ρ ds acc S2
def eLc (vs : List Nat) (it : EM (List D)) (g : GM) (t : EM Bool) (e : EM D) : EM D := fun ρ S => (it ρ S).bind fun ds S1 => (lcF g t e (wipeE ρ vs) ds [] S1).bind fun l S2 => .ok (.lst l) S2
abbrev WN : WX := fun _ _ _ _ => False
abbrev DTs (X : Cx) (E : Entry) (W : WX) (es : List Expr) (m : EM Bool) : Prop := PTs X es (lft X.K X.mg E W rB m)
theorem PTs.imp {X : Cx} {e : List Expr} {t t' : TT} (h : PTs X e t) (hi : ∀ σ H Q, t' σ H Q → t σ H Q) : PTs X e t' := ⟨fun pins s σ H Q I q => h.run pins s σ H Q I (hi σ H Q q)⟩
def tYesE : EM Bool := fun _ S => .ok true S
theorem dts_nil {X : Cx} {E : Entry} {W : WX} : DTs X E W [] tYesE := PTs.imp pts_nil fun σ H Q ⟨ρ, S, I, A, r, p⟩ => p true H I A r (Ext.refl _ _ _) rfl
theorem dts_one {X : Cx} {E : Entry} {W : WX} {c : Expr} {t : EM Bool} (h : MT X E W c t) : DTs X E W [c] t := pts_one h
section
variable {X : Cx} {E : Entry} {W : WX} {elt tg iter : Expr} {ifs : List Expr} {scope : Scope} {own : List (Str × Nat)} {sl : List Nat} {pos : Pos} {it : EM (List D)} {g : GM} {t : EM Bool} {e : EM D}
theorem lc_go {K : PySem.W.Frag} {mg : Str → Option Value} {E : Entry} {W : WX} {σ : L2.St} {H : Hp} {Q : VK} {vs sl : List Nat} (hsl : ∀ i ∈ sl, i ∈ vs)
    (h : lft K mg E W (rD K) (eLc vs it g t e) σ H Q) : tLc (lftI K mg E W it) (lftG K mg E sl g) (lft K mg E WN rB t) (lft K mg E WN (rD K) e) vs σ H Q := by
  obtain ⟨ρ, S, I, A, r, p⟩ := h
  unfold tLc
  refine ⟨ρ, S, I, A, r, ?_⟩
  unfold eLc at p
  cases q : it ρ S with
  | bad => rw [q] at p; exact p
  | exc c fs S1 => rw [q] at p; exact p
  | ok ds S1 =>
    rw [q, Out.bind_ok] at p
    intro J H1 I1 A1 r1 x1 wk P hP
    have p1 : Po K mg E W σ H1 I1 A1 ((lcF g t e (wipeE ρ vs) ds [] S1).bind fun l S2 => .ok (.lst l) S2) fun a S' => okR K mg E σ H1 ρ I1 A1 S' (rD K a) Q := Po.from x1 p fun a S' ho => okR.from x1 ho
    have rw0 := r1.wipe vs
    have hEP : E.H P = none := r1.x.nonE hP
    have hown : ∀ (i : Nat) (l : List D) (a : Addr), (wipeE ρ vs)[i]? = some (Sl.own l) → (L2.wipe σ vs)[i]? = some (some (V.ref a)) → a ≠ P := fun i l a e1 e2 z => by
      obtain ⟨a', xs, h1, h2, _⟩ := rw0.e.own i l e1
      rw [e2] at h1; cases h1
      rw [z, hP] at h2; cases h2
    refine ⟨fun i m H2 => m = ds.length - i ∧ i ≤ ds.length ∧ ∃ S2 I2 A2 acc xs, Rel K mg E (L2.wipe σ vs) H2 (wipeE ρ vs) S2 I2 A2 ∧ Ext H1 I1 A1 H2 I2 A2 ∧ H2 P = some (.lst xs) ∧ Reps K I2 A2 xs acc ∧ I2 P = none ∧ P ∉ A2 ∧
      Po K mg E W σ H1 I1 A1 ((lcF g t e (wipeE ρ vs) (ds.drop i) acc S2).bind fun l S2 => .ok (.lst l) S2) fun a S' => okR K mg E σ H1 ρ I1 A1 S' (rD K a) Q, ?_, ?_⟩
    · refine ⟨ds.length, by simp, Nat.zero_le _, S1, I1, A1, [], [], ?_, (Ext.refl H1 I1 A1).poke hP, upd_same, .nil, r1.s.inone hP, r1.s.notin hP, ?_⟩
      · exact rw0.poke (r1.s.inone hP) (r1.s.notin hP) hEP hown
      · rw [List.drop_zero]; exact p1
    · rintro i m H2 ⟨rfl, hi, S2, I2, A2, acc, xs, r2, x2, hP2, ra, hI2, hA2, p2⟩
      by_cases hlt : i < ds.length
      · refine .inr ⟨wk.go H2 S2 I2 A2 i r2.s x2.grow hlt, fun H3 => i + 1 ≤ ds.length ∧ ∃ S2 I2 A2 acc xs, Rel K mg E (L2.wipe σ vs) H3 (wipeE ρ vs) S2 I2 A2 ∧ Ext H1 I1 A1 H3 I2 A2 ∧ H3 P = some (.lst xs) ∧ Reps K I2 A2 xs acc ∧ I2 P = none ∧ P ∉ A2 ∧
          Po K mg E W σ H1 I1 A1 ((lcF g t e (wipeE ρ vs) (ds.drop (i + 1)) acc S2).bind fun l S2 => .ok (.lst l) S2) fun a S' => okR K mg E σ H1 ρ I1 A1 S' (rD K a) Q, fun H' h => ⟨ds.length - (i + 1), by omega, rfl, h.1, h.2⟩, fun x H3 y => ?_⟩
        obtain ⟨d, I3, e1, s3, x3, rx⟩ := wk.yld H2 S2 I2 A2 i x H3 r2.s x2.grow y hlt
        have e2 : ds.drop i = d :: ds.drop (i + 1) := by
          rw [List.drop_eq_getElem_cons hlt]
          congr 1
          exact Option.some.inj ((List.getElem?_eq_getElem hlt).symm.trans e1)
        rw [e2] at p2
        unfold lcF at p2
        have r3 := r2.step s3 x3
        cases qg : g d (wipeE ρ vs) S2 with
        | none => rw [qg] at p2; exact p2.elim
        | some pr =>
          obtain ⟨ρ4, S4⟩ := pr
          rw [qg] at p2
          dsimp only at p2
          refine ⟨wipeE ρ vs, S2, I3, A2, d, r3, rx, ρ4, S4, qg, fun σ4 H4 I4 A4 r4 x4 w4 => ⟨(w4 vs hsl).trans wipe_wipe, ?_⟩⟩
          have x24 : Ext H2 I2 A2 H4 I4 A4 := x3.trans x4
          refine ⟨ρ4, S4, I4, A4, r4, ?_⟩
          cases qt : t ρ4 S4 with
          | bad => rw [qt] at p2; exact p2
          | exc c fs S5 => rw [qt] at p2; exact p2.elim
          | ok b S5 =>
            rw [qt, Out.bindN_ok] at p2
            intro b' H5 I5 A5 r5 x5 q5
            cases q5
            have x25 := x24.trans x5
            have fin : ∀ H6 S6 I6 A6, RelS K mg H6 S6 I6 A6 → Ext H2 I2 A2 H6 I6 A6 → Rel K mg E (L2.wipe σ vs) H6 (wipeE ρ vs) S6 I6 A6 ∧ Ext H1 I1 A1 H6 I6 A6 ∧ H6 P = some (.lst xs) ∧ Reps K I6 A6 xs acc ∧ I6 P = none ∧ P ∉ A6 := fun H6 S6 I6 A6 s6 x6 => by
              refine ⟨r2.step s6 x6, x2.trans x6, x6.fr P _ hP2 hA2, x6.reps ra, x6.fi P (by rw [hP2]; simp) hI2, fun hm => ?_⟩
              obtain ⟨B, rfl, hB⟩ := x6.ad
              rcases List.mem_append.mp hm with z | z
              · exact hA2 z
              · rw [hB P z] at hP2; cases hP2
            cases b with
            | false =>
              rw [if_neg Bool.false_ne_true] at p2 ⊢
              obtain ⟨f1, f2, f3, f4, f5, f6⟩ := fin H5 S5 I5 A5 r5.s x25
              exact ⟨hlt, S5, I5, A5, acc, xs, f1, f2, f3, f4, f5, f6, p2⟩
            | true =>
              rw [if_pos rfl] at p2 ⊢
              refine ⟨ρ4, S5, I5, A5, r5, ?_⟩
              cases qe : e ρ4 S5 with
              | bad => rw [qe] at p2; exact p2
              | exc c fs S6 => rw [qe] at p2; exact p2.elim
              | ok y S6 =>
                rw [qe, Out.bindN_ok] at p2
                intro v H6 I6 A6 r6 x6 q6
                obtain ⟨f1, f2, f3, f4, f5, f6⟩ := fin H6 S6 I6 A6 r6.s (x25.trans x6)
                by_cases hz : acc.length < sizeLine
                · rw [if_pos hz] at p2
                  refine ⟨xs, f3, by rw [f4.length]; exact hz, hlt, S6, I6, A6, acc ++ [y], xs ++ [v], f1.poke f5 f6 hEP hown, f2.poke hP, upd_same, f4.append (.cons q6 .nil), f5, f6, p2⟩
                · rw [if_neg hz] at p2; exact p2.elim
      · have e : i = ds.length := by omega
        subst e
        rw [List.drop_length] at p2
        refine .inl ⟨wk.stop H2 S2 I2 A2 _ r2.s x2.grow (Nat.le_refl _), ?_⟩
        have p3 : okR K mg E σ H1 ρ I1 A1 S2 (rD K (.lst acc)) Q := p2
        have s3 := r2.s.frz hP2 hI2 hA2
        have x3 : Ext H1 I1 A1 H2 (upd I2 P (.lst xs)) A2 := x2.frz hP hI2
        exact p3 (.ref P) H2 _ A2 (r1.step s3 x3) x3 (.lst upd_same (ra.mono (same_frz hI2) fun _ _ z => z))
theorem de_lc (hc : X.calm = true) (hN : X.N.Nodup) (hi : DI X E W tg iter it) (ok : BlkOk X.N X.env.scope scope own) (hsl : ∀ i ∈ sl, i ∈ own.map (·.2))
    (hg : ∀ (s : Shared) (H : Hp) (C : Addr) (cl : List (Str × Addr)) (fp : List Addr), DG (X.blk s H scope (compEnvC scope cl C X.env) fp) E sl tg g)
    (ht : ∀ (s : Shared) (H : Hp) (C : Addr) (cl : List (Str × Addr)) (fp : List Addr), DTs (X.blk s H scope (compEnvC scope cl C X.env) fp) E WN ifs t)
    (he : ∀ (s : Shared) (H : Hp) (C : Addr) (cl : List (Str × Addr)) (fp : List Addr), ME (X.blk s H scope (compEnvC scope cl C X.env) fp) E WN elt e) (hs : ∀ x, foldedSetIterable iter X.env x = pure x := by intro _; rfl) :
    ME X E W (.ListComp elt [⟨tg, iter, ifs, 0⟩] scope pos) (eLc (own.map (·.2)) it g t e) :=
  PE.imp (pe_lc hc hN hi ok hg ht he hs) fun σ H Q h => lc_go hsl h
/-- x = [.. for ..] on one line, x a local -/
theorem ds_setLc {i : Nat} {y : Str} {py spos : Pos} (hc : X.calm = true) (hN : X.N.Nodup) (hy : X.N[i]? = some y) (hyl : X.env.scope.names.lookup y = some .local)
    (hsw : swapsWith (.ListComp elt [⟨tg, iter, ifs, 0⟩] scope pos) (some (.Name y py)) spos.line X.env = pure true) (hi : DI X E W tg iter it) (ok : BlkOk X.N X.env.scope scope own) (hsl : ∀ i ∈ sl, i ∈ own.map (·.2))
    (hg : ∀ (s : Shared) (H : Hp) (C : Addr) (cl : List (Str × Addr)) (fp : List Addr), DG (X.blk s H scope (compEnvC scope cl C X.env) fp) E sl tg g)
    (ht : ∀ (s : Shared) (H : Hp) (C : Addr) (cl : List (Str × Addr)) (fp : List Addr), DTs (X.blk s H scope (compEnvC scope cl C X.env) fp) E WN ifs t)
    (he : ∀ (s : Shared) (H : Hp) (C : Addr) (cl : List (Str × Addr)) (fp : List Addr), ME (X.blk s H scope (compEnvC scope cl C X.env) fp) E WN elt e) (hs : ∀ x, foldedSetIterable iter X.env x = pure x := by intro _; rfl) :
    DS X E W (.Assign [.Name y py] (.ListComp elt [⟨tg, iter, ifs, 0⟩] scope pos) spos) (sSet i (eLc (own.map (·.2)) it g t e)) := by
  refine PS.imp (ps_setLc (g := lftG X.K X.mg E sl g) (tt := lft X.K X.mg E WN rB t) (te := lft X.K X.mg E WN (rD X.K) e) hc hN hy hyl hsw hi ok hg ht he hs) fun D σ H ⟨ρ, S, I, A, r, p⟩ => ?_
  show tLc _ _ _ _ _ σ H (fun x H1 => gName i x σ H1 D.nx)
  refine lc_go hsl ?_
  refine seqE r p fun d v H1 S1 I1 A1 r1 x1 q1 p1 => ?_
  exact p1 _ H1 I1 A1 (r1.setVal q1) (GrowA.refl _ _)
end
end DL
set_option Elab.async false
set_option linter.all false
set_option maxRecDepth 100000
set_option maxHeartbeats 2000000
set_option autoImplicit false
/-! ### an own exception class, called with keywords -/
namespace DLX
open PySem PySem.W PySem.Calls PySem.HandSPX
section
variable {prog : Program} {w : World} {A : Around} {E : Value → Shared → Prop} {R : Result → Shared → Prop} {hp : Heap} {gs : Array GenState} {dr : Drawn} {tk : Nat} {ost : OsState}
variable {nm q : Str} {C N : Addr} {bs bm mB : List Value} {hd : Bool} {sn : List Str} {sub : List Value} {ab : Bool} {col : Option Bool} {dd : Option Addr} {z0 z1 z2 z3 z5 : Option Value} {B newId initId : String}
theorem chkNew (F : ExcBaseFacts B newId initId mB) (hT : ∀ Y : String, bm.contains (.type Y) = mB.contains (.type Y)) {us : List Value} {y : Str} {u : Value} {Q : Unit → Shared → Prop}
    (oc : hp.get? C = some (excClassObj nm q C N bs bm hd sn sub ab col dd z0 z1 z2 z3 z5 newId)) (hq : Q () ⟨hp, gs, dr, tk, ost⟩) : wpAny (model prog w) A (checkBuiltinCall newId ⟨.ref C :: us, [(y, u)]⟩) Q E ⟨hp, gs, dr, tk, ost⟩ := by
  have ck : (Value.ref C :: bm).contains (.type B) = true := by
    rw [List.contains_cons, hT]
    rw [F.hasB, Bool.or_true]
  have nostar := F.noStar
  simp only [checkBuiltinCall]
  simp only [F.newKind, F.newSplit]
  simp only [F.newRow]
  repeat (first | refine wpAny_loadPart_at oc ?_ | (refine wpAny_isSubtype_exc oc ?_; rw [ck]) | refine wpAny_staticBase_exc oc ?_ | refine wpAny_madeBy_exc oc ?_ | simp only [bne_self_eq_false, if_false, Bool.false_eq_true] | wp_step)
  exact hq
theorem nwOwn (F : ExcBaseFacts B newId initId mB) (hT : ∀ Y : String, bm.contains (.type Y) = mB.contains (.type Y)) {us : List Value} {y : Str} {u : Value}
    (oc : hp.get? C = some (excClassObj nm q C N bs bm hd sn sub ab col dd z0 z1 z2 z3 z5 newId))
    (hq : R (.ok (.ret (.ref (hp.objs.size + 1)))) ⟨(hp.push (kdv_tup us)).push (excO C hp.objs.size), gs, dr, tk, ost⟩) (hz : us.length ≤ sizeLine) :
    codeAny (model prog w) A (.builtin newId ⟨.ref C :: us, [(y, u)]⟩) R ⟨hp, gs, dr, tk, ost⟩ := by
  have ends := F.ends
  have ck : ∀ T b, mB.contains (.type T) = b → (Value.ref C :: bm).contains (.type T) = b := fun T b e => by
    rw [List.contains_cons, hT, e]
    cases b <;> rfl
  have c1 := ck _ _ F.hasB
  have c2 := ck _ _ F.noAttr
  have c3 := ck _ _ F.noName
  refine codeAny_builtinAt F.entry ?_
  unfold Builtin.«BaseException.__new__»
  refine wpAt_bind ?_
  show wpAt _ _ _ (stack >>= _) _ _ _
  refine wpAt_bind (wpAt_stack fun _ _ => wpAt_of_wpAny ?_)
  wp_walk
  refine wpAt_of_wpAny ?_
  rw [F.owner]
  repeat (first | with_reducible refine wpAny_madeHere_exc F.canon oc ?_ | with_reducible refine wpAny_loadPart_at oc ?_ | (with_reducible refine wpAny_isSubtype_exc oc ?_; first | rw [c1] | rw [c2] | rw [c3]) | wp_step)
  show R _ _
  rw [Heap.size_push]
  exact hq
theorem tcOwn (F : ExcBaseFacts B newId initId mB) (hT : ∀ Y : String, bm.contains (.type Y) = mB.contains (.type Y)) {us : List Value} {y : Str} {u : Value} {fI : Addr} {Q : Fin → Shared → Prop}
    (oc : hp.get? C = some (excClassObj nm q C N bs bm hd sn sub ab col dd z0 z1 z2 z3 z5 newId))
    (li : Looks (model prog w) hp (typeLookup (.ref C) "__init__") (some (.ref fI))) (bi : ∀ self, Looks (model prog w) hp (bindSpecial (.ref fI) self) (.ref fI, [self])) (hz : us.length ≤ sizeLine)
    (hq : codeAny (model prog w) A (.call (.ref fI) ⟨.ref (hp.objs.size + 1) :: us, [(y, u)]⟩)
      (fun r s' => match r with | .ok (.ret v) => v = .none ∧ Q (.done (.ret (.ref (hp.objs.size + 1)))) s' | .ok _ => False | .error e => E e s')
      ⟨(hp.push (kdv_tup us)).push (excO C hp.objs.size), gs, dr, tk, ost⟩) :
    wpAny (model prog w) A (Builtin.«type.__call__» ⟨.ref C :: us, [(y, u)]⟩) Q E ⟨hp, gs, dr, tk, ost⟩ := by
  repeat (first | with_reducible refine wpAny_loadPart_at oc ?_ | with_reducible refine wpAny_madeBy_exc oc ?_ | wp_step)
  refine codeAny_call_builtin_code (Code.quiet_builtin _ F.quiet) (chkNew F hT oc ?_)
  refine nwOwn F hT oc ?_ hz
  show wpAny _ _ _ _ _ _
  have k : ∀ b o, hp.get? b = some o → ((hp.push (kdv_tup us)).push (excO C hp.objs.size)).get? b = some o := fun b o e => Heap.get?_push_of_some _ (Heap.get?_push_of_some _ e)
  have oc1 := k _ _ oc
  have oe : ((hp.push (kdv_tup us)).push (excO C hp.objs.size)).get? (hp.objs.size + 1) = some (excO C hp.objs.size) := by heap_get
  have cc : (Value.ref C :: bm).contains (.ref C) = true := by simp
  have l1 := li.keeps k
  have b1 := (bi (.ref (hp.objs.size + 1))).keeps k
  unfold isInstance
  repeat (first | with_reducible refine wpAny_loadPart_at oe ?_ | (with_reducible refine wpAny_isSubtype_exc oc1 ?_; rw [cc]) | wp_step)
  show wpAny _ _ (typeLookup (.ref C) _) _ _ _
  refine l1.at ?_
  refine wpAny_holding (wpAny_bind (b1.at ?_))
  refine wpAny_bind (wpAny_call (codeAny_mono hq fun r s' z => ?_))
  rcases r with e | (v | _ | _ | _) <;> first | exact z | exact z.elim | skip
  obtain ⟨rfl, z⟩ := z
  first
    | exact wpAny_pure (wpAny_pure z)
    | (wp_walk; exact z)
theorem chkTc {us : List Value} {y : Str} {u : Value} {Q : Unit → Shared → Prop} (oc : hp.get? C = some (excClassObj nm q C N bs bm hd sn sub ab col dd z0 z1 z2 z3 z5 newId))
    (hq : Q () ⟨hp, gs, dr, tk, ost⟩) : wpAny (model prog w) A (checkBuiltinCall "type.__call__" ⟨.ref C :: us, [(y, u)]⟩) Q E ⟨hp, gs, dr, tk, ost⟩ := by
  have f3 := tc_sub
  have ty : (⟨hp, gs, dr, tk, ost⟩ : Shared).TypeIs (.ref C) "type" := ⟨_, oc, rfl⟩
  simp only [checkBuiltinCall, tc_kind, tc_split]
  repeat (any_goals (first | assumption | with_reducible refine wpAny_loadPart_at oc ?_ | with_reducible refine wpAny_onRaise ?_ | with_reducible refine wpAny_map ?_ | wp_step))
theorem cOwn (F : ExcBaseFacts B newId initId mB) (hT : ∀ Y : String, bm.contains (.type Y) = mB.contains (.type Y)) {us : List Value} {y : Str} {u : Value} {fI : Addr}
    (oc : hp.get? C = some (excClassObj nm q C N bs bm hd sn sub ab col dd z0 z1 z2 z3 z5 newId))
    (li : Looks (model prog w) hp (typeLookup (.ref C) "__init__") (some (.ref fI))) (bi : ∀ self, Looks (model prog w) hp (bindSpecial (.ref fI) self) (.ref fI, [self])) (hz : us.length ≤ sizeLine)
    (hq : codeAny (model prog w) (A.under (.builtin "type.__call__" ⟨.ref C :: us, [(y, u)]⟩)) (.call (.ref fI) ⟨.ref (hp.objs.size + 1) :: us, [(y, u)]⟩) (InitBack (hp.objs.size + 1) R)
      ⟨(hp.push (kdv_tup us)).push (excO C hp.objs.size), gs, dr, tk, ost⟩) :
    codeAny (model prog w) A (.call (.ref C) ⟨us, [(y, u)]⟩) R ⟨hp, gs, dr, tk, ost⟩ := by
  have f1 := tc_lookup
  have f2 := tc_bind (.ref C)
  have ty : (⟨hp, gs, dr, tk, ost⟩ : Shared).TypeIs (.ref C) "type" := ⟨_, oc, rfl⟩
  refine codeAny_of_tree ?_
  show wpAny _ _ (callAny (.ref C) _) _ _ _
  repeat (any_goals (first | assumption | with_reducible refine wpAny_loadPart_at oc ?_ | wp_step))
  refine ⟨rfl, ?_⟩
  refine codeAny_call_builtin_at (Code.quiet_builtin _ (by decide +kernel)) entry_typeCall (chkTc oc (tcOwn F hT oc li bi hz ?_))
  refine codeAny_mono hq fun r s' z => ?_
  rcases r with e | (v | _ | _ | _) <;> exact z
end
end DLX

namespace DL
open PySem L2
/-! ### defs that are run with no repr under way -/
structure FnG (P : Program) (w : World) (K : PySem.W.Frag) (mg : Str → Option Value) (base : Heap) (T : CXT) (k : Nat) (f : Addr) (fd : FuncData) (ps : List Str) (sp : Sp) : Prop where
  len : ∀ vs H Q E, sp vs H Q E → vs.length = ps.length
  run : ∀ (A : Around) (outer : List PySem.Env) (s : Shared) (H : Hp) (args : Args) (us : List Value) (vs : List V) (Q : VK) (E : XK), Room k A → A.guards = some [] → Env0 P w K mg base A outer s H → BindsTo s fd args (ps.zip us) →
    Vals vs us → sp vs H Q E → codeAny (model P w) A (.call (.ref f) args) (CR T outer P w H s Q E) s
section
variable {P : Program} {w : World} {K : PySem.W.Frag} {mg : Str → Option Value} {base : Heap}
theorem fn_ofG {T : CXT} {k : Nat} {f : Addr} {nm ql : Str} {par : Arguments} {bod : List Stmt} {sc : Scope} {dV kV dc pm cd ct oc : Value} {an od : Option Addr} {sl : Array (Option Value)} {N ps : List Str} {sp : Sp}
    (lk : K.lookup f = some ⟨oc, od, .func (PySem.W.fnOf nm ql par bod sc dV kV dc pm an cd ct), sl⟩) (hcd : PySem.W.codeIn K cd ql = true) (S : FnScope N ps sc) (hlen : ∀ vs H Q E, sp vs H Q E → vs.length = ps.length)
    (hb : ∀ (A : Around) (outer : List PySem.Env) (s : Shared) (H : Hp) (vs : List V) (Q : VK) (E : XK), Room k (A.deeper (PyProof.Rows.envOfC ql sc s.heap.objs.size f cd)) → A.guards = some [] → sp vs H Q E →
      ∃ t, PSs (cxOf T P w K mg base N ql sc f cd A outer s H E) bod t ∧ t { nx := fun _ H' => Q .non H', rt := Q } (start N vs) H) :
    FnG P w K mg base T (k + 1) f (PySem.W.fnOf nm ql par bod sc dV kV dc pm an cd ct) ps sp := by
  constructor
  · exact hlen
  intro A outer s H args us vs Q E hr hg e0 bn r hsp
  have el := hlen _ _ _ _ hsp
  have inH : K.In s.heap := e0.mod.kin.keeps fun b o z => (e0.bs b o z).1
  have nolim : s.heap.NoLimit := e0.mod.nolimit.keeps fun b o z => (e0.bs b o z).1
  have pk : ∀ y ∈ ps.zip us, sc.names.lookup y.1 = some .local ∨ (sc.names.lookup y.1 = some .cell ∧ ((cellsFrom (s.heap.objs.size + 1) sc.names []).lookup y.1).isSome = true) := by
    rintro ⟨n, v⟩ hy
    rcases S.par n (List.of_mem_zip hy).1 with z | z
    · exact Or.inl z
    · exact Or.inr ⟨z, PySem.W.cellsFrom_some _ _ _ (Or.inl z)⟩
  apply codeAny_call_function hr.depth (inH _ _ lk) rfl S.co S.gen rfl (PySem.W.codeRec_of inH hcd) (bn _ _ _ _ ?_)
  apply wpAny_newFunctionEnv_cells S.kind pk fun env he s1 x => ?_
  cases he
  refine ⟨nolim.keeps x.toInCall.keep, codeAny_func ?_⟩
  obtain ⟨t, ht, hq⟩ := hb A outer s H vs Q E (hr.deeper _) hg hsp
  have J0 : Inv (cxOf T P w K mg base N ql sc f cd A outer s H E) [] (start N vs) H s1 := inv_start S hr.hd e0 el r x
  apply wpAny_mono (ht.run [] s1 (start N vs) H _ J0 hq) (fun fl s' hs => ?_) fun _ _ hs => hs
  cases fl with
  | brk => exact (show False from hs.choose_spec.choose_spec.2).elim
  | cont => exact (show False from hs.choose_spec.choose_spec.2).elim
  | ret u =>
    obtain ⟨v, σ', H', J, rv, q⟩ := hs
    exact ⟨v, H', J.os, J.bare, J.base, J.hok, rv, q⟩
  | next =>
    obtain ⟨σ', H', J, q⟩ := hs
    exact ⟨V.non, H', J.os, J.bare, J.base, J.hok, rfl, q⟩
theorem def_okG {x qual : Str} {st : Stmt} {f : Addr} {fd : FuncData} {N ps : List Str} {k : Nat} {m : SM} {F : List D → Sto → Out D} (Fu : Fun K x qual st f fd) (S : FnScope N ps (defScope st))
    (hF : ∀ ds S, F ds S = runB m N.length ds S)
    (hbody : ∀ (cdv : Value) (A : Around) (outer : List PySem.Env) (s : Shared) (H : Hp) (E : XK) (En : Entry), Room k (A.deeper (PyProof.Rows.envOfC qual (defScope st) s.heap.objs.size f cdv)) → A.guards = some [] →
      (Takes (cxOf (L2.CX P w) P w K mg base N qual (defScope st) f cdv A outer s H E) (fun cls d _ H => E cls d H)) →
      PassesOwn (model P w) (cxOf (L2.CX P w) P w K mg base N qual (defScope st) f cdv A outer s H E).A (cxOf (L2.CX P w) P w K mg base N qual (defScope st) f cdv A outer s H E).env (cxOf (L2.CX P w) P w K mg base N qual (defScope st) f cdv A outer s H E).xe →
      DSs (cxOf (L2.CX P w) P w K mg base N qual (defScope st) f cdv A outer s H E) En (fun cls d _ H => E cls d H) (defBody st) m) :
    FnG P w K mg base (L2.CX P w) (k + 1) f fd ps (spD K mg ps.length F) := by
  obtain ⟨oc, od, kV, doc, pm, an, cdv, ct, osl, rfl, lk, hcd⟩ := Fu.ex
  refine fn_ofG lk hcd S (fun vs H Q E h => h.1) fun A outer s H vs Q E hr hgd h => ?_
  obtain ⟨hl, ds, St, I, A', rs, rv, hq⟩ := h
  refine ⟨_, hbody cdv A outer s H E ⟨H, I, A'⟩ hr hgd (takes_of rfl rfl rfl rfl) (passes_of rfl), envStart N.length ds, St, I, A', rel_start rs rv, ?_⟩
  rw [hF] at hq
  unfold runB at hq
  cases e : m (envStart N.length ds) St with
  | nx ρ' S' =>
    rw [e] at hq
    exact fun σ' H' I' A'' r _ => hq .non H' I' A'' r.s r.x .non
  | rt d S' =>
    rw [e] at hq
    exact fun v H' I' A'' s' x' _ rv' => hq v H' I' A'' s' x' rv'
  | exc c fs ρ' S' =>
    rw [e] at hq
    exact fun C dd vs' σ' H' I' A'' h1 r _ h5 h6 h7 => hq C dd vs' H' I' A'' h1 r.s r.x r.x h5 h6 h7
  | bk _ _ => rw [e] at hq; exact hq.elim
  | ct _ _ => rw [e] at hq; exact hq.elim
  | bad => rw [e] at hq; exact hq.elim
end
section
variable {X : Cx} {E : Entry} {W : WX} {f : Addr} {fd : FuncData} {ps : List Str} {k nn : Nat} {F : List D → Sto → Out D} {x : Str} {e : Expr} {es : List Expr} {ms : EM (List D)} {pos p : Pos}
theorem de_callG (G : FnG X.prog X.w X.K X.mg X.base (L2.CX X.prog X.w) k f fd ps (spD X.K X.mg nn F)) (hr : Room k X.A) (hgd : X.A.guards = some []) (hg : Gl X x) (hm : X.mg x = some (.ref f)) (hk : PySem.W.keepIn X.K (.ref f) = true) (hb : Binds X.K fd ps []) (tk : Takes X W)
    (ha : MA X E W (e :: es) ms) (hn : ∀ ρ S ds S1, ms ρ S = .ok ds S1 → ds.length = nn) (hdb : (x == ("__debug__" : Str)) = false := by decide) (he : starEach (e :: es) X.env = (false, eval e X.env) :: starEach es X.env := by rfl) (hpl : (backTo pos (starEach es X.env)).any (·.1) = false := by rfl) :
    ME X E W (.Call (.Name x p) (e :: es) [] pos) (eCall F ms) := by
  refine PE.imp (t := tCallS (spD X.K X.mg nn F) (WE W) (lft X.K X.mg E W (rDs X.K) ms)) ⟨fun pins s σ H Q I h => ?_⟩ fun σ H Q h => own_go hn h
  apply wpAny_Call_Name_kw (ld_glob I hg hm ?_ hdb)
  apply PySem.W.callWith_K (h₀ := X.base) I.ok.mod.kin hk (thn (ha.run pos pins s σ H _ I h) fun us s1 hh => ?_) he hpl
  obtain ⟨vs, H1, I1, r, q⟩ := hh
  refine ⟨I1.kIn, ?_⟩
  have hl : us.length = ps.length := by rw [← r.length]; exact G.len _ _ _ _ q
  have b := hb s1 us I1.kIn (by rw [List.append_nil]; exact hl)
  rw [List.append_nil] at b
  refine wpAny_call (codeAny_mono (G.run X.A X.stack s1 H1 ⟨us, []⟩ us vs Q (WE W σ) hr hgd I1.env0 b r q) fun res s' hq => ?_)
  cases res with
  | error er => exact passAt tk σ pins H1 s1 er s' I1 hq
  | ok fl =>
    cases fl with
    | ret u => exact I1.after hq
    | next => exact hq.elim
    | brk => exact hq.elim
    | cont => exact hq.elim
end
end DL
set_option Elab.async false
set_option linter.all false
set_option maxRecDepth 100000
set_option maxHeartbeats 2000000
set_option autoImplicit false
/-! The head of a law whose promise asks that no repr is under way. -/
namespace DL
open PySem L2 PySem.Spec PyProof.Rows
section
variable {P : Program} {w : World} {K : PySem.W.Frag} {mg mb : Str → Option Value} {T : CXT} {k : Nat} {fa a : Addr} {fd : FuncData} {x : Str} {sp : Sp} {s₁ : Shared} {vs : List Value} {ns : List Int}
theorem law_at (H : Hp) (inK : K.In s₁.heap) (hns : s₁.heap.Ns mainGlobals mg) (hb : s₁.heap.Ns builtinsNs mb) (hbb : ∀ x : Str, x ≠ "__name__" → mb x = bootBuiltins x) (hlim : s₁.heap.NoLimit) (hgn : s₁.gens = #[])
    (ha : s₁.heap.get? a = some { cls := .type "list", data := .seq vs.toArray }) (hr : Room k callerA)
    (F : ∀ base : Heap, K.In base → base.Ns mainGlobals mg → FnG P w K mg base T k fa fd [x] sp) (hbd : ∀ (s : Shared) (u : Value), BindsTo s fd ⟨[u], []⟩ [(x, u)])
    (hO : Only H) (hsp : sp [.ref a] H (fun v _ => v = .bl true) fun _ _ _ => False) (hCX : ∀ e s', T [] H s₁ (fun _ _ _ => False) e s' → False)
    (hok : HOk P w H s₁.heap) (hA : ∀ b, H b ≠ none → b = a) (hK : H a ≠ none → K.lookup a = none) :
    codeAny (model P w) callerA (.call (.ref fa) ⟨[.ref a], []⟩) (fun r s' => r = .ok (.ret (.bool true)) ∧ OldK s₁.heap s'.heap ∧ s'.os = s₁.os ∧ AllBare s'.gens) s₁ := by
  have only_a : ∀ {b : Addr}, b ≠ a → H b = none := fun {b} n => by
    cases z : H b with
    | none => rfl
    | some u => exact absurd (hA b (by simp [z])) n
  have dict_free : ∀ {b : Addr} {o : Obj} {es : Array DictEntry} {n : Nat}, s₁.heap.get? b = some o → o.data = .dict es n → H b = none := fun {b o es n} z d => by
    apply only_a
    rintro rfl
    rw [ha] at z
    cases z
    cases d
  have ns_at : ∀ {b : Addr} {m : Str → Option Value}, s₁.heap.Ns b m → (hidT s₁.heap H).Ns b m := by
    rintro b m ⟨o, es, n, z, d, rest⟩
    exact ⟨o, es, n, hidT_get z (dict_free z d), d, rest⟩
  have inB : K.In (hidT s₁.heap H) := fun b o z => by
    refine hidT_get (inK b o z) ?_
    by_cases n : b = a
    · subst n
      cases q : H b with
      | none => rfl
      | some u =>
        rw [hK (by simp [q])] at z
        cases z
    · exact only_a n
  obtain ⟨mc, l1, l2⟩ := hlim
  have md : Mod K mg (hidT s₁.heap H) := ⟨inB, ns_at hns, ⟨mb, ns_at hb, hbb⟩, mc, ns_at l1, l2⟩
  have en : Env0 P w K mg (hidT s₁.heap H) callerA [] s₁ H :=
    { frames := rfl, mod := md, bs := fun b o z => of_hidT z, bsz := Nat.le_of_eq (hidT_size _ _), funs := trivial, frf := (fun b z => nomatch z), hok := hok, bare := .of_eq hgn }
  have run := (F _ inB (ns_at hns)).run callerA [] s₁ H ⟨[.ref a], []⟩ [.ref a] [.ref a] _ _ hr rfl en (hbd s₁ (.ref a)) (.cons rfl .nil) hsp
  refine codeAny_mono run fun r s' h => ?_
  match r, h with
  | .error e, h => exact (hCX e s' h).elim
  | .ok .next, h => exact (show False from h).elim
  | .ok .brk, h => exact (show False from h).elim
  | .ok .cont, h => exact (show False from h).elim
  | .ok (.ret u), h =>
    obtain ⟨v, H', os, bare, un, hok', rv, q⟩ := h
    cases (show v = V.bl true from q)
    cases (show u = Value.bool true from rv)
    refine ⟨rfl, OldK.of_keep fun b o z => ?_, os, bare⟩
    rcases hO b with n | ⟨ob, xs, f⟩
    · exact un.keep b o z n (fun y => nomatch y) (by simp)
    · obtain ⟨e1, _⟩ := hok b _ f
      obtain ⟨e2, _⟩ := hok' b _ (un.frzs b ob _ f)
      cases z.symm.trans e1
      exact e2
theorem law_callG (inK : K.In s₁.heap) (hns : s₁.heap.Ns mainGlobals mg) (hb : s₁.heap.Ns builtinsNs mb) (hbb : ∀ x : Str, x ≠ "__name__" → mb x = bootBuiltins x) (hlim : s₁.heap.NoLimit) (hgn : s₁.gens = #[])
    (ha : s₁.heap.get? a = some { cls := .type "list", data := .seq vs.toArray }) (hi : IntsAre vs ns) (hl : ns.length ≤ sizeLine) (hr : Room k callerA)
    (F : ∀ base : Heap, K.In base → base.Ns mainGlobals mg → FnG P w K mg base T k fa fd [x] sp) (hbd : ∀ (s : Shared) (u : Value), BindsTo s fd ⟨[u], []⟩ [(x, u)])
    (hsp : ∀ H : Hp, Only H → SqL K H a (ns.map V.int) → sp [.ref a] H (fun v _ => v = .bl true) fun _ _ _ => False)
    (hCX : ∀ H e s', T [] H s₁ (fun _ _ _ => False) e s' → False) :
    codeAny (model P w) callerA (.call (.ref fa) ⟨[.ref a], []⟩) (fun r s' => r = .ok (.ret (.bool true)) ∧ OldK s₁.heap s'.heap ∧ s'.os = s₁.os ∧ AllBare s'.gens) s₁ := by
  have rv := vals_ints hi
  cases hk : K.lookup a with
  | some o =>
    cases (inK a o hk).symm.trans ha
    have o0 : Only (fun _ : Addr => none) := fun b => Or.inl rfl
    have sq : SqL K (fun _ => none) a (ns.map V.int) := Or.inr ⟨_, vs.toArray, _, hk, rfl, rfl, rfl, by rw [List.size_toArray, hi.length]; exact hl, by simpa using rv⟩
    exact law_at (fun _ => none) inK hns hb hbb hlim hgn ha hr F hbd o0 (hsp _ o0 sq) (hCX _) (fun b u z => nomatch z) (fun b z => absurd rfl z) fun z => absurd rfl z
  | none =>
    have hat : ∀ b u, (if b = a then some (HO.frz { cls := .type "list", data := .seq vs.toArray } (.lst (ns.map V.int))) else none) = some u → b = a ∧ u = HO.frz { cls := .type "list", data := .seq vs.toArray } (.lst (ns.map V.int)) := fun b u z => by
      by_cases n : b = a
      · rw [if_pos n] at z; exact ⟨n, (Option.some.inj z).symm⟩
      · rw [if_neg n] at z; cases z
    have o1 : Only (fun b => if b = a then some (HO.frz { cls := .type "list", data := .seq vs.toArray } (.lst (ns.map V.int))) else none) := fun b => by
      by_cases n : b = a
      · exact Or.inr ⟨_, _, if_pos n⟩
      · exact Or.inl (if_neg n)
    refine law_at _ inK hns hb hbb hlim hgn ha hr F hbd o1 (hsp _ o1 (Or.inl (Or.inr ⟨_, if_pos rfl⟩))) (hCX _) (fun b u z => ?_) (fun b z => ?_) fun _ => hk
    · obtain ⟨rfl, rfl⟩ := hat b u z
      refine ⟨ha, ?_, vs, _, rv, ha⟩
      rw [List.length_map]
      exact hl
    · by_cases n : b = a
      · exact n
      · exact absurd (if_neg n) z
end
theorem walk_ofG {l : PySem.W.OpenLaw} {n k : Nat} {q : Program} {loose : List Str} {XP : (Str → Option Value) → Heap → Prop} {YP : World → Heap → Prop} {d : DefRec} {K : Params → PySem.W.Frag} {x : Str}
    (hn : l.most = some n) (hn2 : n ≤ sizeLine) (hdf : d.params.defaults = []) (hr : Room k callerA)
    (hY : ∀ (w : World) (h : Heap), YP w h → (K w.params).In h)
    (hF : ∀ (w : World) (mg : Str → Option Value) (fa : Addr) (h : Heap), (K w.params).In h → h.Ns mainGlobals mg → mg d.name = some (.ref fa) →
      ∃ (fd : FuncData) (F : List D → Sto → Out D), (∀ (s : Shared) (u : Value), BindsTo s fd ⟨[u], []⟩ [(x, u)]) ∧ (∀ ns : List Int, ns.length ≤ n → ∃ S, F [.scr ns] [] = .ok (.bl true) S) ∧
        ∀ base : Heap, (K w.params).In base → base.Ns mainGlobals mg → FnG l.prog w (K w.params) mg base (L2.CX l.prog w) k fa fd [x] (spD (K w.params) mg 1 F)) :
    PySem.W.WalkO q loose XP YP l.row.toRowW d [] (fun f vs => PySem.call f vs) := by
  refine Att.attach_call hn hdf fun w s₀ s₁ mg mb fa o pm cd doc a vs ns G Y ho hd hcd hmg hobj hints hlen hg => ?_
  have inK := hY w _ Y
  obtain ⟨fd, F, hb, hv, hG⟩ := hF w mg fa _ inK G.T.g hmg
  refine law_callG inK G.T.g G.T.b G.T.builtins G.T.nolimit hg hobj hints (Nat.le_trans hlen hn2) hr hG hb (fun H hO hS => ?_) fun H e s' c => ?_
  · refine ⟨rfl, [.scr ns], [], H, [], ⟨Same.refl _, rfl, List.nodup_nil, fun b z => (nomatch z), fun j ob z => by simp at z⟩, .cons (.scr hS) .nil, ?_⟩
    obtain ⟨S, e⟩ := hv ns hlen
    rw [e]
    intro v H' I' A' _ _ r
    cases r
    rfl
  · obtain ⟨_, _, _, _, _, _, _, _, _, _, _, _, z⟩ := c
    exact z
end DL
set_option Elab.async false
set_option linter.all false
set_option maxRecDepth 100000
set_option maxHeartbeats 2000000
set_option autoImplicit false
namespace DL
open PySem L2

/-! ### exceptions as values -/
/-- self.f = f in __init__ -/
def spI (C : Addr) (f : Str) : Sp := fun vs H Q _ => ∃ (a : Addr) (v : V), vs = [.ref a, v] ∧ H a = some (exo a C none) ∧ ∀ dx, H dx = none → dx ≠ a → Q .non (upd (upd H dx (exd dx [(f, v)])) a (exo a C (some dx)))
/-- the def st is: self.f = f -/
def IsInit (st : Stmt) (f : Str) : Prop := ∃ p1 p2 p3 p4 : Pos, defBody st = [.Assign [.Attribute (.Name "self" p1) f p2] (.Name f p3) p4]
structure XCls (K : PySem.W.Frag) (mg : Str → Option Value) (x : Str) (C : Addr) (f : Str) (fI : Addr) (fd : FuncData) (qual : Str) (st : Stmt) : Prop where
  T : OexC K C
  iC : PySem.W.findIn K (.ref C) "__init__" = some (some (.ref fI))
  tI : PySem.W.typeIn K (.ref fI) = some (.type "function")
  mC : mg x = some (.ref C)
  nf : PySem.W.findIn K (.ref C) f = some none
  F : Fun K "__init__" qual st fI fd
  b1 : Binds K fd ["self", f] []
  b2 : ∀ (s : Shared) (a u : Value), BindsTo s fd ⟨[a], [(f, u)]⟩ [("self", a), (f, u)]
  sc : FnScope ["self", f] ["self", f] (defScope st)
  v0 : Vis (defScope st) "self"
  v1 : Vis (defScope st) f
  h1 : (f == ("__debug__" : Str)) = false
  h2 : (f == ("__classdict__" : Str)) = false
  bd : IsInit st f
section
variable {P : Program} {w : World} {K : PySem.W.Frag} {mg : Str → Option Value} {base : Heap} {x f qual : Str} {C fI : Addr} {fd : FuncData} {st : Stmt}
theorem ok_xinit (c : XCls K mg x C f fI fd qual st) : FnOk P w K mg base (L2.CX P w) 1 fI fd ["self", f] (spI C f) := by
  refine Fun.okX (k := 0) c.F c.sc (fun vs H Q E h => ?_) (fun cdv A outer s H vs Q E hr h => ?_)
  · obtain ⟨a, v, rfl, _⟩ := h
    rfl
  · obtain ⟨a, v, rfl, ha, k⟩ := h
    obtain ⟨p1, p2, p3, p4, e⟩ := c.bd
    rw [e]
    refine ⟨_, pss_one (ps_ost (pv 0 rfl c.v0) (pv 1 rfl c.v1 c.h1 c.h2)), ?_⟩
    exact ⟨_, rfl, _, rfl, a, C, rfl, c.T, c.nf, .inl ⟨ha, fun dx n ne => k dx n ne⟩⟩
end
section
variable {X : Cx} {E : Entry} {W : WX} {x f qual : Str} {C fI : Addr} {fd : FuncData} {st : Stmt} {e : Expr} {te : TE} {m : EM D} {p p2 pos : Pos}
/-- the object, its dict -/
def tExV (C : Addr) (f : Str) (te : TE) : TE := fun σ H Q => te σ H fun v H1 => ∀ a dx, H1 a = none → H1 dx = none → dx ≠ a → Q (.ref a) (upd (upd H1 dx (exd dx [(f, v)])) a (exo a C (some dx)))
theorem upd_over {H : Hp} {a d : Addr} {o u v : HO} (h : d ≠ a) : upd (upd (upd H a o) d u) a v = upd (upd H d u) a v := by
  funext b
  by_cases h1 : b = a
  · rw [h1, upd_same, upd_same]
  · rw [upd_ne h1, upd_ne h1]
    by_cases h2 : b = d
    · rw [h2, upd_same, upd_same]
    · rw [upd_ne h2, upd_ne h2, upd_ne h1]
theorem run_exV (c : XCls X.K X.mg x C f fI fd qual st) (hr : Room 2 X.A) (tk : Takes X W) {pins : List (Addr × Obj)} {s : Shared} {σ : L2.St} {H : Hp} {Q : VK} {us : List Value} {kw : List (Str × Value)} {v : V} {u : Value}
    (I : Inv X pins σ H s) (ru : RelV v u) (hb : ∀ (s : Shared) (a : Value), X.K.In s.heap → BindsTo s fd ⟨a :: us, kw⟩ [("self", a), (f, u)])
    (hcall : ∀ (R : Result → Shared → Prop) (hp : Heap) (g : Array GenState) (d : Drawn) (t : Nat) (os : OsState), X.K.In hp →
      codeAny (model X.prog X.w) (X.A.under (.builtin "type.__call__" ⟨.ref C :: us, kw⟩)) (.call (.ref fI) ⟨.ref (hp.objs.size + 1) :: us, kw⟩) (PySem.W.InitBack (hp.objs.size + 1) R) ⟨(hp.push (PySem.W.kdv_tup us)).push (PySem.HandSPX.excO C hp.objs.size), g, d, t, os⟩ →
      codeAny (model X.prog X.w) X.A (.call (.ref C) ⟨us, kw⟩) R ⟨hp, g, d, t, os⟩)
    (q : ∀ a dx, H a = none → H dx = none → dx ≠ a → Q (.ref a) (upd (upd H dx (exd dx [(f, v)])) a (exo a C (some dx)))) :
    wpAny (model X.prog X.w) X.A (call (.ref C) us kw) (EP X pins σ Q) X.xe s := by
  have F1 := ok_xinit (P := X.prog) (w := X.w) (base := X.base) c
  obtain ⟨hp, g, dr, t, os⟩ := s
  have le : hp.objs.size ≤ hp.objs.size + 1 := Nat.le_succ _
  have hn : H (hp.objs.size + 1) = none := I.hok.fresh le
  have keep : ∀ b o, hp.get? b = some o → ((hp.push (PySem.W.kdv_tup us)).push (PySem.HandSPX.excO C hp.objs.size)).get? b = some o := fun b o z => Heap.get?_push_of_some _ (Heap.get?_push_of_some _ z)
  have at1 : ((hp.push (PySem.W.kdv_tup us)).push (PySem.HandSPX.excO C hp.objs.size)).get? (hp.objs.size + 1) = some (PySem.HandSPX.excO C hp.objs.size) := by heap_get
  have I2 : Inv X pins σ (upd H (hp.objs.size + 1) (exo (hp.objs.size + 1) C none)) ⟨(hp.push (PySem.W.kdv_tup us)).push (PySem.HandSPX.excO C hp.objs.size), g, dr, t, os⟩ :=
    I.laid (t' := t) (a := hp.objs.size + 1) keep le (exo_ok at1)
  have rr : Vals [V.ref (hp.objs.size + 1), v] [Value.ref (hp.objs.size + 1), u] := .cons rfl (.cons ru .nil)
  have hsp : spI C f [V.ref (hp.objs.size + 1), v] (upd H (hp.objs.size + 1) (exo (hp.objs.size + 1) C none)) (fun z H2 => z = .non ∧ Q (.ref (hp.objs.size + 1)) H2) (fun _ _ _ => False) := by
    refine ⟨_, _, rfl, upd_same, fun dx nx ne => ⟨rfl, ?_⟩⟩
    rw [upd_over ne]
    rw [upd_ne ne] at nx
    exact q _ dx hn nx ne
  refine wpAny_call (hcall _ hp g dr t os I.kIn ?_)
  refine codeAny_mono (F1.run _ X.stack _ _ ⟨Value.ref (hp.objs.size + 1) :: us, kw⟩ [Value.ref (hp.objs.size + 1), u] _ _ _ (hr.make C us kw) (I2.env0.make C us kw) (hb _ _ I2.kIn) rr hsp) fun r s' hq => ?_
  match r, hq with
  | .error er, hq => exact passes_call tk (E := fun _ _ _ => False) (fun _ _ _ _ z => z.elim) pins σ _ _ er s' I2 hq
  | .ok .next, hq => exact (show False from hq).elim
  | .ok .brk, hq => exact (show False from hq).elim
  | .ok .cont, hq => exact (show False from hq).elim
  | .ok (.ret z), hq =>
    obtain ⟨y, H', I3, rv, ey, q3⟩ := I2.after hq
    subst ey
    exact ⟨rv, V.ref (hp.objs.size + 1), H', I3, rfl, q3⟩
/-- C(e) -/
theorem pe_exV (c : XCls X.K X.mg x C f fI fd qual st) (hr : Room 2 X.A) (tk : Takes X W) (hg : Gl X x) (he : PE X e te) (hdb : (x == ("__debug__" : Str)) = false := by decide)
    (h1 : starEach [e] X.env = (false, eval e X.env) :: starEach [] X.env := by rfl) : PE X (.Call (.Name x p) [e] [] pos) (tExV C f te) := by
  refine ⟨fun pins s σ H Q I h => ?_⟩
  obtain ⟨nm, q, N, bs, bm, sn, sub, ab, col, dd, k0, k1, k2, k3, k5, oC, hbm⟩ := c.T.cls
  apply wpAny_Call_Name_kw (ld_glob I hg c.mC ?_ hdb)
  refine PySem.W.callWith_K (h₀ := X.base) I.ok.mod.kin c.T.kC ?_ h1 (by rfl)
  rw [h1]
  show wpAny _ _ (spliced ((false, eval e X.env) :: backTo pos (starEach [] X.env))) _ _ s
  refine Calls.spliced_cons (thn (he.run pins s σ H _ I h) fun u s1 hh => ?_)
  obtain ⟨v, H1, I1, ru, q1⟩ := hh
  refine Calls.spliced_nil ⟨I1.kIn, ?_⟩
  show wpAny _ _ (call (.ref C) [u]) _ _ _
  refine run_exV c hr tk I1 ru (fun s a inK => ?_) (fun R hp g d t os inK hq => ?_) q1
  · have b := c.b1 s [a, u] inK rfl
    rw [List.append_nil] at b
    exact b
  · exact PySem.HandSPX.call_own F.excBase_ValueError (fun Y => PySem.HandSPX.refsVE_contains Y bm hbm) (inK _ _ oC) (PySem.W.looks_findIn inK c.iC) (fun self => PySem.W.bind_fn inK self c.tI) (by show 1 ≤ sizeLine; rw [sizeLine_eq]; omega) hq
/-- C(f = e) -/
theorem pe_exVK (c : XCls X.K X.mg x C f fI fd qual st) (hr : Room 2 X.A) (tk : Takes X W) (hg : Gl X x) (he : PE X e te) (hdb : (x == ("__debug__" : Str)) = false := by decide)
    (hall : (backToKw pos (keywordEach [⟨some f, e, p2⟩] X.env)).all (·.1.isSome) = true := by rfl) (hks : (backToKw pos (keywordEach [⟨some f, e, p2⟩] X.env)).filterMap (·.1) = [f] := by rfl)
    (hpl : ((backTo pos (starEach [] X.env)).any (·.1) || (backToKw pos (keywordEach [⟨some f, e, p2⟩] X.env)).any (·.1.isNone)) = false := by rfl) :
    PE X (.Call (.Name x p) [] [⟨some f, e, p2⟩] pos) (tExV C f te) := by
  refine ⟨fun pins s σ H Q I h => ?_⟩
  obtain ⟨nm, q, N, bs, bm, sn, sub, ab, col, dd, k0, k1, k2, k3, k5, oC, hbm⟩ := c.T.cls
  apply wpAny_Call_Name_kw (ld_glob I hg c.mC ?_ hdb)
  refine PySem.W.callWith_KW0 (h₀ := X.base) I.ok.mod.kin c.T.kC hall ?_ hpl
  show wpAny _ _ (evalAll ((do let v ← eval e X.env; standAt pos; pure v) :: (backToKw pos (keywordEach [] X.env)).map (·.2))) _ _ s
  refine wpAny_evalAll_cons (wpAny_bind (thn (he.run pins s σ H _ I h) fun u s1 hh => wpAny_bind (wpAny_standAt (wpAny_pure ?_))))
  obtain ⟨v, H1, I1, ru, q1⟩ := hh
  refine wpAny_evalAll_nil ⟨I1.kIn, ?_⟩
  rw [hks]
  show wpAny _ _ (call (.ref C) [] [(f, u)]) _ _ _
  refine run_exV c hr tk I1 ru (fun s a _ => c.b2 s a u) (fun R hp g d t os inK hq => ?_) q1
  exact DLX.cOwn F.excBase_ValueError (fun Y => PySem.HandSPX.refsVE_contains Y bm hbm) (inK _ _ oC) (PySem.W.looks_findIn inK c.iC) (fun self => PySem.W.bind_fn inK self c.tI) (Nat.zero_le _) hq
/-- as data -/
def eExc (C : Addr) (f : Str) (m : EM D) : EM D := fun ρ S => (m ρ S).bind fun d S1 => .ok (.exi C f [d]) S1
theorem exv_go {σ : L2.St} {H : Hp} {Q : VK} (h : lft X.K X.mg E W (rD X.K) (eExc C f m) σ H Q) : tExV C f (lft X.K X.mg E W (rD X.K) m) σ H Q := by
  obtain ⟨ρ, S, I, A, r, p⟩ := h
  refine seq1 r p fun d v H1 S1 I1 A1 r1 x1 q1 p1 => fun a dx na nd ne => ?_
  have x2 := r1.s.newX (o := exd dx [(f, v)]) nd
  have r2 := r1.new (o := exd dx [(f, v)]) nd
  have na2 : upd H1 dx (exd dx [(f, v)]) a = none := by rw [upd_ne (Ne.symm ne)]; exact na
  have x3 := r2.s.newX (o := exo a C (some dx)) na2
  refine p1 (.ref a) _ _ _ (r2.new na2) (x2.trans x3) (.exi1 (fs := [(f, v)]) (v := v) upd_same ?_ ?_ (.cons ((x2.trans x3).rep q1) .nil))
  · rw [upd_ne ne]; exact upd_same
  · simp [List.lookup]
theorem de_exV (c : XCls X.K X.mg x C f fI fd qual st) (hr : Room 2 X.A) (tk : Takes X W) (hg : Gl X x) (he : ME X E W e m) (hdb : (x == ("__debug__" : Str)) = false := by decide)
    (h1 : starEach [e] X.env = (false, eval e X.env) :: starEach [] X.env := by rfl) : ME X E W (.Call (.Name x p) [e] [] pos) (eExc C f m) :=
  PE.imp (pe_exV c hr tk hg he hdb h1) fun σ H Q h => exv_go h
theorem de_exVK (c : XCls X.K X.mg x C f fI fd qual st) (hr : Room 2 X.A) (tk : Takes X W) (hg : Gl X x) (he : ME X E W e m) (hdb : (x == ("__debug__" : Str)) = false := by decide)
    (hall : (backToKw pos (keywordEach [⟨some f, e, p2⟩] X.env)).all (·.1.isSome) = true := by rfl) (hks : (backToKw pos (keywordEach [⟨some f, e, p2⟩] X.env)).filterMap (·.1) = [f] := by rfl)
    (hpl : ((backTo pos (starEach [] X.env)).any (·.1) || (backToKw pos (keywordEach [⟨some f, e, p2⟩] X.env)).any (·.1.isNone)) = false := by rfl) :
    ME X E W (.Call (.Name x p) [] [⟨some f, e, p2⟩] pos) (eExc C f m) :=
  PE.imp (pe_exVK c hr tk hg he hdb hall hks hpl) fun σ H Q h => exv_go h
/-- C() of a class without own __init__ -/
def eExc0 (C : Addr) : EM D := fun _ S => .ok (.exi C "" []) S
theorem de_exc0 {bmB : List Value} {B newId initId : String} (FB : ExcBaseFacts B newId initId bmB) (q : PySem.W.excIn X.K C bmB newId = true) (gC : X.mg x = some (.ref C)) (kC : PySem.W.keepIn X.K (.ref C) = true) (hg : Gl X x)
    (hdb : (x == ("__debug__" : Str)) = false := by decide) : ME X E W (.Call (.Name x p) [] [] pos) (eExc0 C) := by
  refine PE.imp (t := fun σ H Q => ∀ a, H a = none → Q (.ref a) (upd H a (ExO (.ref C) a))) ⟨fun pins s σ H Q I h => ?_⟩ fun σ H Q ⟨ρ, S, I, A, r, pp⟩ => ?_
  · apply wpAny_Call_Name_kw (ld_glob I hg gC ?_ hdb)
    refine PySem.W.callWith_K0 I.kIn kC ?_
    obtain ⟨bm, N, nm, qn, bs, hdct, sn, sub, ab, col, dd, k0, k1, k2, k3, k5, mN, oC, hN, hni, T⟩ := exc_obj I.kIn q
    refine wpAny_call_exc_subT FB T oC hN hni (fun h' a hm => ?_) (Nat.zero_le _)
    have hn : H a = none := I.hok.gone hm.new
    obtain ⟨t, ht, _, _⟩ := hm.there
    exact ⟨.ref a, upd H a (ExO (.ref C) a), I.laidN hm.keeps hm.new hn (exO_ok ht ⟨rfl, rfl⟩ rfl rfl rfl (show 4 < 6 by decide)), rfl, h a hn⟩
  · exact fun a na => pp (.ref a) _ _ _ (r.new na) (r.s.newX na) (.exi0 upd_same)
end
end DL
set_option Elab.async false
set_option linter.all false
set_option maxRecDepth 100000
set_option maxHeartbeats 2000000
set_option autoImplicit false
namespace DL
open PySem L2
/-! ### e.f of an exception -/
/-- the classes that are told about, the field f is of none of them -/
def XflC (K : PySem.W.Frag) (f : Str) (Cs : List Addr) : Prop := ∀ C ∈ Cs, XfC K C ∧ PySem.W.findIn K (.ref C) f = some none
def xfl (Cs : List Addr) (f : Str) : D → Option D
  | .exi C g l => if C ∈ Cs ∧ g = f then l.head? else none
  | _ => none
section
variable {X : Cx} {E : Entry} {W : WX} {x f : Str} {e : Expr} {te : TE} {m : EM D} {p p2 pos : Pos} {Cs : List Addr}
theorem lk_of {K : PySem.W.Frag} {I : Hp} {A : List Addr} {v : V} {l : List D} {d : D} (h : Reps K I A [v] l) (e : l.head? = some d) : Rep K I A v d := by
  cases h with
  | cons h1 h2 => cases e; exact h1
theorem de_xfl (hC : XflC X.K f Cs) (he : ME X E W e m) (hb : attributeBase e f X.env (eval e X.env) = eval e X.env := by rfl) : ME X E W (.Attribute e f pos) (eUn (xfl Cs f) m) := by
  refine PE.imp (t := fun σ H Q => lft X.K X.mg E W (rD X.K) m σ H fun x H1 => ∃ (a C dd : Addr) (fs : List (Str × V)) (v : V), x = .ref a ∧ C ∈ Cs ∧ H1 a = some (exo a C (some dd)) ∧ H1 dd = some (exd dd fs) ∧ fs.lookup f = some v ∧ Q v H1)
    ⟨fun pins s σ H Q I h => ?_⟩ fun σ H Q ⟨ρ, S, I, A, r, pp⟩ => ?_
  · refine attr_of hb (thn (he.run pins s σ H _ I h) fun u s1 hh => ?_)
    obtain ⟨x, H1, I1, rx, a, C, dd, fs, v, rfl, hm, ea, ed, l, q⟩ := hh
    obtain ⟨T, hno⟩ := hC C hm
    obtain rfl : u = Value.ref a := rx
    obtain ⟨t1, ha⟩ := exo_at I1.hok ea
    obtain ⟨mA, hns, hr⟩ := exd_at I1.hok ed
    obtain ⟨od, ho, hl⟩ := lookIn_ns hns
    obtain ⟨u, hu, ru⟩ := RelO.some_of (v := v) (o := mA f) (by rw [← l]; exact hr f)
    have J : PySem.W.InstAt s1.heap a { cls := .ref C, dict := some dd, data := .fields #[.ref t1, .none, .none, .none, .bool false, .none] } C (some od) := ⟨ha, rfl, rfl, ho⟩
    exact PySem.HandSPX.exc_get I1.kIn J T.ga T.gg T.exC (PySem.W.findObj_own T.hdC hno rfl (by rw [hl, hu])) (handed_of ru) ⟨v, H1, I1.tok _, ru, q⟩
  · refine seq1 r pp fun d v H1 S1 I1 A1 r1 x1 q1 p1 => ?_
    obtain ⟨z, ez, k⟩ := p1.some
    unfold xfl at ez
    cases q1 <;> first | (cases ez; done) | skip
    · rename_i C g _
      dsimp only at ez
      split at ez <;> cases ez
    · rename_i a C dx g fs y l h1 h2 h3 h4
      dsimp only at ez
      split at ez
      · rename_i hc
        obtain ⟨hm, rfl⟩ := hc
        exact ⟨a, C, dx, fs, y, rfl, hm, r1.s.sub _ _ h1, r1.s.sub _ _ h2, h3, k y H1 I1 A1 r1 (Ext.refl _ _ _) (lk_of h4 ez)⟩
      · cases ez
end

/-! ### isinstance -/
def tyD (K : PySem.W.Frag) : D → Option Value
  | .non => some (.type "NoneType")
  | .bl _ => some (.type "bool")
  | .int _ => some (.type "int")
  | .str _ => some (.type "str")
  | .tup _ => some (.type "tuple")
  | .ftup _ => some (.type "tuple")
  | .lst _ => some (.type "list")
  | .dsi _ => some (.type "dict")
  | .dct _ => some (.type "dict")
  | _ => none
def isiF (K : PySem.W.Frag) (Cs : List Addr) (u : Value) : D → Option D
  | .exi C _ _ => if C ∈ Cs then (PySem.W.kitOne K (.ref C) u).map .bl else none
  | d => (tyD K d).bind fun t => (PySem.W.kitOne K t u).map .bl
def ExcCs (K : PySem.W.Frag) (Cs : List Addr) : Prop := ∀ C ∈ Cs, ExcC K C
section
variable {X : Cx} {E : Entry} {W : WX} {x f c : Str} {e : Expr} {te : TE} {m : EM D} {p p2 pos : Pos} {Cs : List Addr} {cv : V} {u : Value}
/-- isinstance(e, c), e an exception -/
def rIsiX (K : PySem.W.Frag) (Cs : List Addr) : List V → Hp → VK → Prop := fun xs H Q => ∃ (a C : Addr) (c : V) (u : Value) (b : Bool), xs = [.ref a, c] ∧ ClsV c u ∧ C ∈ Cs ∧ (H a = some (ExO (.ref C) a) ∨ ∃ dx fs, H a = some (exo a C (some dx)) ∧ H dx = some (exd dx fs)) ∧
  PySem.W.kitOne K (.ref C) u = some b ∧ Q (.bl b) H
theorem call_isiX (hC : ExcCs X.K Cs) : CallR X (.builtin "isinstance") (rIsiX X.K Cs) := by
  intro pins s σ H xs us Q I r h
  obtain ⟨a, C, c, u, b, rfl, k, hm, ha, e, q⟩ := h
  obtain ⟨u1, u2, rfl, r1, r2⟩ := vals2 r
  obtain rfl := k.eq r2
  obtain rfl : u1 = Value.ref a := r1
  have T := hC C hm
  have cl : (PySem.W.clsIn X.K C).isSome = true := by
    obtain ⟨cd, hc, _⟩ := PySem.W.any_some T.hd
    rw [hc]; rfl
  have go : ∀ (ox : Obj) (od : Option Obj), PySem.W.InstAt s.heap a ox C od → wpAny (model X.prog X.w) X.A (call (.builtin "isinstance") [.ref a, u2]) (EP X pins σ Q) X.xe s := fun ox od J =>
    PySem.W.kia_one (PySem.W.kitx_exc cl T.hg T.hk T.hs T.ha T.hn T.ht T.hm) I.kIn J e (fun z => nomatch z) fun tk => ⟨.bl b, H, I.tok tk, rfl, q⟩
  rcases ha with ha | ⟨dx, fs, ha, hd⟩
  · obtain ⟨⟨oe, vs, ho, hz, hd, _⟩, _⟩ := I.hok a _ ha
    refine go oe none ⟨ho, hz.1, by unfold PySem.W.notCls; rw [hd] <;> rfl, by rw [hz.2]; trivial⟩
  · obtain ⟨t1, ho⟩ := exo_at I.hok ha
    obtain ⟨mA, hns, hr⟩ := exd_at I.hok hd
    obtain ⟨od, hod, hl⟩ := lookIn_ns hns
    exact go _ (some od) ⟨ho, rfl, rfl, hod⟩
theorem callR_or {fv : Value} {r r' : List V → Hp → VK → Prop} (h : CallR X fv r) (h' : CallR X fv r') : CallR X fv (fun xs H Q => r xs H Q ∨ r' xs H Q) := fun pins s σ H xs us Q I rv q => q.elim (h pins s σ H xs us Q I rv) (h' pins s σ H xs us Q I rv)
theorem tyx_of {K : PySem.W.Frag} {H I : Hp} {A : List Addr} {v : V} {d : D} {t : Value} (hs : Same I H) (h : Rep K I A v d) (e : tyD K d = some t) : TyX K H v t := by
  cases h <;> (try (cases e; done)) <;> cases e
  · exact .base .non
  · exact .base (.bl _)
  · exact .base (.int _)
  · exact .base (.str _)
  · rename_i a xs ds h1 h2
    rcases h1 with (h | ⟨o, h⟩) | ⟨o, its, n, h, h3, _⟩
    · exact .base (.tup (hs _ _ h))
    · exact .fTuple (hs _ _ h)
    · exact .kTuple h h3
  · rename_i h1 _
    exact .base (.lst (hs _ _ h1))
  · rename_i h1 _ _
    exact .fTuple (hs _ _ h1)
  · rename_i h1
    exact .base (.dT (hs _ _ h1))
  · rename_i h1
    exact .base (.dK (hs _ _ h1))
theorem de_isi (hC : ExcCs X.K Cs) (hg : Gl X "isinstance") (hm : X.mg "isinstance" = none) (he : ME X E W e m) (hc : PE X (.Name c p2) (tC cv)) (k : ClsV cv u) (h1 : starEach [e, .Name c p2] X.env = (false, eval e X.env) :: starEach [.Name c p2] X.env := by rfl)
    (h2 : starEach [.Name c p2] X.env = (false, eval (.Name c p2) X.env) :: starEach [] X.env := by rfl) (hpl : (backTo pos (starEach [.Name c p2] X.env)).any (·.1) = false := by rfl) :
    ME X E W (.Call (.Name "isinstance" p) [e, .Name c p2] [] pos) (eUn (isiF X.K Cs u) m) := by
  refine PE.imp (pe_callB (callR_or call_isi (call_isiX hC)) hg hm (by decide +kernel) (pa_cons he (pa_cons hc pa_nil h2) h1) (by decide) (by decide) h1 hpl) fun σ H Q ⟨ρ, S, I, A, r, pp⟩ => ?_
  refine seq1 r pp fun d v H1 S1 I1 A1 r1 x1 q1 p1 => ?_
  obtain ⟨z, ez, kk⟩ := p1.some
  have old : ∀ t, tyD X.K d = some t → (PySem.W.kitOne X.K t u).map D.bl = some z → (rIsi X.K [v, cv] H1 Q ∨ rIsiX X.K Cs [v, cv] H1 Q) := fun t et e => by
    obtain ⟨b, eb, rfl⟩ := Option.map_eq_some_iff.mp e
    exact .inl ⟨v, cv, t, u, b, rfl, k, tyx_of r1.s.sub q1 et, eb, kk (.bl b) H1 I1 A1 r1 (Ext.refl _ _ _) (.bl b)⟩
  have gen : (tyD X.K d).bind (fun t => (PySem.W.kitOne X.K t u).map .bl) = some z → (rIsi X.K [v, cv] H1 Q ∨ rIsiX X.K Cs [v, cv] H1 Q) := fun e => by
    obtain ⟨t, et, e2⟩ := Option.bind_eq_some_iff.mp e
    exact old t et e2
  show rIsi X.K [v, cv] H1 Q ∨ rIsiX X.K Cs [v, cv] H1 Q
  cases d <;> first | exact gen ez | skip
  rename_i C g l
  have ez' : (if C ∈ Cs then (PySem.W.kitOne X.K (.ref C) u).map D.bl else none) = some z := ez
  by_cases hmC : C ∈ Cs
  · rw [if_pos hmC] at ez'
    replace ez := ez'
    obtain ⟨b, eb, rfl⟩ := Option.map_eq_some_iff.mp ez
    have fin := kk (.bl b) H1 I1 A1 r1 (Ext.refl _ _ _) (.bl b)
    cases q1 with
    | exi0 h => exact .inr ⟨_, C, cv, u, b, rfl, k, hmC, .inl (r1.s.sub _ _ h), eb, fin⟩
    | exi1 h h2 _ _ => exact .inr ⟨_, C, cv, u, b, rfl, k, hmC, .inr ⟨_, _, r1.s.sub _ _ h, r1.s.sub _ _ h2⟩, eb, fin⟩
  · rw [if_neg hmC] at ez'; cases ez'
end
end DL
set_option Elab.async false
set_option linter.all false
set_option maxRecDepth 100000
set_option maxHeartbeats 2000000
set_option autoImplicit false
namespace DL
open PySem L2
/-! ### is of bools -/
abbrev rIsB' : R2 := fun x y H Q => ∃ a b, x = .bl a ∧ y = .bl b ∧ Q (.bl (decide (a = b))) H
abbrev rIsntB' : R2 := fun x y H Q => ∃ a b, x = .bl a ∧ y = .bl b ∧ Q (.bl (!decide (a = b))) H
section
variable {K : PySem.W.Frag} {mg : Str → Option Value}
theorem ok_isB : OpOk K mg rIsB' isB := by
  intro x y z v w H S I A Q s rv rw' e k
  cases x <;> first | (cases e; done) | skip
  cases y <;> first | (cases e; done) | skip
  cases rv; cases rw'; cases e
  exact ⟨_, _, rfl, rfl, k _ H I s (Ext.refl _ _ _) (.bl _)⟩
theorem ok_isntB : OpOk K mg rIsntB' isntB := by
  intro x y z v w H S I A Q s rv rw' e k
  cases x <;> first | (cases e; done) | skip
  cases y <;> first | (cases e; done) | skip
  cases rv; cases rw'; cases e
  exact ⟨_, _, rfl, rfl, k _ H I s (Ext.refl _ _ _) (.bl _)⟩
end
section
variable {X : Cx} {E : Entry} {W : WX} {a b c : Expr} {ma mb mc : EM D} {pos : Pos}
theorem de_isB (ha : ME X E W a ma) (hb : ME X E W b mb) : ME X E W (.Compare a [.Is] [b] pos) (eBin isB ma mb) := de_cmp op_is_bl ok_isB ha hb (nomark _)
theorem de_isntB (ha : ME X E W a ma) (hb : ME X E W b mb) : ME X E W (.Compare a [.IsNot] [b] pos) (eBin isntB ma mb) := de_cmp op_isnot_bl ok_isntB ha hb (nomark _)
theorem dt_isB (ha : ME X E W a ma) (hb : ME X E W b mb) : MT X E W (.Compare a [.Is] [b] pos) (eTest (eBin isB ma mb)) := dt_cmp op_is_bl ok_isB ha hb (nomark _)
theorem dt_isntB (ha : ME X E W a ma) (hb : ME X E W b mb) : MT X E W (.Compare a [.IsNot] [b] pos) (eTest (eBin isntB ma mb)) := dt_cmp op_isnot_bl ok_isntB ha hb (nomark _)
end

/-! ### repr -/
mutual
theorem dp_nodict {K : PySem.W.Frag} {H : Hp} : ∀ (d : PyData) (v : V), Dp K H v d → d.hasDict = false
  | .none, _, _ => rfl
  | .bool _, _, _ => rfl
  | .int _, _, _ => rfl
  | .str _, _, _ => rfl
  | .list ds, _, h => by
    cases h with
    | lst _ h2 => exact dps_nodict ds _ h2
  | .tuple ds, _, h => by
    cases h with
    | tup _ h2 => exact dps_nodict ds _ h2
  | .dict _, _, h => by cases h
theorem dps_nodict {K : PySem.W.Frag} {H : Hp} : ∀ (ds : List PyData) (vs : List V), DpAll K H vs ds → PyData.hasDictAll ds = false
  | [], _, _ => rfl
  | d :: ds, _, h => by
    cases h with
    | cons h1 h2 =>
      show (PyData.hasDict d || PyData.hasDictAll ds) = false
      rw [dp_nodict d _ h1, dps_nodict ds _ h2]; rfl
end
def shB (p : PyData) : Bool := p.showable && decide (p.shown.length ≤ sizeLine) && decide (p.depth ≤ 60)
def dsiP (kvs : List (Str × Int)) : PyData := .dict (kvs.map fun p => (.str p.1, .int p.2))
def reprD : D → Option PyData
  | .dsi kvs => some (dsiP kvs)
  | d => d.py
def reprF : List D → Option D
  | [d] => match reprD d with
    | some p => if shB p = true then some (.str p.shown) else none
    | none => none
  | _ => none
/-- what repr is asked about -/
def RpV (K : PySem.W.Frag) (H : Hp) (v : V) (p : PyData) : Prop := Dp K H v p ∨ ∃ a kvs, v = .ref a ∧ H a = some (.dK (kvs.map fun q : Str × Int => (Sum.inr q.1, V.int q.2))) ∧ p = dsiP kvs
def rRepr (K : PySem.W.Frag) : List V → Hp → VK → Prop := fun xs H Q => ∃ v p, xs = [v] ∧ RpV K H v p ∧ shB p = true ∧ Q (.str p.shown) H
section
variable {X : Cx}
theorem rp_keys : ∀ {kvs : List (Str × Int)} {vs : List (Key × Value)} {es : List DictEntry}, KV (kvs.map fun q : Str × Int => ((Sum.inr q.1 : Key), V.int q.2)) vs → Pairs (mixKind X.prog X.w) es vs → ∀ h : Heap,
    ReadsAll h (es.map (·.key)) ((kvs.map fun p => (PyData.str p.1, PyData.int p.2)).map (·.1)) [] ∧ ReadsAll h (es.map (·.val)) ((kvs.map fun p => (PyData.str p.1, PyData.int p.2)).map (·.2)) []
  | [], _, _, h1, h2, h => by
    cases h1
    cases h2
    exact ⟨.nil, .nil⟩
  | (x, i) :: kvs, _, _, h1, h2, h => by
    cases h1 with
    | cons r1 h1 =>
      cases h2 with
      | cons r2 r3 h2 =>
        obtain ⟨q1, q2⟩ := rp_keys h1 h2 h
        obtain ⟨e1, e2⟩ := r1
        rename_i kv _ en _
        obtain ⟨k, w⟩ := kv
        dsimp only at e1 e2 r2 r3
        subst e1
        obtain ⟨t, rfl⟩ := e2
        obtain ⟨eh, ek, ev⟩ := en
        dsimp only at r2 r3
        subst r3
        have r2' : Value.isStrOf x ek = true := r2
        obtain ⟨tk, rfl⟩ : ∃ tk, ek = Value.str x tk := by
          unfold Value.isStrOf at r2'
          split at r2'
          · rename_i y u
            exact ⟨u, by rw [eq_of_beq r2']⟩
          · cases r2'
        exact ⟨.cons (as := []) (bs := []) (.str x tk) q1, .cons (as := []) (bs := []) (.int i t) q2⟩
theorem rp_reads {pins : List (Addr × Obj)} {σ : L2.St} {H : Hp} {s : Shared} {v : V} {u : Value} {p : PyData} (I : Inv X pins σ H s) (h : RpV X.K H v p) (r : RelV v u) : ∃ as, Reads s.heap u p as ∧ (p.hasDict = true → sysModules ∉ as) := by
  rcases h with h | ⟨a, kvs, rfl, ha, rfl⟩
  · obtain ⟨as, q⟩ := Dp.reads I p v u h r
    exact ⟨as, q, fun z => by rw [dp_nodict p v h] at z; cases z⟩
  · obtain rfl : u = Value.ref a := r
    obtain ⟨_, hs, vs, kv, o, es, n, ho, ex, hd, _, pr, _⟩ := I.hok a _ ha
    obtain ⟨q1, q2⟩ := rp_keys kv pr s.heap
    exact ⟨_, Reads.dict ho ex.1 hd q1 q2, fun _ hm => by
      simp at hm
      rw [hm] at hs
      simp at hs⟩
theorem call_repr (hu : X.A.units + 64 < cLine) (hg : X.A.guards = some []) : CallR X (.builtin "repr") (rRepr X.K) := by
  intro pins s σ H xs us Q I r h
  obtain ⟨v, p, rfl, hp, hb, q⟩ := h
  obtain ⟨u, rfl, r1⟩ : ∃ u, us = [u] ∧ RelV v u := by
    cases r with
    | cons r1 r2 => cases r2; exact ⟨_, rfl, r1⟩
  unfold shB at hb
  simp only [Bool.and_eq_true, decide_eq_true_eq] at hb
  obtain ⟨⟨h1, h2⟩, h3⟩ := hb
  obtain ⟨as, rd, hsm⟩ := rp_reads I hp r1
  have fin : ∀ (h' : Heap) (t : Tok) (tk : Nat), (∀ b o, s.heap.get? b = some o → h'.get? b = some o) → EP X pins σ Q (.str p.shown t) { s with heap := h', toks := tk } := fun h' t tk k => ⟨.str p.shown, H, I.kept k, ⟨t, rfl⟩, q⟩
  cases rd with
  | none => exact P.repr_of_none (fin s.heap _ _ fun _ _ z => z)
  | bool b => exact P.repr_of_bool (fin s.heap _ _ fun _ _ z => z)
  | int i t => exact P.repr_of_int (by simpa [PyData.showable] using h1) (fin s.heap _ _ fun _ _ z => z)
  | str x t => exact P.repr_of_str (fin s.heap _ _ fun _ _ z => z) h2
  | list a1 a2 a3 a4 => exact repr_of_reads' (.list a1 a2 a3 a4) h1 hsm hg (by omega) (fun _ _ z => z) (fun h' t tk k => fin h' t tk k) h2
  | tuple a1 a2 a3 a4 => exact repr_of_reads' (.tuple a1 a2 a3 a4) h1 hsm hg (by omega) (fun _ _ z => z) (fun h' t tk k => fin h' t tk k) h2
  | dict a1 a2 a3 a4 a5 => exact repr_of_reads' (.dict a1 a2 a3 a4 a5) h1 hsm hg (by omega) (fun _ _ z => z) (fun h' t tk k => fin h' t tk k) h2
end
theorem ok_repr {K : PySem.W.Frag} {mg : Str → Option Value} : CaOk K mg (rRepr K) reprF := by
  intro xs z vs H S I A Q s rv e k
  match xs, e with
  | [d], e =>
    unfold reprF at e
    dsimp only at e
    cases q : reprD d with
    | none => rw [q] at e; cases e
    | some p =>
      rw [q] at e
      dsimp only at e
      split at e
      · rename_i hb
        cases e
        cases rv with
        | cons r1 r2 =>
          cases r2
          refine ⟨_, p, rfl, ?_, hb, k _ H I s (Ext.refl _ _ _) (.str _)⟩
          cases d <;> first | exact .inl (r1.dp s.sub _ _ _ q) | skip
          cases q
          cases r1 with
          | dsi h => exact .inr ⟨_, _, rfl, s.sub _ _ h, rfl⟩
      · cases e
section
variable {X : Cx} {E : Entry} {W : WX} {e : Expr} {ms : EM (List D)} {p pos : Pos}
theorem de_repr (hu : X.A.units + 64 < cLine) (hgd : X.A.guards = some []) (hg : Gl X "repr") (hm : X.mg "repr" = none) (ha : MA X E W [e] ms) (he : starEach [e] X.env = (false, eval e X.env) :: starEach [] X.env := by rfl) : ME X E W (.Call (.Name "repr" p) [e] [] pos) (eFn reprF ms) :=
  de_callB (call_repr hu hgd) ok_repr hg hm (by decide +kernel) ha (by decide) (by decide) he rfl
end

/-! ### {"x": 1} -/
def eDsi (kvs : List (Str × Int)) : EM D := fun _ S => .ok (.dsi kvs) S
section
variable {X : Cx} {E : Entry} {W : WX} {p1 p2 pos : Pos} {x : Str} {i : Int} {j1 j2 : Nat}
theorem de_dsi1 : ME X E W (.Dict [some (.Constant (.str x) j1 p1)] [.Constant (.int i) j2 p2] pos) (eDsi [(x, i)]) := by
  refine PE.imp (pe_disp (pps_cons (pe_str (x := x)) (pe_int (i := i)) pps_nil) rfl rfl (by simp) (show 1 ≤ 15 by decide)) fun σ H Q ⟨ρ, S, I, A, r, pp⟩ => ?_
  intro a na
  refine ⟨upd_same, [(Sum.inr x, V.int i)], rfl, (show 1 ≤ 15 by decide), ?_⟩
  rw [upd_upd]
  exact pp (.ref a) _ _ _ (r.new na) (r.s.newX na) (.dsi upd_same)
end
theorem pure_v (i : Nat) : ∀ (ρ : Env) (S : Sto) (d : D) (S1 : Sto), eV i ρ S = .ok d S1 → S1 = S := fun ρ S d S1 e => by
  unfold eV at e
  split at e
  · cases e; rfl
  · cases e
end DL
set_option Elab.async false
set_option linter.all false
set_option maxRecDepth 100000
set_option maxHeartbeats 2000000
set_option autoImplicit false
/-! Plain lemmas about the denotations. -/
namespace DL
open PySem L2
theorem lcF_pure {g : GM} {t : EM Bool} {e : EM D} {ρ : Env} {S : Sto} {p : D → Bool} {v : D → D} : ∀ (ds acc : List D), (∀ d ∈ ds, ∃ ρ1, g d ρ S = some (ρ1, S) ∧ t ρ1 S = .ok (p d) S ∧ (p d = true → e ρ1 S = .ok (v d) S)) →
    acc.length + ds.length ≤ sizeLine → lcF g t e ρ ds acc S = .ok (acc ++ (ds.filter p).map v) S
  | [], acc, _, _ => by simp [lcF]
  | d :: ds, acc, h, hz => by
    obtain ⟨ρ1, h1, h2, h3⟩ := h d List.mem_cons_self
    have hz' : acc.length + (ds.length + 1) ≤ sizeLine := by simpa using hz
    unfold lcF
    rw [h1]
    dsimp only
    rw [h2, Out.bindN_ok]
    cases q : p d with
    | false =>
      rw [if_neg Bool.false_ne_true, lcF_pure ds acc (fun x hx => h x (List.mem_cons_of_mem _ hx)) (by omega), List.filter_cons_of_neg (by simp [q])]
    | true =>
      rw [if_pos rfl, h3 q, Out.bindN_ok, if_pos (by omega), lcF_pure ds _ (fun x hx => h x (List.mem_cons_of_mem _ hx)) (by simp; omega), List.filter_cons_of_pos q]
      simp
theorem loopF_nx {g : GM} {b : SM} (Inv : Env → Sto → Prop) : ∀ (ds : List D), (∀ d ∈ ds, ∀ ρ S, Inv ρ S → ∃ ρ1 S1, g d ρ S = some (ρ1, S1) ∧ ∃ ρ2 S2, (b ρ1 S1 = .nx ρ2 S2 ∨ b ρ1 S1 = .ct ρ2 S2) ∧ Inv ρ2 S2) →
    ∀ ρ S, Inv ρ S → ∃ ρ' S', loopF g b ds ρ S = .nx ρ' S' ∧ Inv ρ' S'
  | [], _, ρ, S, i => ⟨ρ, S, rfl, i⟩
  | d :: ds, h, ρ, S, i => by
    obtain ⟨ρ1, S1, h1, ρ2, S2, h2, i2⟩ := h d List.mem_cons_self ρ S i
    obtain ⟨ρ', S', h3, i3⟩ := loopF_nx Inv ds (fun x hx => h x (List.mem_cons_of_mem _ hx)) ρ2 S2 i2
    refine ⟨ρ', S', ?_, i3⟩
    unfold loopF
    rw [h1]
    dsimp only
    rcases h2 with h2 | h2 <;> (rw [h2]; exact h3)
theorem pylong_small {i j : Int} (h : j.natAbs < 2 ^ 64) : Builtin.divisionGoesByPylong i j = false := by
  apply PyProof.noPylong_of_log2
  have := PySem.Flt.log2_lt_of (by decide) h
  omega
/-- a datum that repr shows -/
def Good (d : D) : Prop := ∃ p, reprD d = some p ∧ shB p = true
theorem good_int {i : Int} (h : i.natAbs < 2 ^ 200) : Good (.int i) := by
  refine ⟨.int i, rfl, ?_⟩
  have l : i.natAbs.log2 < 1920 := by
    have := PySem.Flt.log2_lt_of (by decide) h
    omega
  unfold shB
  simp only [Bool.and_eq_true, decide_eq_true_eq]
  exact ⟨⟨by simpa [PyData.showable] using l, PySem.int_text_fits l⟩, Nat.zero_le _⟩
theorem repr_good {d : D} (h : Good d) : ∃ x, reprF [d] = some (.str x) := by
  obtain ⟨p, h1, h2⟩ := h
  exact ⟨p.shown, by simp [reprF, h1, h2]⟩
theorem ne_str (x : Str) : neD (.str x) (.str x) = some (.bl false) := by
  simp [neD, orElse, neS]
theorem runB_rt {m : SM} {n : Nat} {ds : List D} {S S' : Sto} {d : D} (h : m (envStart n ds) S = .rt d S') : runB m n ds S = .ok d S' := by
  unfold runB
  rw [h]
theorem sSeq_nx {m n : SM} {ρ ρ1 : Env} {S S1 : Sto} (h : m ρ S = .nx ρ1 S1) : sSeq m n ρ S = n ρ1 S1 := by
  unfold sSeq
  rw [h]
theorem sSeq_rt {m n : SM} {ρ : Env} {S S1 : Sto} {d : D} (h : m ρ S = .rt d S1) : sSeq m n ρ S = .rt d S1 := by
  unfold sSeq
  rw [h]
theorem sFor_of {it : EM (List D)} {g : GM} {b : SM} {ρ : Env} {S S1 : Sto} {l : List D} {o : SOut} (h : it ρ S = .ok l S1) (h2 : loopF g b l ρ S1 = o) : sFor it g b ρ S = o := by
  unfold sFor sE
  rw [h]
  exact h2
theorem rngW_ok {n : Nat} (h : n < 1000000000) : rngW 0 (n : Int) = true := by
  unfold rngW
  rw [decide_eq_true_eq]
  omega
theorem rngOf_ok {n : Nat} (h : n < 1000000000) : rngOf 0 (n : Int) = some ((List.range n).map fun j => .int (0 + (j : Nat))) := by
  have h2 : ((n : Int) - 0).toNat = n := by omega
  unfold rngOf
  rw [if_pos (rngW_ok h), h2]
theorem iRng1 {e : EM D} {ρ : Env} {S S1 : Sto} {n : Nat} (he : e ρ S = .ok (.int (n : Int)) S1) (h : n < 1000000000) : iRng (aCons e aNil) ρ S = .ok ((List.range n).map fun j => .int (0 + (j : Nat))) S1 := by
  unfold iRng aCons aNil
  rw [he]
  have e : rngF [.int (n : Int)] = some ((List.range n).map fun j => .int (0 + (j : Nat))) := rngOf_ok h
  rw [Out.bind_ok, Out.bind_ok, Out.bind_ok, e]
  rfl
theorem eLen {e : EM D} {ρ : Env} {S S1 : Sto} {k : Bool} {d : D} {l : List D} (he : e ρ S = .ok d S1) (hd : seqOf d = some (k, l)) : eFn lenF (aCons e aNil) ρ S = .ok (.int (l.length : Int)) S1 := by
  have h : lenF [d] = some (.int (l.length : Int)) := by
    cases d <;> first | (simp [seqOf] at hd; done) | (simp [lenF, hd]; done)
  unfold eFn aCons aNil
  rw [he]
  show opt (lenF [d]) S1 = _
  rw [h]
  rfl
section
variable {ρ ρ1 : Env} {S S1 S2 S3 : Sto} {a b : EM D} {ms : EM (List D)} {x y z : D}
theorem eBin_of {f : D → D → Option D} (ha : a ρ S = .ok x S1) (hb : b ρ S1 = .ok y S2) (hf : f x y = some z) : eBin f a b ρ S = .ok z S2 := by
  unfold eBin
  rw [ha, Out.bind_ok, hb, Out.bind_ok, hf, opt_some]
theorem eUn_of {f : D → Option D} (ha : a ρ S = .ok x S1) (hf : f x = some z) : eUn f a ρ S = .ok z S1 := by
  unfold eUn
  rw [ha, Out.bind_ok, hf, opt_some]
theorem eTest_of {c : Bool} (ha : a ρ S = .ok (.bl c) S1) : eTest a ρ S = .ok c S1 := by
  unfold eTest
  rw [ha]
  rfl
theorem eFn_of {f : List D → Option D} {l : List D} (ha : ms ρ S = .ok l S1) (hf : f l = some z) : eFn f ms ρ S = .ok z S1 := by
  unfold eFn
  rw [ha, Out.bind_ok, hf, opt_some]
theorem aCons_of {l : List D} (ha : a ρ S = .ok x S1) (hb : ms ρ S1 = .ok l S2) : aCons a ms ρ S = .ok (x :: l) S2 := by
  unfold aCons
  rw [ha, Out.bind_ok, hb, Out.bind_ok]
theorem aNil_of : aNil ρ S = .ok [] S := rfl
theorem eCall_of {F : List D → Sto → Out D} {l : List D} {o : Out D} (ha : ms ρ S = .ok l S1) (hf : F l S1 = o) : eCall F ms ρ S = o := by
  unfold eCall
  rw [ha, Out.bind_ok, hf]
theorem eIx_of {m : EM (Bool × List D)} {i : EM D} {p : Bool × List D} (ha : m ρ S = .ok p S1) (hb : i ρ S1 = .ok y S2) (hf : ixQ p y = some z) : eIx m i ρ S = .ok z S2 := by
  unfold eIx
  rw [ha, Out.bind_ok, hb, Out.bind_ok, hf, opt_some]
theorem eSeq_of {p : Bool × List D} (ha : a ρ S = .ok x S1) (hf : seqOf x = some p) : eSeq a ρ S = .ok p S1 := by
  unfold eSeq
  rw [ha, Out.bind_ok, hf, opt_some]
theorem eIte_t {t : EM Bool} {o : Out D} (ht : t ρ S = .ok true S1) (ha : a ρ S1 = o) : eIte t a b ρ S = o := by
  unfold eIte
  rw [ht, Out.bind_ok, if_pos rfl, ha]
theorem eIte_f {t : EM Bool} {o : Out D} (ht : t ρ S = .ok false S1) (hb : b ρ S1 = o) : eIte t a b ρ S = o := by
  unfold eIte
  rw [ht, Out.bind_ok, if_neg Bool.false_ne_true, hb]
theorem sSet_of {i : Nat} (ha : a ρ S = .ok x S1) : sSet i a ρ S = .nx (ρ.set i (.val x)) S1 := by
  unfold sSet sE
  rw [ha]
theorem sRet_of (ha : a ρ S = .ok x S1) : sRet a ρ S = .rt x S1 := by
  unfold sRet sE
  rw [ha]
theorem sIf_t {t : EM Bool} {m n : SM} {o : SOut} (ht : t ρ S = .ok true S1) (ha : m ρ S1 = o) : sIf t m n ρ S = o := by
  unfold sIf sE
  rw [ht]
  dsimp only
  rw [if_pos rfl, ha]
theorem sIf_f {t : EM Bool} {m n : SM} {o : SOut} (ht : t ρ S = .ok false S1) (ha : n ρ S1 = o) : sIf t m n ρ S = o := by
  unfold sIf sE
  rw [ht]
  dsimp only
  rw [if_neg Bool.false_ne_true, ha]
theorem tOr_t {t u : EM Bool} (ht : t ρ S = .ok true S1) : tOr' t u ρ S = .ok true S1 := by
  unfold tOr'
  rw [ht, Out.bind_ok, if_pos rfl]
theorem tOr_f {t u : EM Bool} {o : Out Bool} (ht : t ρ S = .ok false S1) (hu : u ρ S1 = o) : tOr' t u ρ S = o := by
  unfold tOr'
  rw [ht, Out.bind_ok, if_neg Bool.false_ne_true, hu]
theorem tAnd_f {t u : EM Bool} (ht : t ρ S = .ok false S1) : tAnd' t u ρ S = .ok false S1 := by
  unfold tAnd'
  rw [ht, Out.bind_ok, if_neg Bool.false_ne_true]
theorem tAnd_t {t u : EM Bool} {o : Out Bool} (ht : t ρ S = .ok true S1) (hu : u ρ S1 = o) : tAnd' t u ρ S = o := by
  unfold tAnd'
  rw [ht, Out.bind_ok, if_pos rfl, hu]
theorem tNot_of {t : EM Bool} {c : Bool} (ht : t ρ S = .ok c S1) : tNot' t ρ S = .ok (!c) S1 := by
  unfold tNot'
  rw [ht, Out.bind_ok]
end
theorem mulN_right {i j : Int} (h0 : 0 ≤ j) (h1 : j < 1000000000) : mulN i j = true := by
  unfold mulN
  rw [Bool.or_eq_true]
  right
  rw [decide_eq_true_eq]
  omega
theorem mulN_left {i j : Int} (h0 : -1000000000000 < i) (h1 : i < 1000000000000) : mulN i j = true := by
  unfold mulN
  rw [Bool.or_eq_true]
  left
  rw [decide_eq_true_eq]
  omega
end DL
set_option Elab.async false
set_option linter.all false
set_option maxRecDepth 100000
set_option maxHeartbeats 4000000
set_option autoImplicit false
namespace L01
open PySem L2 DL
section
abbrev N_law_tank : List Str := ["_law_script", "_law_spot", "_law_stir", "_law_cell", "_law_own", "_law_rest"]
def M_law_tank (K : PySem.W.Frag) (a : Nat → Addr) (Cs : List Addr) : SM := sSeq (sSet 2 (eBin addD (eC (.int 90011)) (eBin mulI (eC (.int 2003)) (eV 1)))) (sSeq (sFor (iSeq (eCut (eSeq (eV 0)) oNone (oSome (eC (.int 9))))) (gVar 3) (sSet 2 (eBin modI (eFn intF (aCons (eBin addD (eBin addD (eBin mulI (eV 2) (eC (.int 51977))) (eBin modI (eFn intF (aCons (eV 3) aNil)) (eC (.int 2147483629)))) (eC (.int 37))) aNil)) (eC (.int 2147483629))))) (sSeq (sSet 4 (eIte (eTest (eBin ltI (eV 1) (eFn lenF (aCons (eV 0) aNil)))) (eFn intF (aCons (eIx (eSeq (eV 0)) (eV 1)) aNil)) (eV 2))) (sSeq (sSet 5 (eIte (tOr' (eTest (eBin ltI (eV 4) (eC (.int 0)))) (eTest (eBin geI (eV 4) (eBin powI (eC (.int 10)) (eC (.int 18)))))) (eFn absF (aCons (eV 4) aNil)) (eC (.int 0)))) (sRet (eNew (aCons (eV 5) (aCons (eBin modI (eFn intF (aCons (eBin addD (eBin addD (eBin mulI (eV 2) (eC (.int 33013))) (eBin mulI (eBin modI (eFn intF (aCons (eV 4) aNil)) (eC (.int 2147483629))) (eC (.int 7001)))) (eC (.int 3))) aNil)) (eC (.int 2147483629))) (aCons (eC (.int 0)) aNil))))))))
def F_law_tank (K : PySem.W.Frag) (a : Nat → Addr) (Cs : List Addr) : List D → Sto → Out D := runB (M_law_tank K a Cs) 6
abbrev N_law_draw : List Str := ["_law_tank_here", "_law_many", "_law_figure", "_law_pace"]
def M_law_draw (K : PySem.W.Frag) (a : Nat → Addr) (Cs : List Addr) : SM := sSeq (sIf (eTest (eBin gtI (eIxK (eV 0) 0) (eC (.int 0)))) (sSeq (sAsg (eFn divmodF (aCons (eIxK (eV 0) 0) (aCons (eV 1) aNil))) (gSeq 2 (gsCons (gItm (eV 0) 0) (gsCons (gVar 2) gsNil)))) (sRet (eV 2))) sNext) (sSeq (sAsg (eBin addD (eIxK (eV 0) 2) (eC (.int 1))) (gItm (eV 0) 2)) (sSeq (sSet 3 (eBin addD (eBin modI (eFn intF (aCons (eIxK (eV 0) 1) aNil)) (eC (.int 9001))) (eC (.int 30011)))) (sSeq (sAsg (eBin modI (eFn intF (aCons (eBin addD (eBin addD (eBin mulI (eIxK (eV 0) 1) (eV 3)) (eBin mulI (eC (.int 70001)) (eIxK (eV 0) 2))) (eC (.int 19))) aNil)) (eC (.int 2147483629))) (gItm (eV 0) 1)) (sRet (eBin modI (eFn intF (aCons (eBin fdivI (eIxK (eV 0) 1) (eC (.int 53))) aNil)) (eV 1))))))
def F_law_draw (K : PySem.W.Frag) (a : Nat → Addr) (Cs : List Addr) : List D → Sto → Out D := runB (M_law_draw K a Cs) 4
abbrev N_law_pick : List Str := ["_law_tank_here", "_law_some"]
def M_law_pick (K : PySem.W.Frag) (a : Nat → Addr) (Cs : List Addr) : SM := sRet (eIx (eSeq (eV 1)) (eCall (F_law_draw K a Cs) (aCons (eV 0) (aCons (eFn lenF (aCons (eV 1) aNil)) aNil))))
def F_law_pick (K : PySem.W.Frag) (a : Nat → Addr) (Cs : List Addr) : List D → Sto → Out D := runB (M_law_pick K a Cs) 2
abbrev N_law_number : List Str := ["_law_tank_here", "_law_size"]
def M_law_number (K : PySem.W.Frag) (a : Nat → Addr) (Cs : List Addr) : SM := sSeq (sSet 1 (eCall (F_law_pick K a Cs) (aCons (eV 0) (aCons (eTup (aCons (eC (.int 1)) (aCons (eC (.int 2)) (aCons (eC (.int 3)) (aCons (eC (.int 9)) (aCons (eC (.int 9)) (aCons (eC (.int 99)) (aCons (eC (.int 0)) aNil)))))))) aNil)))) (sSeq (sIf (eTest (eBin gtI (eV 1) (eC (.int 0)))) (sRet (eBin subI (eCall (F_law_draw K a Cs) (aCons (eV 0) (aCons (eBin addD (eBin mulI (eC (.int 2)) (eV 1)) (eC (.int 1))) aNil))) (eV 1))) sNext) (sRet (eBin mulI (eBin addD (eBin mulI (eCall (F_law_draw K a Cs) (aCons (eV 0) (aCons (eC (.int 1000003)) aNil))) (eC (.int 1000003))) (eCall (F_law_draw K a Cs) (aCons (eV 0) (aCons (eC (.int 1000003)) aNil)))) (eBin subI (eC (.int 1)) (eBin mulI (eC (.int 2)) (eCall (F_law_draw K a Cs) (aCons (eV 0) (aCons (eC (.int 2)) aNil))))))))
def F_law_number (K : PySem.W.Frag) (a : Nat → Addr) (Cs : List Addr) : List D → Sto → Out D := runB (M_law_number K a Cs) 2
abbrev N_law_with_given : List Str := ["_law_thing_here", "_law_found"]
def M_law_with_given (K : PySem.W.Frag) (a : Nat → Addr) (Cs : List Addr) : SM := sSeq (sSet 1 (eLst aNil)) (sSeq (sSet 1 (eBin addD (eV 1) (eLst (aCons (eExc (a 1) "given" (eV 0)) (aCons (eExc (a 2) "given" (eV 0)) (aCons (eExc (a 3) "given" (eV 0)) aNil)))))) (sSeq (sSet 1 (eBin addD (eV 1) (eLst (aCons (eExc (a 4) "given" (eV 0)) (aCons (eExc (a 5) "given" (eV 0)) (aCons (eExc (a 6) "given" (eV 0)) (aCons (eExc (a 7) "given" (eV 0)) aNil))))))) (sSeq (sSet 1 (eBin addD (eV 1) (eLst (aCons (eExc (a 8) "given" (eV 0)) (aCons (eExc (a 9) "given" (eV 0)) (aCons (eExc (a 10) "given" (eV 0)) (aCons (eExc (a 11) "given" (eV 0)) aNil))))))) (sSeq (sSet 1 (eBin addD (eV 1) (eLst (aCons (eExc (a 12) "given" (eV 0)) (aCons (eExc (a 13) "given" (eV 0)) (aCons (eExc (a 14) "given" (eV 0)) aNil)))))) (sSeq (sSet 1 (eBin addD (eV 1) (eLst (aCons (eExc (a 15) "given" (eV 0)) (aCons (eExc (a 16) "given" (eV 0)) (aCons (eExc (a 17) "given" (eV 0)) aNil)))))) (sSeq (sSet 1 (eBin addD (eV 1) (eLst (aCons (eExc (a 18) "given" (eV 0)) (aCons (eExc (a 19) "given" (eV 0)) (aCons (eExc (a 20) "given" (eV 0)) (aCons (eExc (a 21) "given" (eV 0)) aNil))))))) (sSeq (sSet 1 (eBin addD (eV 1) (eLst (aCons (eExc (a 22) "given" (eV 0)) (aCons (eExc (a 23) "given" (eV 0)) (aCons (eExc (a 24) "given" (eV 0)) (aCons (eExc (a 25) "given" (eV 0)) aNil))))))) (sSeq (sSet 1 (eBin addD (eV 1) (eLst (aCons (eExc (a 26) "given" (eV 0)) (aCons (eExc (a 27) "given" (eV 0)) (aCons (eExc (a 28) "given" (eV 0)) (aCons (eExc (a 29) "given" (eV 0)) aNil))))))) (sSeq (sSet 1 (eBin addD (eV 1) (eLst (aCons (eExc (a 30) "given" (eV 0)) (aCons (eExc (a 31) "given" (eV 0)) (aCons (eExc (a 32) "given" (eV 0)) (aCons (eExc (a 33) "given" (eV 0)) (aCons (eExc (a 34) "given" (eV 0)) aNil)))))))) (sSeq (sSet 1 (eBin addD (eV 1) (eLst (aCons (eExc (a 35) "given" (eV 0)) aNil)))) (sRet (eV 1))))))))))))
def F_law_with_given (K : PySem.W.Frag) (a : Nat → Addr) (Cs : List Addr) : List D → Sto → Out D := runB (M_law_with_given K a Cs) 2
abbrev N_law_with_given_named : List Str := ["_law_thing_here", "_law_found"]
def M_law_with_given_named (K : PySem.W.Frag) (a : Nat → Addr) (Cs : List Addr) : SM := sSeq (sSet 1 (eLst aNil)) (sSeq (sSet 1 (eBin addD (eV 1) (eLst (aCons (eExc (a 1) "given" (eV 0)) (aCons (eExc (a 2) "given" (eV 0)) (aCons (eExc (a 3) "given" (eV 0)) aNil)))))) (sSeq (sSet 1 (eBin addD (eV 1) (eLst (aCons (eExc (a 4) "given" (eV 0)) (aCons (eExc (a 5) "given" (eV 0)) (aCons (eExc (a 6) "given" (eV 0)) aNil)))))) (sSeq (sSet 1 (eBin addD (eV 1) (eLst (aCons (eExc (a 7) "given" (eV 0)) (aCons (eExc (a 8) "given" (eV 0)) (aCons (eExc (a 9) "given" (eV 0)) aNil)))))) (sSeq (sSet 1 (eBin addD (eV 1) (eLst (aCons (eExc (a 10) "given" (eV 0)) (aCons (eExc (a 11) "given" (eV 0)) (aCons (eExc (a 12) "given" (eV 0)) aNil)))))) (sSeq (sSet 1 (eBin addD (eV 1) (eLst (aCons (eExc (a 13) "given" (eV 0)) (aCons (eExc (a 14) "given" (eV 0)) aNil))))) (sSeq (sSet 1 (eBin addD (eV 1) (eLst (aCons (eExc (a 15) "given" (eV 0)) (aCons (eExc (a 16) "given" (eV 0)) (aCons (eExc (a 17) "given" (eV 0)) aNil)))))) (sSeq (sSet 1 (eBin addD (eV 1) (eLst (aCons (eExc (a 18) "given" (eV 0)) (aCons (eExc (a 19) "given" (eV 0)) (aCons (eExc (a 20) "given" (eV 0)) aNil)))))) (sSeq (sSet 1 (eBin addD (eV 1) (eLst (aCons (eExc (a 21) "given" (eV 0)) (aCons (eExc (a 22) "given" (eV 0)) (aCons (eExc (a 23) "given" (eV 0)) aNil)))))) (sSeq (sSet 1 (eBin addD (eV 1) (eLst (aCons (eExc (a 24) "given" (eV 0)) (aCons (eExc (a 25) "given" (eV 0)) (aCons (eExc (a 26) "given" (eV 0)) aNil)))))) (sSeq (sSet 1 (eBin addD (eV 1) (eLst (aCons (eExc (a 27) "given" (eV 0)) (aCons (eExc (a 28) "given" (eV 0)) (aCons (eExc (a 29) "given" (eV 0)) aNil)))))) (sSeq (sSet 1 (eBin addD (eV 1) (eLst (aCons (eExc (a 30) "given" (eV 0)) (aCons (eExc (a 31) "given" (eV 0)) (aCons (eExc (a 32) "given" (eV 0)) aNil)))))) (sSeq (sSet 1 (eBin addD (eV 1) (eLst (aCons (eExc (a 33) "given" (eV 0)) (aCons (eExc (a 34) "given" (eV 0)) (aCons (eExc (a 35) "given" (eV 0)) aNil)))))) (sRet (eV 1))))))))))))))
def F_law_with_given_named (K : PySem.W.Frag) (a : Nat → Addr) (Cs : List Addr) : List D → Sto → Out D := runB (M_law_with_given_named K a Cs) 2
abbrev N_law_with_index : List Str := ["_law_thing_here", "_law_found"]
def M_law_with_index (K : PySem.W.Frag) (a : Nat → Addr) (Cs : List Addr) : SM := sSeq (sSet 1 (eLst aNil)) (sSeq (sSet 1 (eBin addD (eV 1) (eLst (aCons (eExc (a 36) "index" (eV 0)) (aCons (eExc (a 37) "index" (eV 0)) (aCons (eExc (a 38) "index" (eV 0)) (aCons (eExc (a 39) "index" (eV 0)) aNil))))))) (sSeq (sSet 1 (eBin addD (eV 1) (eLst (aCons (eExc (a 40) "index" (eV 0)) (aCons (eExc (a 41) "index" (eV 0)) (aCons (eExc (a 42) "index" (eV 0)) (aCons (eExc (a 43) "index" (eV 0)) aNil))))))) (sSeq (sSet 1 (eBin addD (eV 1) (eLst (aCons (eExc (a 44) "index" (eV 0)) aNil)))) (sRet (eV 1)))))
def F_law_with_index (K : PySem.W.Frag) (a : Nat → Addr) (Cs : List Addr) : List D → Sto → Out D := runB (M_law_with_index K a Cs) 2
abbrev N_law_with_index_named : List Str := ["_law_thing_here", "_law_found"]
def M_law_with_index_named (K : PySem.W.Frag) (a : Nat → Addr) (Cs : List Addr) : SM := sSeq (sSet 1 (eLst aNil)) (sSeq (sSet 1 (eBin addD (eV 1) (eLst (aCons (eExc (a 36) "index" (eV 0)) (aCons (eExc (a 37) "index" (eV 0)) (aCons (eExc (a 38) "index" (eV 0)) aNil)))))) (sSeq (sSet 1 (eBin addD (eV 1) (eLst (aCons (eExc (a 39) "index" (eV 0)) (aCons (eExc (a 40) "index" (eV 0)) (aCons (eExc (a 41) "index" (eV 0)) aNil)))))) (sSeq (sSet 1 (eBin addD (eV 1) (eLst (aCons (eExc (a 42) "index" (eV 0)) (aCons (eExc (a 43) "index" (eV 0)) (aCons (eExc (a 44) "index" (eV 0)) aNil)))))) (sRet (eV 1)))))
def F_law_with_index_named (K : PySem.W.Frag) (a : Nat → Addr) (Cs : List Addr) : List D → Sto → Out D := runB (M_law_with_index_named K a Cs) 2
abbrev N_law_bare : List Str := []
def M_law_bare (K : PySem.W.Frag) (a : Nat → Addr) (Cs : List Addr) : SM := sRet (eLst (aCons (eExc0 (a 45)) (aCons (eExc0 (a 46)) (aCons (eExc0 (a 47)) (aCons (eExc0 (a 48)) (aCons (eExc0 (a 49)) (aCons (eExc0 (a 50)) (aCons (eExc0 (a 51)) (aCons (eExc0 (a 52)) aNil)))))))))
def F_law_bare (K : PySem.W.Frag) (a : Nat → Addr) (Cs : List Addr) : List D → Sto → Out D := runB (M_law_bare K a Cs) 0
abbrev N_law_marks : List Str := ["_law_e", "_law_found"]
def M_law_marks (K : PySem.W.Frag) (a : Nat → Addr) (Cs : List Addr) : SM := sSeq (sSet 1 (eLst aNil)) (sSeq (sSet 1 (eBin addD (eV 1) (eLst (aCons (eUn (isiF K Cs (.ref (a 1))) (eV 0)) (aCons (eUn (isiF K Cs (.ref (a 2))) (eV 0)) aNil))))) (sSeq (sSet 1 (eBin addD (eV 1) (eLst (aCons (eUn (isiF K Cs (.ref (a 3))) (eV 0)) (aCons (eUn (isiF K Cs (.ref (a 4))) (eV 0)) (aCons (eUn (isiF K Cs (.ref (a 5))) (eV 0)) aNil)))))) (sSeq (sSet 1 (eBin addD (eV 1) (eLst (aCons (eUn (isiF K Cs (.ref (a 6))) (eV 0)) (aCons (eUn (isiF K Cs (.ref (a 7))) (eV 0)) (aCons (eUn (isiF K Cs (.ref (a 8))) (eV 0)) aNil)))))) (sSeq (sSet 1 (eBin addD (eV 1) (eLst (aCons (eUn (isiF K Cs (.ref (a 9))) (eV 0)) (aCons (eUn (isiF K Cs (.ref (a 10))) (eV 0)) aNil))))) (sSeq (sSet 1 (eBin addD (eV 1) (eLst (aCons (eUn (isiF K Cs (.ref (a 11))) (eV 0)) (aCons (eUn (isiF K Cs (.ref (a 12))) (eV 0)) aNil))))) (sSeq (sSet 1 (eBin addD (eV 1) (eLst (aCons (eUn (isiF K Cs (.ref (a 13))) (eV 0)) (aCons (eUn (isiF K Cs (.ref (a 14))) (eV 0)) aNil))))) (sSeq (sSet 1 (eBin addD (eV 1) (eLst (aCons (eUn (isiF K Cs (.ref (a 15))) (eV 0)) (aCons (eUn (isiF K Cs (.ref (a 16))) (eV 0)) aNil))))) (sSeq (sSet 1 (eBin addD (eV 1) (eLst (aCons (eUn (isiF K Cs (.ref (a 17))) (eV 0)) (aCons (eUn (isiF K Cs (.ref (a 18))) (eV 0)) aNil))))) (sSeq (sSet 1 (eBin addD (eV 1) (eLst (aCons (eUn (isiF K Cs (.ref (a 19))) (eV 0)) (aCons (eUn (isiF K Cs (.ref (a 20))) (eV 0)) (aCons (eUn (isiF K Cs (.ref (a 21))) (eV 0)) aNil)))))) (sSeq (sSet 1 (eBin addD (eV 1) (eLst (aCons (eUn (isiF K Cs (.ref (a 22))) (eV 0)) (aCons (eUn (isiF K Cs (.ref (a 23))) (eV 0)) (aCons (eUn (isiF K Cs (.ref (a 24))) (eV 0)) aNil)))))) (sSeq (sSet 1 (eBin addD (eV 1) (eLst (aCons (eUn (isiF K Cs (.ref (a 25))) (eV 0)) (aCons (eUn (isiF K Cs (.ref (a 26))) (eV 0)) aNil))))) (sSeq (sSet 1 (eBin addD (eV 1) (eLst (aCons (eUn (isiF K Cs (.ref (a 27))) (eV 0)) (aCons (eUn (isiF K Cs (.ref (a 28))) (eV 0)) (aCons (eUn (isiF K Cs (.ref (a 29))) (eV 0)) aNil)))))) (sSeq (sSet 1 (eBin addD (eV 1) (eLst (aCons (eUn (isiF K Cs (.ref (a 30))) (eV 0)) (aCons (eUn (isiF K Cs (.ref (a 31))) (eV 0)) (aCons (eUn (isiF K Cs (.ref (a 32))) (eV 0)) aNil)))))) (sSeq (sSet 1 (eBin addD (eV 1) (eLst (aCons (eUn (isiF K Cs (.ref (a 33))) (eV 0)) (aCons (eUn (isiF K Cs (.ref (a 34))) (eV 0)) (aCons (eUn (isiF K Cs (.ref (a 35))) (eV 0)) aNil)))))) (sSeq (sSet 1 (eBin addD (eV 1) (eLst (aCons (eUn (isiF K Cs (.ref (a 36))) (eV 0)) (aCons (eUn (isiF K Cs (.ref (a 37))) (eV 0)) aNil))))) (sSeq (sSet 1 (eBin addD (eV 1) (eLst (aCons (eUn (isiF K Cs (.ref (a 38))) (eV 0)) (aCons (eUn (isiF K Cs (.ref (a 39))) (eV 0)) aNil))))) (sSeq (sSet 1 (eBin addD (eV 1) (eLst (aCons (eUn (isiF K Cs (.ref (a 40))) (eV 0)) (aCons (eUn (isiF K Cs (.ref (a 41))) (eV 0)) aNil))))) (sSeq (sSet 1 (eBin addD (eV 1) (eLst (aCons (eUn (isiF K Cs (.ref (a 42))) (eV 0)) (aCons (eUn (isiF K Cs (.ref (a 43))) (eV 0)) (aCons (eUn (isiF K Cs (.ref (a 44))) (eV 0)) aNil)))))) (sSeq (sSet 1 (eBin addD (eV 1) (eLst (aCons (eUn (isiF K Cs (.ref (a 45))) (eV 0)) (aCons (eUn (isiF K Cs (.ref (a 46))) (eV 0)) (aCons (eUn (isiF K Cs (.ref (a 47))) (eV 0)) aNil)))))) (sSeq (sSet 1 (eBin addD (eV 1) (eLst (aCons (eUn (isiF K Cs (.ref (a 48))) (eV 0)) (aCons (eUn (isiF K Cs (.ref (a 49))) (eV 0)) (aCons (eUn (isiF K Cs (.ref (a 50))) (eV 0)) aNil)))))) (sSeq (sSet 1 (eBin addD (eV 1) (eLst (aCons (eUn (isiF K Cs (.ref (a 51))) (eV 0)) (aCons (eUn (isiF K Cs (.ref (a 52))) (eV 0)) aNil))))) (sRet (eV 1)))))))))))))))))))))))
def F_law_marks (K : PySem.W.Frag) (a : Nat → Addr) (Cs : List Addr) : List D → Sto → Out D := runB (M_law_marks K a Cs) 2
abbrev N_law_is_under : List Str := ["_law_e"]
def M_law_is_under (K : PySem.W.Frag) (a : Nat → Addr) (Cs : List Addr) : SM := sSeq (sIf (tOr' (tNot' (eTest (eUn (isiF K Cs (.ref (a 0))) (eV 0)))) (tNot' (eTest (eUn (isiF K Cs (.type "ValueError")) (eV 0))))) (sRet (eC (.bl false))) sNext) (sSeq (sIf (tOr' (eTest (eUn (isiF K Cs (.type "LookupError")) (eV 0))) (eTest (eUn (isiF K Cs (.type "ArithmeticError")) (eV 0)))) (sRet (eC (.bl false))) sNext) (sRet (eAnd (eNot (eUn (isiF K Cs (.type "TypeError")) (eV 0))) (eNot (eUn (isiF K Cs (.type "RuntimeError")) (eV 0))))))
def F_law_is_under (K : PySem.W.Frag) (a : Nat → Addr) (Cs : List Addr) : List D → Sto → Out D := runB (M_law_is_under K a Cs) 1
abbrev N_law_stand : List Str := ["_law_errors", "_law_start", "_law_at", "_law_marks_here", "_law_k"]
def M_law_stand (K : PySem.W.Frag) (a : Nat → Addr) (Cs : List Addr) : SM := sSeq (sFor (iRng (aCons (eFn lenF (aCons (eV 0) aNil)) aNil)) (gVar 2) (sSeq (sSet 3 (eCall (F_law_marks K a Cs) (aCons (eIx (eSeq (eV 0)) (eV 2)) aNil))) (sIf (tOr' (eTest (eBin neD (eLc [4] (iRng (aCons (eFn lenF (aCons (eV 3) aNil)) aNil)) (gVar 4) (eTest (eBin isntB (eIx (eSeq (eV 3)) (eV 4)) (eC (.bl false)))) (eV 4)) (eLst (aCons (eBin addD (eV 1) (eV 2)) aNil)))) (tNot' (eTest (eCall (F_law_is_under K a Cs) (aCons (eIx (eSeq (eV 0)) (eV 2)) aNil))))) (sRet (eC (.bl false))) sNext))) (sRet (eC (.bl true)))
def F_law_stand (K : PySem.W.Frag) (a : Nat → Addr) (Cs : List Addr) : List D → Sto → Out D := runB (M_law_stand K a Cs) 5
abbrev N_law_thing : List Str := ["_law_tank_here", "_law_some", "_law_thing_here"]
def M_law_thing (K : PySem.W.Frag) (a : Nat → Addr) (Cs : List Addr) : SM := sSeq (sSet 1 (eTup (aCons (eC .non) (aCons (eC (.bl true)) (aCons (eC (.bl false)) (aCons (eC (.int 0)) (aCons (eUn negI (eC (.int 7))) (aCons (eC (.str "")) (aCons (eC (.str "arm")) (aCons (eTup aNil) (aCons (eTup (aCons (eC (.int 1)) (aCons (eC (.int 0)) (aCons (eUn negI (eC (.int 2))) aNil)))) (aCons (eLst aNil) (aCons (eLst (aCons (eC (.int 1)) (aCons (eLst (aCons (eC (.int 2)) aNil)) aNil))) (aCons (eDsi [("x", 1)]) (aCons (eTup (aCons (eTup (aCons (eC (.int 0)) (aCons (eC (.int 1)) aNil))) (aCons (eC .non) aNil))) (aCons (eC (.str "a b")) aNil)))))))))))))))) (sSeq (sSet 2 (eCall (F_law_pick K a Cs) (aCons (eV 0) (aCons (eV 1) aNil)))) (sRet (eIte (eTest (eBin eqD (eCall (F_law_draw K a Cs) (aCons (eV 0) (aCons (eC (.int 3)) aNil))) (eC (.int 0)))) (eCall (F_law_number K a Cs) (aCons (eV 0) aNil)) (eV 2))))
def F_law_thing (K : PySem.W.Frag) (a : Nat → Addr) (Cs : List Addr) : List D → Sto → Out D := runB (M_law_thing K a Cs) 3
abbrev N_law_right : List Str := ["_law_tank_here", "_law_thing_here", "_law_other", "_law_first", "_law_second", "_law_third", "_law_fourth", "_law_base", "_law_e"]
def M_law_right (K : PySem.W.Frag) (a : Nat → Addr) (Cs : List Addr) : SM := sSeq (sAsg (eTup (aCons (eCall (F_law_thing K a Cs) (aCons (eV 0) aNil)) (aCons (eCall (F_law_thing K a Cs) (aCons (eV 0) aNil)) aNil))) (gSeq 2 (gsCons (gVar 1) (gsCons (gVar 2) gsNil)))) (sSeq (sPar 3 4 (aCons (eCall (F_law_with_given K a Cs) (aCons (eV 1) aNil)) (aCons (eCall (F_law_with_given_named K a Cs) (aCons (eV 2) aNil)) aNil))) (sSeq (sPar 5 6 (aCons (eCall (F_law_with_index K a Cs) (aCons (eV 2) aNil)) (aCons (eCall (F_law_with_index_named K a Cs) (aCons (eV 1) aNil)) aNil))) (sSeq (sIf (tOr' (eTest (eBin neD (eLc [8] (iSeq (eV 3)) (gVar 8) (eTest (eBin neD (eFn reprF (aCons (eUn (xfl Cs "given") (eV 8)) aNil)) (eFn reprF (aCons (eV 1) aNil)))) (eUn (xfl Cs "given") (eV 8))) (eLst aNil))) (eTest (eBin neD (eFn lenF (aCons (eV 3) aNil)) (eC (.int 35))))) (sRet (eC (.bl false))) sNext) (sSeq (sIf (eTest (eBin neD (eLc [8] (iSeq (eV 4)) (gVar 8) (eTest (eBin neD (eFn reprF (aCons (eUn (xfl Cs "given") (eV 8)) aNil)) (eFn reprF (aCons (eV 2) aNil)))) (eUn (xfl Cs "given") (eV 8))) (eLst aNil))) (sRet (eC (.bl false))) sNext) (sSeq (sIf (eTest (eBin neD (eLc [8] (iSeq (eV 5)) (gVar 8) (eTest (eBin neD (eFn reprF (aCons (eUn (xfl Cs "index") (eV 8)) aNil)) (eFn reprF (aCons (eV 2) aNil)))) (eUn (xfl Cs "index") (eV 8))) (eLst aNil))) (sRet (eC (.bl false))) sNext) (sSeq (sIf (eTest (eBin neD (eLc [8] (iSeq (eV 6)) (gVar 8) (eTest (eBin neD (eFn reprF (aCons (eUn (xfl Cs "index") (eV 8)) aNil)) (eFn reprF (aCons (eV 1) aNil)))) (eUn (xfl Cs "index") (eV 8))) (eLst aNil))) (sRet (eC (.bl false))) sNext) (sSeq (sIf (tNot' (eTest (eCall (F_law_stand K a Cs) (aCons (eIte (eTest (eBin eqD (eCall (F_law_draw K a Cs) (aCons (eV 0) (aCons (eC (.int 2)) aNil))) (eC (.int 0)))) (eV 3) (eV 4)) (aCons (eC (.int 0)) aNil))))) (sRet (eC (.bl false))) sNext) (sSeq (sIf (tOr' (tNot' (eTest (eCall (F_law_stand K a Cs) (aCons (eIte (eTest (eBin eqD (eCall (F_law_draw K a Cs) (aCons (eV 0) (aCons (eC (.int 2)) aNil))) (eC (.int 0)))) (eV 5) (eV 6)) (aCons (eC (.int 35)) aNil))))) (tNot' (eTest (eCall (F_law_stand K a Cs) (aCons (eCall (F_law_bare K a Cs) aNil) (aCons (eC (.int 44)) aNil)))))) (sRet (eC (.bl false))) sNext) (sSeq (sSet 7 (eExc0 (a 0))) (sRet (eAnd (eNotIn (eC (.bl true)) (eSeq (eCall (F_law_marks K a Cs) (aCons (eV 7) aNil)))) (eCall (F_law_is_under K a Cs) (aCons (eV 7) aNil)))))))))))))
def F_law_right (K : PySem.W.Frag) (a : Nat → Addr) (Cs : List Addr) : List D → Sto → Out D := runB (M_law_right K a Cs) 9
abbrev Nlaw : List Str := ["_law_script", "_law_spot"]
def Mlaw (K : PySem.W.Frag) (a : Nat → Addr) (Cs : List Addr) : SM := sSeq (sFor (iRng (aCons (eC (.int 2)) aNil)) (gVar 1) (sIf (tNot' (eTest (eCall (F_law_right K a Cs) (aCons (eCall (F_law_tank K a Cs) (aCons (eV 0) (aCons (eV 1) aNil))) aNil)))) (sRet (eC (.bl false))) sNext)) (sRet (eC (.bl true)))
def Flaw (K : PySem.W.Frag) (a : Nat → Addr) (Cs : List Addr) : List D → Sto → Out D := runB (Mlaw K a Cs) 2
end
/-! ### what the top has written -/
structure Txt (K : PySem.W.Frag) (mg : Str → Option Value) (a : Nat → Addr) (Cs : List Addr) (fI : Nat → Addr) (gI : Nat → FuncData) (fa : Nat → Addr) (fd : Nat → FuncData) : Prop where
  q0 : PySem.W.excIn K (a 0) PySem.HandSPX.veTail "ValueError.__new__" = true
  k0 : PySem.W.keepIn K (.ref (a 0)) = true
  n0 : mg "ArmError" = some (.ref (a 0))
  c1 : XCls K mg "InvalidComplex" (a 1) "given" (fI 1) (gI 1) "InvalidComplex.__init__" i_InvalidComplex
  n1 : mg "InvalidComplex" = some (.ref (a 1))
  c2 : XCls K mg "InvalidNumbers" (a 2) "given" (fI 2) (gI 2) "InvalidNumbers.__init__" i_InvalidNumbers
  n2 : mg "InvalidNumbers" = some (.ref (a 2))
  c3 : XCls K mg "InvalidPlace" (a 3) "given" (fI 3) (gI 3) "InvalidPlace.__init__" i_InvalidPlace
  n3 : mg "InvalidPlace" = some (.ref (a 3))
  c4 : XCls K mg "InvalidRatio" (a 4) "given" (fI 4) (gI 4) "InvalidRatio.__init__" i_InvalidRatio
  n4 : mg "InvalidRatio" = some (.ref (a 4))
  c5 : XCls K mg "InvalidRow" (a 5) "given" (fI 5) (gI 5) "InvalidRow.__init__" i_InvalidRow
  n5 : mg "InvalidRow" = some (.ref (a 5))
  c6 : XCls K mg "InvalidRound" (a 6) "given" (fI 6) (gI 6) "InvalidRound.__init__" i_InvalidRound
  n6 : mg "InvalidRound" = some (.ref (a 6))
  c7 : XCls K mg "InvalidLine" (a 7) "given" (fI 7) (gI 7) "InvalidLine.__init__" i_InvalidLine
  n7 : mg "InvalidLine" = some (.ref (a 7))
  c8 : XCls K mg "InvalidMap" (a 8) "given" (fI 8) (gI 8) "InvalidMap.__init__" i_InvalidMap
  n8 : mg "InvalidMap" = some (.ref (a 8))
  c9 : XCls K mg "InvalidFlag" (a 9) "given" (fI 9) (gI 9) "InvalidFlag.__init__" i_InvalidFlag
  n9 : mg "InvalidFlag" = some (.ref (a 9))
  c10 : XCls K mg "InvalidNumber" (a 10) "given" (fI 10) (gI 10) "InvalidNumber.__init__" i_InvalidNumber
  n10 : mg "InvalidNumber" = some (.ref (a 10))
  c11 : XCls K mg "InvalidCell" (a 11) "given" (fI 11) (gI 11) "InvalidCell.__init__" i_InvalidCell
  n11 : mg "InvalidCell" = some (.ref (a 11))
  c12 : XCls K mg "InvalidHand" (a 12) "given" (fI 12) (gI 12) "InvalidHand.__init__" i_InvalidHand
  n12 : mg "InvalidHand" = some (.ref (a 12))
  c13 : XCls K mg "InvalidMirrorRow" (a 13) "given" (fI 13) (gI 13) "InvalidMirrorRow.__init__" i_InvalidMirrorRow
  n13 : mg "InvalidMirrorRow" = some (.ref (a 13))
  c14 : XCls K mg "InvalidRing" (a 14) "given" (fI 14) (gI 14) "InvalidRing.__init__" i_InvalidRing
  n14 : mg "InvalidRing" = some (.ref (a 14))
  c15 : XCls K mg "InvalidExponents" (a 15) "given" (fI 15) (gI 15) "InvalidExponents.__init__" i_InvalidExponents
  n15 : mg "InvalidExponents" = some (.ref (a 15))
  c16 : XCls K mg "InvalidSize" (a 16) "given" (fI 16) (gI 16) "InvalidSize.__init__" i_InvalidSize
  n16 : mg "InvalidSize" = some (.ref (a 16))
  c17 : XCls K mg "InvalidStage" (a 17) "given" (fI 17) (gI 17) "InvalidStage.__init__" i_InvalidStage
  n17 : mg "InvalidStage" = some (.ref (a 17))
  c18 : XCls K mg "InvalidIndex" (a 18) "given" (fI 18) (gI 18) "InvalidIndex.__init__" i_InvalidIndex
  n18 : mg "InvalidIndex" = some (.ref (a 18))
  c19 : XCls K mg "InvalidPart" (a 19) "given" (fI 19) (gI 19) "InvalidPart.__init__" i_InvalidPart
  n19 : mg "InvalidPart" = some (.ref (a 19))
  c20 : XCls K mg "InvalidValue" (a 20) "given" (fI 20) (gI 20) "InvalidValue.__init__" i_InvalidValue
  n20 : mg "InvalidValue" = some (.ref (a 20))
  c21 : XCls K mg "InvalidName" (a 21) "given" (fI 21) (gI 21) "InvalidName.__init__" i_InvalidName
  n21 : mg "InvalidName" = some (.ref (a 21))
  c22 : XCls K mg "InvalidWish" (a 22) "given" (fI 22) (gI 22) "InvalidWish.__init__" i_InvalidWish
  n22 : mg "InvalidWish" = some (.ref (a 22))
  c23 : XCls K mg "InvalidPhrase" (a 23) "given" (fI 23) (gI 23) "InvalidPhrase.__init__" i_InvalidPhrase
  n23 : mg "InvalidPhrase" = some (.ref (a 23))
  c24 : XCls K mg "InvalidLot" (a 24) "given" (fI 24) (gI 24) "InvalidLot.__init__" i_InvalidLot
  n24 : mg "InvalidLot" = some (.ref (a 24))
  c25 : XCls K mg "InvalidFraction" (a 25) "given" (fI 25) (gI 25) "InvalidFraction.__init__" i_InvalidFraction
  n25 : mg "InvalidFraction" = some (.ref (a 25))
  c26 : XCls K mg "InvalidSign" (a 26) "given" (fI 26) (gI 26) "InvalidSign.__init__" i_InvalidSign
  n26 : mg "InvalidSign" = some (.ref (a 26))
  c27 : XCls K mg "InvalidArc" (a 27) "given" (fI 27) (gI 27) "InvalidArc.__init__" i_InvalidArc
  n27 : mg "InvalidArc" = some (.ref (a 27))
  c28 : XCls K mg "NotALot" (a 28) "given" (fI 28) (gI 28) "NotALot.__init__" i_NotALot
  n28 : mg "NotALot" = some (.ref (a 28))
  c29 : XCls K mg "NotAWorkshop" (a 29) "given" (fI 29) (gI 29) "NotAWorkshop.__init__" i_NotAWorkshop
  n29 : mg "NotAWorkshop" = some (.ref (a 29))
  c30 : XCls K mg "NoMeeting" (a 30) "given" (fI 30) (gI 30) "NoMeeting.__init__" i_NoMeeting
  n30 : mg "NoMeeting" = some (.ref (a 30))
  c31 : XCls K mg "NoLink" (a 31) "given" (fI 31) (gI 31) "NoLink.__init__" i_NoLink
  n31 : mg "NoLink" = some (.ref (a 31))
  c32 : XCls K mg "OnCurve" (a 32) "given" (fI 32) (gI 32) "OnCurve.__init__" i_OnCurve
  n32 : mg "OnCurve" = some (.ref (a 32))
  c33 : XCls K mg "Same" (a 33) "given" (fI 33) (gI 33) "Same.__init__" i_Same
  n33 : mg "Same" = some (.ref (a 33))
  c34 : XCls K mg "TooMany" (a 34) "given" (fI 34) (gI 34) "TooMany.__init__" i_TooMany
  n34 : mg "TooMany" = some (.ref (a 34))
  c35 : XCls K mg "UnknownName" (a 35) "given" (fI 35) (gI 35) "UnknownName.__init__" i_UnknownName
  n35 : mg "UnknownName" = some (.ref (a 35))
  c36 : XCls K mg "InvalidTriple" (a 36) "index" (fI 36) (gI 36) "InvalidTriple.__init__" i_InvalidTriple
  n36 : mg "InvalidTriple" = some (.ref (a 36))
  c37 : XCls K mg "InvalidArm" (a 37) "index" (fI 37) (gI 37) "InvalidArm.__init__" i_InvalidArm
  n37 : mg "InvalidArm" = some (.ref (a 37))
  c38 : XCls K mg "InvalidRounds" (a 38) "index" (fI 38) (gI 38) "InvalidRounds.__init__" i_InvalidRounds
  n38 : mg "InvalidRounds" = some (.ref (a 38))
  c39 : XCls K mg "InvalidCurve" (a 39) "index" (fI 39) (gI 39) "InvalidCurve.__init__" i_InvalidCurve
  n39 : mg "InvalidCurve" = some (.ref (a 39))
  c40 : XCls K mg "InvalidTests" (a 40) "index" (fI 40) (gI 40) "InvalidTests.__init__" i_InvalidTests
  n40 : mg "InvalidTests" = some (.ref (a 40))
  c41 : XCls K mg "InvalidStock" (a 41) "index" (fI 41) (gI 41) "InvalidStock.__init__" i_InvalidStock
  n41 : mg "InvalidStock" = some (.ref (a 41))
  c42 : XCls K mg "InvalidKinds" (a 42) "index" (fI 42) (gI 42) "InvalidKinds.__init__" i_InvalidKinds
  n42 : mg "InvalidKinds" = some (.ref (a 42))
  c43 : XCls K mg "InUse" (a 43) "index" (fI 43) (gI 43) "InUse.__init__" i_InUse
  n43 : mg "InUse" = some (.ref (a 43))
  c44 : XCls K mg "Broken" (a 44) "index" (fI 44) (gI 44) "Broken.__init__" i_Broken
  n44 : mg "Broken" = some (.ref (a 44))
  q45 : PySem.W.excIn K (a 45) PySem.HandSPX.veTail "ValueError.__new__" = true
  k45 : PySem.W.keepIn K (.ref (a 45)) = true
  n45 : mg "NoPlace" = some (.ref (a 45))
  q46 : PySem.W.excIn K (a 46) PySem.HandSPX.veTail "ValueError.__new__" = true
  k46 : PySem.W.keepIn K (.ref (a 46)) = true
  n46 : mg "NoMap" = some (.ref (a 46))
  q47 : PySem.W.excIn K (a 47) PySem.HandSPX.veTail "ValueError.__new__" = true
  k47 : PySem.W.keepIn K (.ref (a 47)) = true
  n47 : mg "NoMapFits" = some (.ref (a 47))
  q48 : PySem.W.excIn K (a 48) PySem.HandSPX.veTail "ValueError.__new__" = true
  k48 : PySem.W.keepIn K (.ref (a 48)) = true
  n48 : mg "NoRowFits" = some (.ref (a 48))
  q49 : PySem.W.excIn K (a 49) PySem.HandSPX.veTail "ValueError.__new__" = true
  k49 : PySem.W.keepIn K (.ref (a 49)) = true
  n49 : mg "NotClosed" = some (.ref (a 49))
  q50 : PySem.W.excIn K (a 50) PySem.HandSPX.veTail "ValueError.__new__" = true
  k50 : PySem.W.keepIn K (.ref (a 50)) = true
  n50 : mg "NotSimple" = some (.ref (a 50))
  q51 : PySem.W.excIn K (a 51) PySem.HandSPX.veTail "ValueError.__new__" = true
  k51 : PySem.W.keepIn K (.ref (a 51)) = true
  n51 : mg "Meets" = some (.ref (a 51))
  q52 : PySem.W.excIn K (a 52) PySem.HandSPX.veTail "ValueError.__new__" = true
  k52 : PySem.W.keepIn K (.ref (a 52)) = true
  n52 : mg "NothingToUndo" = some (.ref (a 52))
  f_law_tank : Fun K "_law_tank" "_law_tank" s_law_tank (fa 0) (fd 0)
  b_law_tank : Binds K (fd 0) ["_law_script", "_law_spot"] []
  m_law_tank : mg "_law_tank" = some (.ref (fa 0))
  f_law_draw : Fun K "_law_draw" "_law_draw" s_law_draw (fa 1) (fd 1)
  b_law_draw : Binds K (fd 1) ["_law_tank_here", "_law_many"] []
  m_law_draw : mg "_law_draw" = some (.ref (fa 1))
  f_law_pick : Fun K "_law_pick" "_law_pick" s_law_pick (fa 2) (fd 2)
  b_law_pick : Binds K (fd 2) ["_law_tank_here", "_law_some"] []
  m_law_pick : mg "_law_pick" = some (.ref (fa 2))
  f_law_number : Fun K "_law_number" "_law_number" s_law_number (fa 3) (fd 3)
  b_law_number : Binds K (fd 3) ["_law_tank_here"] []
  m_law_number : mg "_law_number" = some (.ref (fa 3))
  f_law_with_given : Fun K "_law_with_given" "_law_with_given" s_law_with_given (fa 4) (fd 4)
  b_law_with_given : Binds K (fd 4) ["_law_thing_here"] []
  m_law_with_given : mg "_law_with_given" = some (.ref (fa 4))
  f_law_with_given_named : Fun K "_law_with_given_named" "_law_with_given_named" s_law_with_given_named (fa 5) (fd 5)
  b_law_with_given_named : Binds K (fd 5) ["_law_thing_here"] []
  m_law_with_given_named : mg "_law_with_given_named" = some (.ref (fa 5))
  f_law_with_index : Fun K "_law_with_index" "_law_with_index" s_law_with_index (fa 6) (fd 6)
  b_law_with_index : Binds K (fd 6) ["_law_thing_here"] []
  m_law_with_index : mg "_law_with_index" = some (.ref (fa 6))
  f_law_with_index_named : Fun K "_law_with_index_named" "_law_with_index_named" s_law_with_index_named (fa 7) (fd 7)
  b_law_with_index_named : Binds K (fd 7) ["_law_thing_here"] []
  m_law_with_index_named : mg "_law_with_index_named" = some (.ref (fa 7))
  f_law_bare : Fun K "_law_bare" "_law_bare" s_law_bare (fa 8) (fd 8)
  b_law_bare : Binds K (fd 8) [] []
  m_law_bare : mg "_law_bare" = some (.ref (fa 8))
  f_law_marks : Fun K "_law_marks" "_law_marks" s_law_marks (fa 9) (fd 9)
  b_law_marks : Binds K (fd 9) ["_law_e"] []
  m_law_marks : mg "_law_marks" = some (.ref (fa 9))
  f_law_is_under : Fun K "_law_is_under" "_law_is_under" s_law_is_under (fa 10) (fd 10)
  b_law_is_under : Binds K (fd 10) ["_law_e"] []
  m_law_is_under : mg "_law_is_under" = some (.ref (fa 10))
  f_law_stand : Fun K "_law_stand" "_law_stand" s_law_stand (fa 11) (fd 11)
  b_law_stand : Binds K (fd 11) ["_law_errors", "_law_start"] []
  m_law_stand : mg "_law_stand" = some (.ref (fa 11))
  f_law_thing : Fun K "_law_thing" "_law_thing" s_law_thing (fa 12) (fd 12)
  b_law_thing : Binds K (fd 12) ["_law_tank_here"] []
  m_law_thing : mg "_law_thing" = some (.ref (fa 12))
  f_law_right : Fun K "_law_right" "_law_right" s_law_right (fa 13) (fd 13)
  b_law_right : Binds K (fd 13) ["_law_tank_here"] []
  m_law_right : mg "_law_right" = some (.ref (fa 13))
  flaw : Fun K "law" "law" slaw (fa 14) (fd 14)
  blaw : Binds K (fd 14) ["_law_script"] []
  mlaw : mg "law" = some (.ref (fa 14))
  z_ArithmeticError : mg "ArithmeticError" = none
  z_LookupError : mg "LookupError" = none
  z_RuntimeError : mg "RuntimeError" = none
  z_TypeError : mg "TypeError" = none
  z_ValueError : mg "ValueError" = none
  z_abs : mg "abs" = none
  z_divmod : mg "divmod" = none
  z_int : mg "int" = none
  z_isinstance : mg "isinstance" = none
  z_len : mg "len" = none
  z_range : mg "range" = none
  z_repr : mg "repr" = none
  eC : ExcCs K Cs
  x_given : XflC K "given" Cs
  x_index : XflC K "index" Cs
section
variable {P : Program} {w : World} {K : PySem.W.Frag} {mg : Str → Option Value} {base : Heap} {a : Nat → Addr} {Cs : List Addr} {fI : Nat → Addr} {gI : Nat → FuncData} {fa : Nat → Addr} {fd : Nat → FuncData}
theorem sc_law_tank : FnScope N_law_tank ["_law_script", "_law_spot"] (defScope s_law_tank) := ⟨rfl, rfl, rfl, by decide +kernel, rfl, by decide +kernel, by decide +kernel⟩
theorem ok_law_tank (t : Txt K mg a Cs fI gI fa fd) : FnOk P w K mg base (L2.CX P w) 1 (fa 0) (fd 0) ["_law_script", "_law_spot"] (spD K mg 2 (F_law_tank K a Cs)) := by
  refine def_ok (k := 0) (m := M_law_tank K a Cs) t.f_law_tank sc_law_tank (fun _ _ => rfl) fun cdv A outer s H E En hr tk pa => ?_
  have hu := hr.units
  have hu2 : (A.deeper (PyProof.Rows.envOfC "_law_tank" (defScope s_law_tank) s.heap.objs.size (fa 0) cdv)).units + 65 < cLine := by have := hr.un; omega
  unfold M_law_tank
  exact dss_cons (ds_set 2 sc_law_tank.nd rfl (by first | exact Or.inl rfl | exact Or.inr rfl) (de_add de_int (de_mul de_int (de_var 1 (pv 1))))) (dss_cons (ds_for pa rfl (di_seq (de_cut (dq_val (de_var 0 (pv 0))) do_none (do_some de_int))) (dg_var 3 (pg_name (i := 3) sc_law_tank.nd rfl (by first | exact Or.inl rfl | exact Or.inr rfl))) (dss_one (ds_set 2 sc_law_tank.nd rfl (by first | exact Or.inl rfl | exact Or.inr rfl) (de_mod (de_toInt (by rfl) t.z_int (da_cons (de_add (de_add (de_mul (de_var 2 (pv 2)) de_int) (de_mod (de_toInt (by rfl) t.z_int (da_cons (de_var 3 (pv 3)) da_nil)) de_int)) de_int) da_nil)) de_int)))) (dss_cons (ds_set 4 sc_law_tank.nd rfl (by first | exact Or.inl rfl | exact Or.inr rfl) (de_ite (dt_lt (de_var 1 (pv 1)) (de_len (by rfl) t.z_len (da_cons (de_var 0 (pv 0)) da_nil))) (de_toInt (by rfl) t.z_int (da_cons (de_ix (dq_val (de_var 0 (pv 0))) (de_var 1 (pv 1))) da_nil)) (de_var 2 (pv 2)))) (dss_cons (ds_set 5 sc_law_tank.nd rfl (by first | exact Or.inl rfl | exact Or.inr rfl) (de_ite (dt_w (dw_or (dt_lt (de_var 4 (pv 4)) de_int) (dw_or1 (dt_ge (de_var 4 (pv 4)) (de_pow de_int de_int))))) (de_abs (by rfl) t.z_abs (da_cons (de_var 4 (pv 4)) da_nil)) de_int)) (dss_one (ds_ret (de_new (da_cons (de_var 5 (pv 5)) (da_cons (de_mod (de_toInt (by rfl) t.z_int (da_cons (de_add (de_add (de_mul (de_var 2 (pv 2)) de_int) (de_mul (de_mod (de_toInt (by rfl) t.z_int (da_cons (de_var 4 (pv 4)) da_nil)) de_int) de_int)) de_int) da_nil)) de_int) (da_cons de_int da_nil)))))))))
theorem sc_law_draw : FnScope N_law_draw ["_law_tank_here", "_law_many"] (defScope s_law_draw) := ⟨rfl, rfl, rfl, by decide +kernel, rfl, by decide +kernel, by decide +kernel⟩
theorem ok_law_draw (t : Txt K mg a Cs fI gI fa fd) : FnOk P w K mg base (L2.CX P w) 1 (fa 1) (fd 1) ["_law_tank_here", "_law_many"] (spD K mg 2 (F_law_draw K a Cs)) := by
  refine def_ok (k := 0) (m := M_law_draw K a Cs) t.f_law_draw sc_law_draw (fun _ _ => rfl) fun cdv A outer s H E En hr tk pa => ?_
  have hu := hr.units
  have hu2 : (A.deeper (PyProof.Rows.envOfC "_law_draw" (defScope s_law_draw) s.heap.objs.size (fa 1) cdv)).units + 65 < cLine := by have := hr.un; omega
  unfold M_law_draw
  exact dss_cons (ds_if (dt_gt (de_ixk (de_var 0 (pv 0))) de_int) (dss_cons (ds_asg (de_divmod (by rfl) t.z_divmod (da_cons (de_ixk (de_var 0 (pv 0))) (da_cons (de_var 1 (pv 1)) da_nil))) (dg_seq rfl (dgs_cons (dg_itm (W := WN) (de_var 0 (pv 0)) (pure_v _)) (dgs_cons (dg_var 2 (pg_name (i := 2) sc_law_draw.nd rfl (by first | exact Or.inl rfl | exact Or.inr rfl))) dgs_nil)))) (dss_one (ds_ret (de_var 2 (pv 2))))) dss_nil) (dss_cons (ds_asg (de_add (de_ixk (de_var 0 (pv 0))) de_int) (dg_itm (W := WN) (de_var 0 (pv 0)) (pure_v _))) (dss_cons (ds_set 3 sc_law_draw.nd rfl (by first | exact Or.inl rfl | exact Or.inr rfl) (de_add (de_mod (de_toInt (by rfl) t.z_int (da_cons (de_ixk (de_var 0 (pv 0))) da_nil)) de_int) de_int)) (dss_cons (ds_asg (de_mod (de_toInt (by rfl) t.z_int (da_cons (de_add (de_add (de_mul (de_ixk (de_var 0 (pv 0))) (de_var 3 (pv 3))) (de_mul de_int (de_ixk (de_var 0 (pv 0))))) de_int) da_nil)) de_int) (dg_itm (W := WN) (de_var 0 (pv 0)) (pure_v _))) (dss_one (ds_ret (de_mod (de_toInt (by rfl) t.z_int (da_cons (de_fdiv (de_ixk (de_var 0 (pv 0))) de_int) da_nil)) (de_var 1 (pv 1))))))))
theorem sc_law_pick : FnScope N_law_pick ["_law_tank_here", "_law_some"] (defScope s_law_pick) := ⟨rfl, rfl, rfl, by decide +kernel, rfl, by decide +kernel, by decide +kernel⟩
theorem ok_law_pick (t : Txt K mg a Cs fI gI fa fd) : FnOk P w K mg base (L2.CX P w) 2 (fa 2) (fd 2) ["_law_tank_here", "_law_some"] (spD K mg 2 (F_law_pick K a Cs)) := by
  refine def_ok (k := 1) (m := M_law_pick K a Cs) t.f_law_pick sc_law_pick (fun _ _ => rfl) fun cdv A outer s H E En hr tk pa => ?_
  have hu := hr.units
  have hu2 : (A.deeper (PyProof.Rows.envOfC "_law_pick" (defScope s_law_pick) s.heap.objs.size (fa 2) cdv)).units + 65 < cLine := by have := hr.un; omega
  have G_law_draw := ok_law_draw (P := P) (w := w) (base := base) t
  unfold M_law_pick
  exact dss_one (ds_ret (de_ix (dq_val (de_var 1 (pv 1))) (de_call (G_law_draw) (hr.mono (by decide)) (by rfl) t.m_law_draw t.f_law_draw.kp t.b_law_draw tk (da_cons (de_var 0 (pv 0)) (da_cons (de_len (by rfl) t.z_len (da_cons (de_var 1 (pv 1)) da_nil)) da_nil)) (len_cons (len_cons len_nil)))))
theorem sc_law_number : FnScope N_law_number ["_law_tank_here"] (defScope s_law_number) := ⟨rfl, rfl, rfl, by decide +kernel, rfl, by decide +kernel, by decide +kernel⟩
theorem ok_law_number (t : Txt K mg a Cs fI gI fa fd) : FnOk P w K mg base (L2.CX P w) 3 (fa 3) (fd 3) ["_law_tank_here"] (spD K mg 1 (F_law_number K a Cs)) := by
  refine def_ok (k := 2) (m := M_law_number K a Cs) t.f_law_number sc_law_number (fun _ _ => rfl) fun cdv A outer s H E En hr tk pa => ?_
  have hu := hr.units
  have hu2 : (A.deeper (PyProof.Rows.envOfC "_law_number" (defScope s_law_number) s.heap.objs.size (fa 3) cdv)).units + 65 < cLine := by have := hr.un; omega
  have G_law_draw := ok_law_draw (P := P) (w := w) (base := base) t
  have G_law_pick := ok_law_pick (P := P) (w := w) (base := base) t
  unfold M_law_number
  exact dss_cons (ds_set 1 sc_law_number.nd rfl (by first | exact Or.inl rfl | exact Or.inr rfl) (de_call (G_law_pick) (hr.mono (by decide)) (by rfl) t.m_law_pick t.f_law_pick.kp t.b_law_pick tk (da_cons (de_var 0 (pv 0)) (da_cons (de_tup (da_cons de_int (da_cons de_int (da_cons de_int (da_cons de_int (da_cons de_int (da_cons de_int (da_cons de_int da_nil)))))))) da_nil)) (len_cons (len_cons len_nil)))) (dss_cons (ds_if (dt_gt (de_var 1 (pv 1)) de_int) (dss_one (ds_ret (de_sub (de_call (G_law_draw) (hr.mono (by decide)) (by rfl) t.m_law_draw t.f_law_draw.kp t.b_law_draw tk (da_cons (de_var 0 (pv 0)) (da_cons (de_add (de_mul de_int (de_var 1 (pv 1))) de_int) da_nil)) (len_cons (len_cons len_nil))) (de_var 1 (pv 1))))) dss_nil) (dss_one (ds_ret (de_mul (de_add (de_mul (de_call (G_law_draw) (hr.mono (by decide)) (by rfl) t.m_law_draw t.f_law_draw.kp t.b_law_draw tk (da_cons (de_var 0 (pv 0)) (da_cons de_int da_nil)) (len_cons (len_cons len_nil))) de_int) (de_call (G_law_draw) (hr.mono (by decide)) (by rfl) t.m_law_draw t.f_law_draw.kp t.b_law_draw tk (da_cons (de_var 0 (pv 0)) (da_cons de_int da_nil)) (len_cons (len_cons len_nil)))) (de_sub de_int (de_mul de_int (de_call (G_law_draw) (hr.mono (by decide)) (by rfl) t.m_law_draw t.f_law_draw.kp t.b_law_draw tk (da_cons (de_var 0 (pv 0)) (da_cons de_int da_nil)) (len_cons (len_cons len_nil)))))))))
theorem sc_law_with_given : FnScope N_law_with_given ["_law_thing_here"] (defScope s_law_with_given) := ⟨rfl, rfl, rfl, by decide +kernel, rfl, by decide +kernel, by decide +kernel⟩
theorem ok_law_with_given (t : Txt K mg a Cs fI gI fa fd) : FnOk P w K mg base (L2.CX P w) 3 (fa 4) (fd 4) ["_law_thing_here"] (spD K mg 1 (F_law_with_given K a Cs)) := by
  refine def_ok (k := 2) (m := M_law_with_given K a Cs) t.f_law_with_given sc_law_with_given (fun _ _ => rfl) fun cdv A outer s H E En hr tk pa => ?_
  have hu := hr.units
  have hu2 : (A.deeper (PyProof.Rows.envOfC "_law_with_given" (defScope s_law_with_given) s.heap.objs.size (fa 4) cdv)).units + 65 < cLine := by have := hr.un; omega
  unfold M_law_with_given
  exact dss_cons (ds_set 1 sc_law_with_given.nd rfl (by first | exact Or.inl rfl | exact Or.inr rfl) (de_lst da_nil)) (dss_cons (ds_set 1 sc_law_with_given.nd rfl (by first | exact Or.inl rfl | exact Or.inr rfl) (de_add (de_var 1 (pv 1)) (de_lst (da_cons (de_exV t.c1 (hr.mono (by decide)) tk (by rfl) (de_var 0 (pv 0))) (da_cons (de_exV t.c2 (hr.mono (by decide)) tk (by rfl) (de_var 0 (pv 0))) (da_cons (de_exV t.c3 (hr.mono (by decide)) tk (by rfl) (de_var 0 (pv 0))) da_nil)))))) (dss_cons (ds_set 1 sc_law_with_given.nd rfl (by first | exact Or.inl rfl | exact Or.inr rfl) (de_add (de_var 1 (pv 1)) (de_lst (da_cons (de_exV t.c4 (hr.mono (by decide)) tk (by rfl) (de_var 0 (pv 0))) (da_cons (de_exV t.c5 (hr.mono (by decide)) tk (by rfl) (de_var 0 (pv 0))) (da_cons (de_exV t.c6 (hr.mono (by decide)) tk (by rfl) (de_var 0 (pv 0))) (da_cons (de_exV t.c7 (hr.mono (by decide)) tk (by rfl) (de_var 0 (pv 0))) da_nil))))))) (dss_cons (ds_set 1 sc_law_with_given.nd rfl (by first | exact Or.inl rfl | exact Or.inr rfl) (de_add (de_var 1 (pv 1)) (de_lst (da_cons (de_exV t.c8 (hr.mono (by decide)) tk (by rfl) (de_var 0 (pv 0))) (da_cons (de_exV t.c9 (hr.mono (by decide)) tk (by rfl) (de_var 0 (pv 0))) (da_cons (de_exV t.c10 (hr.mono (by decide)) tk (by rfl) (de_var 0 (pv 0))) (da_cons (de_exV t.c11 (hr.mono (by decide)) tk (by rfl) (de_var 0 (pv 0))) da_nil))))))) (dss_cons (ds_set 1 sc_law_with_given.nd rfl (by first | exact Or.inl rfl | exact Or.inr rfl) (de_add (de_var 1 (pv 1)) (de_lst (da_cons (de_exV t.c12 (hr.mono (by decide)) tk (by rfl) (de_var 0 (pv 0))) (da_cons (de_exV t.c13 (hr.mono (by decide)) tk (by rfl) (de_var 0 (pv 0))) (da_cons (de_exV t.c14 (hr.mono (by decide)) tk (by rfl) (de_var 0 (pv 0))) da_nil)))))) (dss_cons (ds_set 1 sc_law_with_given.nd rfl (by first | exact Or.inl rfl | exact Or.inr rfl) (de_add (de_var 1 (pv 1)) (de_lst (da_cons (de_exV t.c15 (hr.mono (by decide)) tk (by rfl) (de_var 0 (pv 0))) (da_cons (de_exV t.c16 (hr.mono (by decide)) tk (by rfl) (de_var 0 (pv 0))) (da_cons (de_exV t.c17 (hr.mono (by decide)) tk (by rfl) (de_var 0 (pv 0))) da_nil)))))) (dss_cons (ds_set 1 sc_law_with_given.nd rfl (by first | exact Or.inl rfl | exact Or.inr rfl) (de_add (de_var 1 (pv 1)) (de_lst (da_cons (de_exV t.c18 (hr.mono (by decide)) tk (by rfl) (de_var 0 (pv 0))) (da_cons (de_exV t.c19 (hr.mono (by decide)) tk (by rfl) (de_var 0 (pv 0))) (da_cons (de_exV t.c20 (hr.mono (by decide)) tk (by rfl) (de_var 0 (pv 0))) (da_cons (de_exV t.c21 (hr.mono (by decide)) tk (by rfl) (de_var 0 (pv 0))) da_nil))))))) (dss_cons (ds_set 1 sc_law_with_given.nd rfl (by first | exact Or.inl rfl | exact Or.inr rfl) (de_add (de_var 1 (pv 1)) (de_lst (da_cons (de_exV t.c22 (hr.mono (by decide)) tk (by rfl) (de_var 0 (pv 0))) (da_cons (de_exV t.c23 (hr.mono (by decide)) tk (by rfl) (de_var 0 (pv 0))) (da_cons (de_exV t.c24 (hr.mono (by decide)) tk (by rfl) (de_var 0 (pv 0))) (da_cons (de_exV t.c25 (hr.mono (by decide)) tk (by rfl) (de_var 0 (pv 0))) da_nil))))))) (dss_cons (ds_set 1 sc_law_with_given.nd rfl (by first | exact Or.inl rfl | exact Or.inr rfl) (de_add (de_var 1 (pv 1)) (de_lst (da_cons (de_exV t.c26 (hr.mono (by decide)) tk (by rfl) (de_var 0 (pv 0))) (da_cons (de_exV t.c27 (hr.mono (by decide)) tk (by rfl) (de_var 0 (pv 0))) (da_cons (de_exV t.c28 (hr.mono (by decide)) tk (by rfl) (de_var 0 (pv 0))) (da_cons (de_exV t.c29 (hr.mono (by decide)) tk (by rfl) (de_var 0 (pv 0))) da_nil))))))) (dss_cons (ds_set 1 sc_law_with_given.nd rfl (by first | exact Or.inl rfl | exact Or.inr rfl) (de_add (de_var 1 (pv 1)) (de_lst (da_cons (de_exV t.c30 (hr.mono (by decide)) tk (by rfl) (de_var 0 (pv 0))) (da_cons (de_exV t.c31 (hr.mono (by decide)) tk (by rfl) (de_var 0 (pv 0))) (da_cons (de_exV t.c32 (hr.mono (by decide)) tk (by rfl) (de_var 0 (pv 0))) (da_cons (de_exV t.c33 (hr.mono (by decide)) tk (by rfl) (de_var 0 (pv 0))) (da_cons (de_exV t.c34 (hr.mono (by decide)) tk (by rfl) (de_var 0 (pv 0))) da_nil)))))))) (dss_cons (ds_set 1 sc_law_with_given.nd rfl (by first | exact Or.inl rfl | exact Or.inr rfl) (de_add (de_var 1 (pv 1)) (de_lst (da_cons (de_exV t.c35 (hr.mono (by decide)) tk (by rfl) (de_var 0 (pv 0))) da_nil)))) (dss_one (ds_ret (de_var 1 (pv 1))))))))))))))
theorem sc_law_with_given_named : FnScope N_law_with_given_named ["_law_thing_here"] (defScope s_law_with_given_named) := ⟨rfl, rfl, rfl, by decide +kernel, rfl, by decide +kernel, by decide +kernel⟩
theorem ok_law_with_given_named (t : Txt K mg a Cs fI gI fa fd) : FnOk P w K mg base (L2.CX P w) 3 (fa 5) (fd 5) ["_law_thing_here"] (spD K mg 1 (F_law_with_given_named K a Cs)) := by
  refine def_ok (k := 2) (m := M_law_with_given_named K a Cs) t.f_law_with_given_named sc_law_with_given_named (fun _ _ => rfl) fun cdv A outer s H E En hr tk pa => ?_
  have hu := hr.units
  have hu2 : (A.deeper (PyProof.Rows.envOfC "_law_with_given_named" (defScope s_law_with_given_named) s.heap.objs.size (fa 5) cdv)).units + 65 < cLine := by have := hr.un; omega
  unfold M_law_with_given_named
  exact dss_cons (ds_set 1 sc_law_with_given_named.nd rfl (by first | exact Or.inl rfl | exact Or.inr rfl) (de_lst da_nil)) (dss_cons (ds_set 1 sc_law_with_given_named.nd rfl (by first | exact Or.inl rfl | exact Or.inr rfl) (de_add (de_var 1 (pv 1)) (de_lst (da_cons (de_exVK t.c1 (hr.mono (by decide)) tk (by rfl) (de_var 0 (pv 0))) (da_cons (de_exVK t.c2 (hr.mono (by decide)) tk (by rfl) (de_var 0 (pv 0))) (da_cons (de_exVK t.c3 (hr.mono (by decide)) tk (by rfl) (de_var 0 (pv 0))) da_nil)))))) (dss_cons (ds_set 1 sc_law_with_given_named.nd rfl (by first | exact Or.inl rfl | exact Or.inr rfl) (de_add (de_var 1 (pv 1)) (de_lst (da_cons (de_exVK t.c4 (hr.mono (by decide)) tk (by rfl) (de_var 0 (pv 0))) (da_cons (de_exVK t.c5 (hr.mono (by decide)) tk (by rfl) (de_var 0 (pv 0))) (da_cons (de_exVK t.c6 (hr.mono (by decide)) tk (by rfl) (de_var 0 (pv 0))) da_nil)))))) (dss_cons (ds_set 1 sc_law_with_given_named.nd rfl (by first | exact Or.inl rfl | exact Or.inr rfl) (de_add (de_var 1 (pv 1)) (de_lst (da_cons (de_exVK t.c7 (hr.mono (by decide)) tk (by rfl) (de_var 0 (pv 0))) (da_cons (de_exVK t.c8 (hr.mono (by decide)) tk (by rfl) (de_var 0 (pv 0))) (da_cons (de_exVK t.c9 (hr.mono (by decide)) tk (by rfl) (de_var 0 (pv 0))) da_nil)))))) (dss_cons (ds_set 1 sc_law_with_given_named.nd rfl (by first | exact Or.inl rfl | exact Or.inr rfl) (de_add (de_var 1 (pv 1)) (de_lst (da_cons (de_exVK t.c10 (hr.mono (by decide)) tk (by rfl) (de_var 0 (pv 0))) (da_cons (de_exVK t.c11 (hr.mono (by decide)) tk (by rfl) (de_var 0 (pv 0))) (da_cons (de_exVK t.c12 (hr.mono (by decide)) tk (by rfl) (de_var 0 (pv 0))) da_nil)))))) (dss_cons (ds_set 1 sc_law_with_given_named.nd rfl (by first | exact Or.inl rfl | exact Or.inr rfl) (de_add (de_var 1 (pv 1)) (de_lst (da_cons (de_exVK t.c13 (hr.mono (by decide)) tk (by rfl) (de_var 0 (pv 0))) (da_cons (de_exVK t.c14 (hr.mono (by decide)) tk (by rfl) (de_var 0 (pv 0))) da_nil))))) (dss_cons (ds_set 1 sc_law_with_given_named.nd rfl (by first | exact Or.inl rfl | exact Or.inr rfl) (de_add (de_var 1 (pv 1)) (de_lst (da_cons (de_exVK t.c15 (hr.mono (by decide)) tk (by rfl) (de_var 0 (pv 0))) (da_cons (de_exVK t.c16 (hr.mono (by decide)) tk (by rfl) (de_var 0 (pv 0))) (da_cons (de_exVK t.c17 (hr.mono (by decide)) tk (by rfl) (de_var 0 (pv 0))) da_nil)))))) (dss_cons (ds_set 1 sc_law_with_given_named.nd rfl (by first | exact Or.inl rfl | exact Or.inr rfl) (de_add (de_var 1 (pv 1)) (de_lst (da_cons (de_exVK t.c18 (hr.mono (by decide)) tk (by rfl) (de_var 0 (pv 0))) (da_cons (de_exVK t.c19 (hr.mono (by decide)) tk (by rfl) (de_var 0 (pv 0))) (da_cons (de_exVK t.c20 (hr.mono (by decide)) tk (by rfl) (de_var 0 (pv 0))) da_nil)))))) (dss_cons (ds_set 1 sc_law_with_given_named.nd rfl (by first | exact Or.inl rfl | exact Or.inr rfl) (de_add (de_var 1 (pv 1)) (de_lst (da_cons (de_exVK t.c21 (hr.mono (by decide)) tk (by rfl) (de_var 0 (pv 0))) (da_cons (de_exVK t.c22 (hr.mono (by decide)) tk (by rfl) (de_var 0 (pv 0))) (da_cons (de_exVK t.c23 (hr.mono (by decide)) tk (by rfl) (de_var 0 (pv 0))) da_nil)))))) (dss_cons (ds_set 1 sc_law_with_given_named.nd rfl (by first | exact Or.inl rfl | exact Or.inr rfl) (de_add (de_var 1 (pv 1)) (de_lst (da_cons (de_exVK t.c24 (hr.mono (by decide)) tk (by rfl) (de_var 0 (pv 0))) (da_cons (de_exVK t.c25 (hr.mono (by decide)) tk (by rfl) (de_var 0 (pv 0))) (da_cons (de_exVK t.c26 (hr.mono (by decide)) tk (by rfl) (de_var 0 (pv 0))) da_nil)))))) (dss_cons (ds_set 1 sc_law_with_given_named.nd rfl (by first | exact Or.inl rfl | exact Or.inr rfl) (de_add (de_var 1 (pv 1)) (de_lst (da_cons (de_exVK t.c27 (hr.mono (by decide)) tk (by rfl) (de_var 0 (pv 0))) (da_cons (de_exVK t.c28 (hr.mono (by decide)) tk (by rfl) (de_var 0 (pv 0))) (da_cons (de_exVK t.c29 (hr.mono (by decide)) tk (by rfl) (de_var 0 (pv 0))) da_nil)))))) (dss_cons (ds_set 1 sc_law_with_given_named.nd rfl (by first | exact Or.inl rfl | exact Or.inr rfl) (de_add (de_var 1 (pv 1)) (de_lst (da_cons (de_exVK t.c30 (hr.mono (by decide)) tk (by rfl) (de_var 0 (pv 0))) (da_cons (de_exVK t.c31 (hr.mono (by decide)) tk (by rfl) (de_var 0 (pv 0))) (da_cons (de_exVK t.c32 (hr.mono (by decide)) tk (by rfl) (de_var 0 (pv 0))) da_nil)))))) (dss_cons (ds_set 1 sc_law_with_given_named.nd rfl (by first | exact Or.inl rfl | exact Or.inr rfl) (de_add (de_var 1 (pv 1)) (de_lst (da_cons (de_exVK t.c33 (hr.mono (by decide)) tk (by rfl) (de_var 0 (pv 0))) (da_cons (de_exVK t.c34 (hr.mono (by decide)) tk (by rfl) (de_var 0 (pv 0))) (da_cons (de_exVK t.c35 (hr.mono (by decide)) tk (by rfl) (de_var 0 (pv 0))) da_nil)))))) (dss_one (ds_ret (de_var 1 (pv 1))))))))))))))))
theorem sc_law_with_index : FnScope N_law_with_index ["_law_thing_here"] (defScope s_law_with_index) := ⟨rfl, rfl, rfl, by decide +kernel, rfl, by decide +kernel, by decide +kernel⟩
theorem ok_law_with_index (t : Txt K mg a Cs fI gI fa fd) : FnOk P w K mg base (L2.CX P w) 3 (fa 6) (fd 6) ["_law_thing_here"] (spD K mg 1 (F_law_with_index K a Cs)) := by
  refine def_ok (k := 2) (m := M_law_with_index K a Cs) t.f_law_with_index sc_law_with_index (fun _ _ => rfl) fun cdv A outer s H E En hr tk pa => ?_
  have hu := hr.units
  have hu2 : (A.deeper (PyProof.Rows.envOfC "_law_with_index" (defScope s_law_with_index) s.heap.objs.size (fa 6) cdv)).units + 65 < cLine := by have := hr.un; omega
  unfold M_law_with_index
  exact dss_cons (ds_set 1 sc_law_with_index.nd rfl (by first | exact Or.inl rfl | exact Or.inr rfl) (de_lst da_nil)) (dss_cons (ds_set 1 sc_law_with_index.nd rfl (by first | exact Or.inl rfl | exact Or.inr rfl) (de_add (de_var 1 (pv 1)) (de_lst (da_cons (de_exV t.c36 (hr.mono (by decide)) tk (by rfl) (de_var 0 (pv 0))) (da_cons (de_exV t.c37 (hr.mono (by decide)) tk (by rfl) (de_var 0 (pv 0))) (da_cons (de_exV t.c38 (hr.mono (by decide)) tk (by rfl) (de_var 0 (pv 0))) (da_cons (de_exV t.c39 (hr.mono (by decide)) tk (by rfl) (de_var 0 (pv 0))) da_nil))))))) (dss_cons (ds_set 1 sc_law_with_index.nd rfl (by first | exact Or.inl rfl | exact Or.inr rfl) (de_add (de_var 1 (pv 1)) (de_lst (da_cons (de_exV t.c40 (hr.mono (by decide)) tk (by rfl) (de_var 0 (pv 0))) (da_cons (de_exV t.c41 (hr.mono (by decide)) tk (by rfl) (de_var 0 (pv 0))) (da_cons (de_exV t.c42 (hr.mono (by decide)) tk (by rfl) (de_var 0 (pv 0))) (da_cons (de_exV t.c43 (hr.mono (by decide)) tk (by rfl) (de_var 0 (pv 0))) da_nil))))))) (dss_cons (ds_set 1 sc_law_with_index.nd rfl (by first | exact Or.inl rfl | exact Or.inr rfl) (de_add (de_var 1 (pv 1)) (de_lst (da_cons (de_exV t.c44 (hr.mono (by decide)) tk (by rfl) (de_var 0 (pv 0))) da_nil)))) (dss_one (ds_ret (de_var 1 (pv 1)))))))
theorem sc_law_with_index_named : FnScope N_law_with_index_named ["_law_thing_here"] (defScope s_law_with_index_named) := ⟨rfl, rfl, rfl, by decide +kernel, rfl, by decide +kernel, by decide +kernel⟩
theorem ok_law_with_index_named (t : Txt K mg a Cs fI gI fa fd) : FnOk P w K mg base (L2.CX P w) 3 (fa 7) (fd 7) ["_law_thing_here"] (spD K mg 1 (F_law_with_index_named K a Cs)) := by
  refine def_ok (k := 2) (m := M_law_with_index_named K a Cs) t.f_law_with_index_named sc_law_with_index_named (fun _ _ => rfl) fun cdv A outer s H E En hr tk pa => ?_
  have hu := hr.units
  have hu2 : (A.deeper (PyProof.Rows.envOfC "_law_with_index_named" (defScope s_law_with_index_named) s.heap.objs.size (fa 7) cdv)).units + 65 < cLine := by have := hr.un; omega
  unfold M_law_with_index_named
  exact dss_cons (ds_set 1 sc_law_with_index_named.nd rfl (by first | exact Or.inl rfl | exact Or.inr rfl) (de_lst da_nil)) (dss_cons (ds_set 1 sc_law_with_index_named.nd rfl (by first | exact Or.inl rfl | exact Or.inr rfl) (de_add (de_var 1 (pv 1)) (de_lst (da_cons (de_exVK t.c36 (hr.mono (by decide)) tk (by rfl) (de_var 0 (pv 0))) (da_cons (de_exVK t.c37 (hr.mono (by decide)) tk (by rfl) (de_var 0 (pv 0))) (da_cons (de_exVK t.c38 (hr.mono (by decide)) tk (by rfl) (de_var 0 (pv 0))) da_nil)))))) (dss_cons (ds_set 1 sc_law_with_index_named.nd rfl (by first | exact Or.inl rfl | exact Or.inr rfl) (de_add (de_var 1 (pv 1)) (de_lst (da_cons (de_exVK t.c39 (hr.mono (by decide)) tk (by rfl) (de_var 0 (pv 0))) (da_cons (de_exVK t.c40 (hr.mono (by decide)) tk (by rfl) (de_var 0 (pv 0))) (da_cons (de_exVK t.c41 (hr.mono (by decide)) tk (by rfl) (de_var 0 (pv 0))) da_nil)))))) (dss_cons (ds_set 1 sc_law_with_index_named.nd rfl (by first | exact Or.inl rfl | exact Or.inr rfl) (de_add (de_var 1 (pv 1)) (de_lst (da_cons (de_exVK t.c42 (hr.mono (by decide)) tk (by rfl) (de_var 0 (pv 0))) (da_cons (de_exVK t.c43 (hr.mono (by decide)) tk (by rfl) (de_var 0 (pv 0))) (da_cons (de_exVK t.c44 (hr.mono (by decide)) tk (by rfl) (de_var 0 (pv 0))) da_nil)))))) (dss_one (ds_ret (de_var 1 (pv 1)))))))
theorem sc_law_bare : FnScope N_law_bare [] (defScope s_law_bare) := ⟨rfl, rfl, rfl, by decide +kernel, rfl, by decide +kernel, by decide +kernel⟩
theorem ok_law_bare (t : Txt K mg a Cs fI gI fa fd) : FnOk P w K mg base (L2.CX P w) 1 (fa 8) (fd 8) [] (spD K mg 0 (F_law_bare K a Cs)) := by
  refine def_ok (k := 0) (m := M_law_bare K a Cs) t.f_law_bare sc_law_bare (fun _ _ => rfl) fun cdv A outer s H E En hr tk pa => ?_
  have hu := hr.units
  have hu2 : (A.deeper (PyProof.Rows.envOfC "_law_bare" (defScope s_law_bare) s.heap.objs.size (fa 8) cdv)).units + 65 < cLine := by have := hr.un; omega
  unfold M_law_bare
  exact dss_one (ds_ret (de_lst (da_cons (de_exc0 F.excBase_ValueError t.q45 t.n45 t.k45 (by rfl)) (da_cons (de_exc0 F.excBase_ValueError t.q46 t.n46 t.k46 (by rfl)) (da_cons (de_exc0 F.excBase_ValueError t.q47 t.n47 t.k47 (by rfl)) (da_cons (de_exc0 F.excBase_ValueError t.q48 t.n48 t.k48 (by rfl)) (da_cons (de_exc0 F.excBase_ValueError t.q49 t.n49 t.k49 (by rfl)) (da_cons (de_exc0 F.excBase_ValueError t.q50 t.n50 t.k50 (by rfl)) (da_cons (de_exc0 F.excBase_ValueError t.q51 t.n51 t.k51 (by rfl)) (da_cons (de_exc0 F.excBase_ValueError t.q52 t.n52 t.k52 (by rfl)) da_nil))))))))))
theorem sc_law_marks : FnScope N_law_marks ["_law_e"] (defScope s_law_marks) := ⟨rfl, rfl, rfl, by decide +kernel, rfl, by decide +kernel, by decide +kernel⟩
theorem ok_law_marks (t : Txt K mg a Cs fI gI fa fd) : FnOk P w K mg base (L2.CX P w) 1 (fa 9) (fd 9) ["_law_e"] (spD K mg 1 (F_law_marks K a Cs)) := by
  refine def_ok (k := 0) (m := M_law_marks K a Cs) t.f_law_marks sc_law_marks (fun _ _ => rfl) fun cdv A outer s H E En hr tk pa => ?_
  have hu := hr.units
  have hu2 : (A.deeper (PyProof.Rows.envOfC "_law_marks" (defScope s_law_marks) s.heap.objs.size (fa 9) cdv)).units + 65 < cLine := by have := hr.un; omega
  unfold M_law_marks
  exact dss_cons (ds_set 1 sc_law_marks.nd rfl (by first | exact Or.inl rfl | exact Or.inr rfl) (de_lst da_nil)) (dss_cons (ds_set 1 sc_law_marks.nd rfl (by first | exact Or.inl rfl | exact Or.inr rfl) (de_add (de_var 1 (pv 1)) (de_lst (da_cons (de_isi t.eC (by rfl) t.z_isinstance (de_var 0 (pv 0)) (pe_glob (v := .ref (a 1)) (by rfl) t.n1 rfl) (.own _)) (da_cons (de_isi t.eC (by rfl) t.z_isinstance (de_var 0 (pv 0)) (pe_glob (v := .ref (a 2)) (by rfl) t.n2 rfl) (.own _)) da_nil))))) (dss_cons (ds_set 1 sc_law_marks.nd rfl (by first | exact Or.inl rfl | exact Or.inr rfl) (de_add (de_var 1 (pv 1)) (de_lst (da_cons (de_isi t.eC (by rfl) t.z_isinstance (de_var 0 (pv 0)) (pe_glob (v := .ref (a 3)) (by rfl) t.n3 rfl) (.own _)) (da_cons (de_isi t.eC (by rfl) t.z_isinstance (de_var 0 (pv 0)) (pe_glob (v := .ref (a 4)) (by rfl) t.n4 rfl) (.own _)) (da_cons (de_isi t.eC (by rfl) t.z_isinstance (de_var 0 (pv 0)) (pe_glob (v := .ref (a 5)) (by rfl) t.n5 rfl) (.own _)) da_nil)))))) (dss_cons (ds_set 1 sc_law_marks.nd rfl (by first | exact Or.inl rfl | exact Or.inr rfl) (de_add (de_var 1 (pv 1)) (de_lst (da_cons (de_isi t.eC (by rfl) t.z_isinstance (de_var 0 (pv 0)) (pe_glob (v := .ref (a 6)) (by rfl) t.n6 rfl) (.own _)) (da_cons (de_isi t.eC (by rfl) t.z_isinstance (de_var 0 (pv 0)) (pe_glob (v := .ref (a 7)) (by rfl) t.n7 rfl) (.own _)) (da_cons (de_isi t.eC (by rfl) t.z_isinstance (de_var 0 (pv 0)) (pe_glob (v := .ref (a 8)) (by rfl) t.n8 rfl) (.own _)) da_nil)))))) (dss_cons (ds_set 1 sc_law_marks.nd rfl (by first | exact Or.inl rfl | exact Or.inr rfl) (de_add (de_var 1 (pv 1)) (de_lst (da_cons (de_isi t.eC (by rfl) t.z_isinstance (de_var 0 (pv 0)) (pe_glob (v := .ref (a 9)) (by rfl) t.n9 rfl) (.own _)) (da_cons (de_isi t.eC (by rfl) t.z_isinstance (de_var 0 (pv 0)) (pe_glob (v := .ref (a 10)) (by rfl) t.n10 rfl) (.own _)) da_nil))))) (dss_cons (ds_set 1 sc_law_marks.nd rfl (by first | exact Or.inl rfl | exact Or.inr rfl) (de_add (de_var 1 (pv 1)) (de_lst (da_cons (de_isi t.eC (by rfl) t.z_isinstance (de_var 0 (pv 0)) (pe_glob (v := .ref (a 11)) (by rfl) t.n11 rfl) (.own _)) (da_cons (de_isi t.eC (by rfl) t.z_isinstance (de_var 0 (pv 0)) (pe_glob (v := .ref (a 12)) (by rfl) t.n12 rfl) (.own _)) da_nil))))) (dss_cons (ds_set 1 sc_law_marks.nd rfl (by first | exact Or.inl rfl | exact Or.inr rfl) (de_add (de_var 1 (pv 1)) (de_lst (da_cons (de_isi t.eC (by rfl) t.z_isinstance (de_var 0 (pv 0)) (pe_glob (v := .ref (a 13)) (by rfl) t.n13 rfl) (.own _)) (da_cons (de_isi t.eC (by rfl) t.z_isinstance (de_var 0 (pv 0)) (pe_glob (v := .ref (a 14)) (by rfl) t.n14 rfl) (.own _)) da_nil))))) (dss_cons (ds_set 1 sc_law_marks.nd rfl (by first | exact Or.inl rfl | exact Or.inr rfl) (de_add (de_var 1 (pv 1)) (de_lst (da_cons (de_isi t.eC (by rfl) t.z_isinstance (de_var 0 (pv 0)) (pe_glob (v := .ref (a 15)) (by rfl) t.n15 rfl) (.own _)) (da_cons (de_isi t.eC (by rfl) t.z_isinstance (de_var 0 (pv 0)) (pe_glob (v := .ref (a 16)) (by rfl) t.n16 rfl) (.own _)) da_nil))))) (dss_cons (ds_set 1 sc_law_marks.nd rfl (by first | exact Or.inl rfl | exact Or.inr rfl) (de_add (de_var 1 (pv 1)) (de_lst (da_cons (de_isi t.eC (by rfl) t.z_isinstance (de_var 0 (pv 0)) (pe_glob (v := .ref (a 17)) (by rfl) t.n17 rfl) (.own _)) (da_cons (de_isi t.eC (by rfl) t.z_isinstance (de_var 0 (pv 0)) (pe_glob (v := .ref (a 18)) (by rfl) t.n18 rfl) (.own _)) da_nil))))) (dss_cons (ds_set 1 sc_law_marks.nd rfl (by first | exact Or.inl rfl | exact Or.inr rfl) (de_add (de_var 1 (pv 1)) (de_lst (da_cons (de_isi t.eC (by rfl) t.z_isinstance (de_var 0 (pv 0)) (pe_glob (v := .ref (a 19)) (by rfl) t.n19 rfl) (.own _)) (da_cons (de_isi t.eC (by rfl) t.z_isinstance (de_var 0 (pv 0)) (pe_glob (v := .ref (a 20)) (by rfl) t.n20 rfl) (.own _)) (da_cons (de_isi t.eC (by rfl) t.z_isinstance (de_var 0 (pv 0)) (pe_glob (v := .ref (a 21)) (by rfl) t.n21 rfl) (.own _)) da_nil)))))) (dss_cons (ds_set 1 sc_law_marks.nd rfl (by first | exact Or.inl rfl | exact Or.inr rfl) (de_add (de_var 1 (pv 1)) (de_lst (da_cons (de_isi t.eC (by rfl) t.z_isinstance (de_var 0 (pv 0)) (pe_glob (v := .ref (a 22)) (by rfl) t.n22 rfl) (.own _)) (da_cons (de_isi t.eC (by rfl) t.z_isinstance (de_var 0 (pv 0)) (pe_glob (v := .ref (a 23)) (by rfl) t.n23 rfl) (.own _)) (da_cons (de_isi t.eC (by rfl) t.z_isinstance (de_var 0 (pv 0)) (pe_glob (v := .ref (a 24)) (by rfl) t.n24 rfl) (.own _)) da_nil)))))) (dss_cons (ds_set 1 sc_law_marks.nd rfl (by first | exact Or.inl rfl | exact Or.inr rfl) (de_add (de_var 1 (pv 1)) (de_lst (da_cons (de_isi t.eC (by rfl) t.z_isinstance (de_var 0 (pv 0)) (pe_glob (v := .ref (a 25)) (by rfl) t.n25 rfl) (.own _)) (da_cons (de_isi t.eC (by rfl) t.z_isinstance (de_var 0 (pv 0)) (pe_glob (v := .ref (a 26)) (by rfl) t.n26 rfl) (.own _)) da_nil))))) (dss_cons (ds_set 1 sc_law_marks.nd rfl (by first | exact Or.inl rfl | exact Or.inr rfl) (de_add (de_var 1 (pv 1)) (de_lst (da_cons (de_isi t.eC (by rfl) t.z_isinstance (de_var 0 (pv 0)) (pe_glob (v := .ref (a 27)) (by rfl) t.n27 rfl) (.own _)) (da_cons (de_isi t.eC (by rfl) t.z_isinstance (de_var 0 (pv 0)) (pe_glob (v := .ref (a 28)) (by rfl) t.n28 rfl) (.own _)) (da_cons (de_isi t.eC (by rfl) t.z_isinstance (de_var 0 (pv 0)) (pe_glob (v := .ref (a 29)) (by rfl) t.n29 rfl) (.own _)) da_nil)))))) (dss_cons (ds_set 1 sc_law_marks.nd rfl (by first | exact Or.inl rfl | exact Or.inr rfl) (de_add (de_var 1 (pv 1)) (de_lst (da_cons (de_isi t.eC (by rfl) t.z_isinstance (de_var 0 (pv 0)) (pe_glob (v := .ref (a 30)) (by rfl) t.n30 rfl) (.own _)) (da_cons (de_isi t.eC (by rfl) t.z_isinstance (de_var 0 (pv 0)) (pe_glob (v := .ref (a 31)) (by rfl) t.n31 rfl) (.own _)) (da_cons (de_isi t.eC (by rfl) t.z_isinstance (de_var 0 (pv 0)) (pe_glob (v := .ref (a 32)) (by rfl) t.n32 rfl) (.own _)) da_nil)))))) (dss_cons (ds_set 1 sc_law_marks.nd rfl (by first | exact Or.inl rfl | exact Or.inr rfl) (de_add (de_var 1 (pv 1)) (de_lst (da_cons (de_isi t.eC (by rfl) t.z_isinstance (de_var 0 (pv 0)) (pe_glob (v := .ref (a 33)) (by rfl) t.n33 rfl) (.own _)) (da_cons (de_isi t.eC (by rfl) t.z_isinstance (de_var 0 (pv 0)) (pe_glob (v := .ref (a 34)) (by rfl) t.n34 rfl) (.own _)) (da_cons (de_isi t.eC (by rfl) t.z_isinstance (de_var 0 (pv 0)) (pe_glob (v := .ref (a 35)) (by rfl) t.n35 rfl) (.own _)) da_nil)))))) (dss_cons (ds_set 1 sc_law_marks.nd rfl (by first | exact Or.inl rfl | exact Or.inr rfl) (de_add (de_var 1 (pv 1)) (de_lst (da_cons (de_isi t.eC (by rfl) t.z_isinstance (de_var 0 (pv 0)) (pe_glob (v := .ref (a 36)) (by rfl) t.n36 rfl) (.own _)) (da_cons (de_isi t.eC (by rfl) t.z_isinstance (de_var 0 (pv 0)) (pe_glob (v := .ref (a 37)) (by rfl) t.n37 rfl) (.own _)) da_nil))))) (dss_cons (ds_set 1 sc_law_marks.nd rfl (by first | exact Or.inl rfl | exact Or.inr rfl) (de_add (de_var 1 (pv 1)) (de_lst (da_cons (de_isi t.eC (by rfl) t.z_isinstance (de_var 0 (pv 0)) (pe_glob (v := .ref (a 38)) (by rfl) t.n38 rfl) (.own _)) (da_cons (de_isi t.eC (by rfl) t.z_isinstance (de_var 0 (pv 0)) (pe_glob (v := .ref (a 39)) (by rfl) t.n39 rfl) (.own _)) da_nil))))) (dss_cons (ds_set 1 sc_law_marks.nd rfl (by first | exact Or.inl rfl | exact Or.inr rfl) (de_add (de_var 1 (pv 1)) (de_lst (da_cons (de_isi t.eC (by rfl) t.z_isinstance (de_var 0 (pv 0)) (pe_glob (v := .ref (a 40)) (by rfl) t.n40 rfl) (.own _)) (da_cons (de_isi t.eC (by rfl) t.z_isinstance (de_var 0 (pv 0)) (pe_glob (v := .ref (a 41)) (by rfl) t.n41 rfl) (.own _)) da_nil))))) (dss_cons (ds_set 1 sc_law_marks.nd rfl (by first | exact Or.inl rfl | exact Or.inr rfl) (de_add (de_var 1 (pv 1)) (de_lst (da_cons (de_isi t.eC (by rfl) t.z_isinstance (de_var 0 (pv 0)) (pe_glob (v := .ref (a 42)) (by rfl) t.n42 rfl) (.own _)) (da_cons (de_isi t.eC (by rfl) t.z_isinstance (de_var 0 (pv 0)) (pe_glob (v := .ref (a 43)) (by rfl) t.n43 rfl) (.own _)) (da_cons (de_isi t.eC (by rfl) t.z_isinstance (de_var 0 (pv 0)) (pe_glob (v := .ref (a 44)) (by rfl) t.n44 rfl) (.own _)) da_nil)))))) (dss_cons (ds_set 1 sc_law_marks.nd rfl (by first | exact Or.inl rfl | exact Or.inr rfl) (de_add (de_var 1 (pv 1)) (de_lst (da_cons (de_isi t.eC (by rfl) t.z_isinstance (de_var 0 (pv 0)) (pe_glob (v := .ref (a 45)) (by rfl) t.n45 rfl) (.own _)) (da_cons (de_isi t.eC (by rfl) t.z_isinstance (de_var 0 (pv 0)) (pe_glob (v := .ref (a 46)) (by rfl) t.n46 rfl) (.own _)) (da_cons (de_isi t.eC (by rfl) t.z_isinstance (de_var 0 (pv 0)) (pe_glob (v := .ref (a 47)) (by rfl) t.n47 rfl) (.own _)) da_nil)))))) (dss_cons (ds_set 1 sc_law_marks.nd rfl (by first | exact Or.inl rfl | exact Or.inr rfl) (de_add (de_var 1 (pv 1)) (de_lst (da_cons (de_isi t.eC (by rfl) t.z_isinstance (de_var 0 (pv 0)) (pe_glob (v := .ref (a 48)) (by rfl) t.n48 rfl) (.own _)) (da_cons (de_isi t.eC (by rfl) t.z_isinstance (de_var 0 (pv 0)) (pe_glob (v := .ref (a 49)) (by rfl) t.n49 rfl) (.own _)) (da_cons (de_isi t.eC (by rfl) t.z_isinstance (de_var 0 (pv 0)) (pe_glob (v := .ref (a 50)) (by rfl) t.n50 rfl) (.own _)) da_nil)))))) (dss_cons (ds_set 1 sc_law_marks.nd rfl (by first | exact Or.inl rfl | exact Or.inr rfl) (de_add (de_var 1 (pv 1)) (de_lst (da_cons (de_isi t.eC (by rfl) t.z_isinstance (de_var 0 (pv 0)) (pe_glob (v := .ref (a 51)) (by rfl) t.n51 rfl) (.own _)) (da_cons (de_isi t.eC (by rfl) t.z_isinstance (de_var 0 (pv 0)) (pe_glob (v := .ref (a 52)) (by rfl) t.n52 rfl) (.own _)) da_nil))))) (dss_one (ds_ret (de_var 1 (pv 1)))))))))))))))))))))))))
theorem sc_law_is_under : FnScope N_law_is_under ["_law_e"] (defScope s_law_is_under) := ⟨rfl, rfl, rfl, by decide +kernel, rfl, by decide +kernel, by decide +kernel⟩
theorem ok_law_is_under (t : Txt K mg a Cs fI gI fa fd) : FnOk P w K mg base (L2.CX P w) 1 (fa 10) (fd 10) ["_law_e"] (spD K mg 1 (F_law_is_under K a Cs)) := by
  refine def_ok (k := 0) (m := M_law_is_under K a Cs) t.f_law_is_under sc_law_is_under (fun _ _ => rfl) fun cdv A outer s H E En hr tk pa => ?_
  have hu := hr.units
  have hu2 : (A.deeper (PyProof.Rows.envOfC "_law_is_under" (defScope s_law_is_under) s.heap.objs.size (fa 10) cdv)).units + 65 < cLine := by have := hr.un; omega
  unfold M_law_is_under
  exact dss_cons (ds_if (dt_w (dw_or (dt_not (dt_val (de_isi t.eC (by rfl) t.z_isinstance (de_var 0 (pv 0)) (pe_glob (v := .ref (a 0)) (by rfl) t.n0 rfl) (.own _)))) (dw_or1 (dt_not (dt_val (de_isi t.eC (by rfl) t.z_isinstance (de_var 0 (pv 0)) (pe_bltn (v := .ty "ValueError") (by rfl) t.z_ValueError PyProof.Rows.Boot.«ValueError» rfl) (.ty _))))))) (dss_one (ds_ret de_bl)) dss_nil) (dss_cons (ds_if (dt_w (dw_or (dt_val (de_isi t.eC (by rfl) t.z_isinstance (de_var 0 (pv 0)) (pe_bltn (v := .ty "LookupError") (by rfl) t.z_LookupError PyProof.Rows.Boot.«LookupError» rfl) (.ty _))) (dw_or1 (dt_val (de_isi t.eC (by rfl) t.z_isinstance (de_var 0 (pv 0)) (pe_bltn (v := .ty "ArithmeticError") (by rfl) t.z_ArithmeticError PyProof.Rows.Boot.«ArithmeticError» rfl) (.ty _)))))) (dss_one (ds_ret de_bl)) dss_nil) (dss_one (ds_ret (de_and (de_not (de_isi t.eC (by rfl) t.z_isinstance (de_var 0 (pv 0)) (pe_bltn (v := .ty "TypeError") (by rfl) t.z_TypeError PyProof.Rows.Boot.«TypeError» rfl) (.ty _))) (de_one (de_not (de_isi t.eC (by rfl) t.z_isinstance (de_var 0 (pv 0)) (pe_bltn (v := .ty "RuntimeError") (by rfl) t.z_RuntimeError PyProof.Rows.Boot.«RuntimeError» rfl) (.ty _))))))))
theorem sc_law_stand : FnScope N_law_stand ["_law_errors", "_law_start"] (defScope s_law_stand) := ⟨rfl, rfl, rfl, by decide +kernel, rfl, by decide +kernel, by decide +kernel⟩
theorem ok_law_stand (t : Txt K mg a Cs fI gI fa fd) : FnOk P w K mg base (L2.CX P w) 2 (fa 11) (fd 11) ["_law_errors", "_law_start"] (spD K mg 2 (F_law_stand K a Cs)) := by
  refine def_ok (k := 1) (m := M_law_stand K a Cs) t.f_law_stand sc_law_stand (fun _ _ => rfl) fun cdv A outer s H E En hr tk pa => ?_
  have hu := hr.units
  have hu2 : (A.deeper (PyProof.Rows.envOfC "_law_stand" (defScope s_law_stand) s.heap.objs.size (fa 11) cdv)).units + 65 < cLine := by have := hr.un; omega
  have G_law_is_under := ok_law_is_under (P := P) (w := w) (base := base) t
  have G_law_marks := ok_law_marks (P := P) (w := w) (base := base) t
  unfold M_law_stand
  exact dss_cons (ds_for pa rfl (di_range1 (by rfl) t.z_range (da_cons (de_len (by rfl) t.z_len (da_cons (de_var 0 (pv 0)) da_nil)) da_nil) (len_cons len_nil)) (dg_var 2 (pg_name (i := 2) sc_law_stand.nd rfl (by first | exact Or.inl rfl | exact Or.inr rfl))) (dss_cons (ds_set 3 sc_law_stand.nd rfl (by first | exact Or.inl rfl | exact Or.inr rfl) (de_call (G_law_marks) (hr.mono (by decide)) (by rfl) t.m_law_marks t.f_law_marks.kp t.b_law_marks tk (da_cons (de_ix (dq_val (de_var 0 (pv 0))) (de_var 2 (pv 2))) da_nil) (len_cons len_nil))) (dss_one (ds_if (dt_w (dw_or (dt_ne hu (de_lc (own := [("_law_k", 4)]) rfl sc_law_stand.nd (di_range1 (by rfl) t.z_range (da_cons (de_len (by rfl) t.z_len (da_cons (de_var 3 (pv 3)) da_nil)) da_nil) (len_cons len_nil)) (blkOk_by (N := N_law_stand) (sc := defScope s_law_stand) (own := [("_law_k", 4)]) (by decide +kernel)) (by decide) (fun _ _ _ _ _ => dg_var 4 (pg_name (i := 4) sc_law_stand.nd rfl (by first | exact Or.inl rfl | exact Or.inr rfl))) (fun _ _ _ _ _ => dts_one (dt_isntB (de_ix (dq_val (de_var 3 (pv 3))) (de_var 4 (pv 4))) de_bl)) (fun _ _ _ _ _ => de_var 4 (pv 4))) (de_lst (da_cons (de_add (de_var 1 (pv 1)) (de_var 2 (pv 2))) da_nil))) (dw_or1 (dt_not (dt_val (de_call (G_law_is_under) (hr.mono (by decide)) (by rfl) t.m_law_is_under t.f_law_is_under.kp t.b_law_is_under tk (da_cons (de_ix (dq_val (de_var 0 (pv 0))) (de_var 2 (pv 2))) da_nil) (len_cons len_nil))))))) (dss_one (ds_ret de_bl)) dss_nil)))) (dss_one (ds_ret de_bl))
theorem sc_law_thing : FnScope N_law_thing ["_law_tank_here"] (defScope s_law_thing) := ⟨rfl, rfl, rfl, by decide +kernel, rfl, by decide +kernel, by decide +kernel⟩
theorem ok_law_thing (t : Txt K mg a Cs fI gI fa fd) : FnOk P w K mg base (L2.CX P w) 4 (fa 12) (fd 12) ["_law_tank_here"] (spD K mg 1 (F_law_thing K a Cs)) := by
  refine def_ok (k := 3) (m := M_law_thing K a Cs) t.f_law_thing sc_law_thing (fun _ _ => rfl) fun cdv A outer s H E En hr tk pa => ?_
  have hu := hr.units
  have hu2 : (A.deeper (PyProof.Rows.envOfC "_law_thing" (defScope s_law_thing) s.heap.objs.size (fa 12) cdv)).units + 65 < cLine := by have := hr.un; omega
  have G_law_draw := ok_law_draw (P := P) (w := w) (base := base) t
  have G_law_number := ok_law_number (P := P) (w := w) (base := base) t
  have G_law_pick := ok_law_pick (P := P) (w := w) (base := base) t
  unfold M_law_thing
  exact dss_cons (ds_set 1 sc_law_thing.nd rfl (by first | exact Or.inl rfl | exact Or.inr rfl) (de_tup (da_cons de_non (da_cons de_bl (da_cons de_bl (da_cons de_int (da_cons (de_neg de_int) (da_cons de_str (da_cons de_str (da_cons (de_tup da_nil) (da_cons (de_tup (da_cons de_int (da_cons de_int (da_cons (de_neg de_int) da_nil)))) (da_cons (de_lst da_nil) (da_cons (de_lst (da_cons de_int (da_cons (de_lst (da_cons de_int da_nil)) da_nil))) (da_cons de_dsi1 (da_cons (de_tup (da_cons (de_tup (da_cons de_int (da_cons de_int da_nil))) (da_cons de_non da_nil))) (da_cons de_str da_nil)))))))))))))))) (dss_cons (ds_set 2 sc_law_thing.nd rfl (by first | exact Or.inl rfl | exact Or.inr rfl) (de_call (G_law_pick) (hr.mono (by decide)) (by rfl) t.m_law_pick t.f_law_pick.kp t.b_law_pick tk (da_cons (de_var 0 (pv 0)) (da_cons (de_var 1 (pv 1)) da_nil)) (len_cons (len_cons len_nil)))) (dss_one (ds_ret (de_ite (dt_eq hu (de_call (G_law_draw) (hr.mono (by decide)) (by rfl) t.m_law_draw t.f_law_draw.kp t.b_law_draw tk (da_cons (de_var 0 (pv 0)) (da_cons de_int da_nil)) (len_cons (len_cons len_nil))) de_int) (de_call (G_law_number) (hr.mono (by decide)) (by rfl) t.m_law_number t.f_law_number.kp t.b_law_number tk (da_cons (de_var 0 (pv 0)) da_nil) (len_cons len_nil)) (de_var 2 (pv 2))))))
theorem sc_law_right : FnScope N_law_right ["_law_tank_here"] (defScope s_law_right) := ⟨rfl, rfl, rfl, by decide +kernel, rfl, by decide +kernel, by decide +kernel⟩
theorem ok_law_right (t : Txt K mg a Cs fI gI fa fd) : FnG P w K mg base (L2.CX P w) 5 (fa 13) (fd 13) ["_law_tank_here"] (spD K mg 1 (F_law_right K a Cs)) := by
  refine def_okG (k := 4) (m := M_law_right K a Cs) t.f_law_right sc_law_right (fun _ _ => rfl) fun cdv A outer s H E En hr hgd tk pa => ?_
  have hu := hr.units
  have hu2 : (A.deeper (PyProof.Rows.envOfC "_law_right" (defScope s_law_right) s.heap.objs.size (fa 13) cdv)).units + 65 < cLine := by have := hr.un; omega
  have G_law_bare := ok_law_bare (P := P) (w := w) (base := base) t
  have G_law_draw := ok_law_draw (P := P) (w := w) (base := base) t
  have G_law_is_under := ok_law_is_under (P := P) (w := w) (base := base) t
  have G_law_marks := ok_law_marks (P := P) (w := w) (base := base) t
  have G_law_stand := ok_law_stand (P := P) (w := w) (base := base) t
  have G_law_thing := ok_law_thing (P := P) (w := w) (base := base) t
  have G_law_with_given := ok_law_with_given (P := P) (w := w) (base := base) t
  have G_law_with_given_named := ok_law_with_given_named (P := P) (w := w) (base := base) t
  have G_law_with_index := ok_law_with_index (P := P) (w := w) (base := base) t
  have G_law_with_index_named := ok_law_with_index_named (P := P) (w := w) (base := base) t
  unfold M_law_right
  exact dss_cons (ds_asg (de_tup (da_cons (de_call (G_law_thing) (hr.mono (by decide)) (by rfl) t.m_law_thing t.f_law_thing.kp t.b_law_thing tk (da_cons (de_var 0 (pv 0)) da_nil) (len_cons len_nil)) (da_cons (de_call (G_law_thing) (hr.mono (by decide)) (by rfl) t.m_law_thing t.f_law_thing.kp t.b_law_thing tk (da_cons (de_var 0 (pv 0)) da_nil) (len_cons len_nil)) da_nil))) (dg_seq rfl (dgs_cons (dg_var 1 (pg_name (i := 1) sc_law_right.nd rfl (by first | exact Or.inl rfl | exact Or.inr rfl))) (dgs_cons (dg_var 2 (pg_name (i := 2) sc_law_right.nd rfl (by first | exact Or.inl rfl | exact Or.inr rfl))) dgs_nil)))) (dss_cons (ds_par 3 4 rfl sc_law_right.nd rfl rfl (by decide) (by rfl) (by rfl) (da_cons (de_call (G_law_with_given) (hr.mono (by decide)) (by rfl) t.m_law_with_given t.f_law_with_given.kp t.b_law_with_given tk (da_cons (de_var 1 (pv 1)) da_nil) (len_cons len_nil)) (da_cons (de_call (G_law_with_given_named) (hr.mono (by decide)) (by rfl) t.m_law_with_given_named t.f_law_with_given_named.kp t.b_law_with_given_named tk (da_cons (de_var 2 (pv 2)) da_nil) (len_cons len_nil)) da_nil)) (by rfl)) (dss_cons (ds_par 5 6 rfl sc_law_right.nd rfl rfl (by decide) (by rfl) (by rfl) (da_cons (de_call (G_law_with_index) (hr.mono (by decide)) (by rfl) t.m_law_with_index t.f_law_with_index.kp t.b_law_with_index tk (da_cons (de_var 2 (pv 2)) da_nil) (len_cons len_nil)) (da_cons (de_call (G_law_with_index_named) (hr.mono (by decide)) (by rfl) t.m_law_with_index_named t.f_law_with_index_named.kp t.b_law_with_index_named tk (da_cons (de_var 1 (pv 1)) da_nil) (len_cons len_nil)) da_nil)) (by rfl)) (dss_cons (ds_if (dt_w (dw_or (dt_ne hu (de_lc (own := [("_law_e", 8)]) rfl sc_law_right.nd (di_seq (de_var 3 (pv 3))) (blkOk_by (N := N_law_right) (sc := defScope s_law_right) (own := [("_law_e", 8)]) (by decide +kernel)) (by decide) (fun _ _ _ _ _ => dg_var 8 (pg_name (i := 8) sc_law_right.nd rfl (by first | exact Or.inl rfl | exact Or.inr rfl))) (fun _ _ _ _ _ => dts_one (dt_ne hu (de_repr hu hgd (by rfl) t.z_repr (da_cons (de_xfl t.x_given (de_var 8 (pv 8))) da_nil)) (de_repr hu hgd (by rfl) t.z_repr (da_cons (de_var 1 (pv 1)) da_nil)))) (fun _ _ _ _ _ => de_xfl t.x_given (de_var 8 (pv 8)))) (de_lst da_nil)) (dw_or1 (dt_ne hu (de_len (by rfl) t.z_len (da_cons (de_var 3 (pv 3)) da_nil)) de_int)))) (dss_one (ds_ret de_bl)) dss_nil) (dss_cons (ds_if (dt_ne hu (de_lc (own := [("_law_e", 8)]) rfl sc_law_right.nd (di_seq (de_var 4 (pv 4))) (blkOk_by (N := N_law_right) (sc := defScope s_law_right) (own := [("_law_e", 8)]) (by decide +kernel)) (by decide) (fun _ _ _ _ _ => dg_var 8 (pg_name (i := 8) sc_law_right.nd rfl (by first | exact Or.inl rfl | exact Or.inr rfl))) (fun _ _ _ _ _ => dts_one (dt_ne hu (de_repr hu hgd (by rfl) t.z_repr (da_cons (de_xfl t.x_given (de_var 8 (pv 8))) da_nil)) (de_repr hu hgd (by rfl) t.z_repr (da_cons (de_var 2 (pv 2)) da_nil)))) (fun _ _ _ _ _ => de_xfl t.x_given (de_var 8 (pv 8)))) (de_lst da_nil)) (dss_one (ds_ret de_bl)) dss_nil) (dss_cons (ds_if (dt_ne hu (de_lc (own := [("_law_e", 8)]) rfl sc_law_right.nd (di_seq (de_var 5 (pv 5))) (blkOk_by (N := N_law_right) (sc := defScope s_law_right) (own := [("_law_e", 8)]) (by decide +kernel)) (by decide) (fun _ _ _ _ _ => dg_var 8 (pg_name (i := 8) sc_law_right.nd rfl (by first | exact Or.inl rfl | exact Or.inr rfl))) (fun _ _ _ _ _ => dts_one (dt_ne hu (de_repr hu hgd (by rfl) t.z_repr (da_cons (de_xfl t.x_index (de_var 8 (pv 8))) da_nil)) (de_repr hu hgd (by rfl) t.z_repr (da_cons (de_var 2 (pv 2)) da_nil)))) (fun _ _ _ _ _ => de_xfl t.x_index (de_var 8 (pv 8)))) (de_lst da_nil)) (dss_one (ds_ret de_bl)) dss_nil) (dss_cons (ds_if (dt_ne hu (de_lc (own := [("_law_e", 8)]) rfl sc_law_right.nd (di_seq (de_var 6 (pv 6))) (blkOk_by (N := N_law_right) (sc := defScope s_law_right) (own := [("_law_e", 8)]) (by decide +kernel)) (by decide) (fun _ _ _ _ _ => dg_var 8 (pg_name (i := 8) sc_law_right.nd rfl (by first | exact Or.inl rfl | exact Or.inr rfl))) (fun _ _ _ _ _ => dts_one (dt_ne hu (de_repr hu hgd (by rfl) t.z_repr (da_cons (de_xfl t.x_index (de_var 8 (pv 8))) da_nil)) (de_repr hu hgd (by rfl) t.z_repr (da_cons (de_var 1 (pv 1)) da_nil)))) (fun _ _ _ _ _ => de_xfl t.x_index (de_var 8 (pv 8)))) (de_lst da_nil)) (dss_one (ds_ret de_bl)) dss_nil) (dss_cons (ds_if (dt_not (dt_val (de_call (G_law_stand) (hr.mono (by decide)) (by rfl) t.m_law_stand t.f_law_stand.kp t.b_law_stand tk (da_cons (de_ite (dt_eq hu (de_call (G_law_draw) (hr.mono (by decide)) (by rfl) t.m_law_draw t.f_law_draw.kp t.b_law_draw tk (da_cons (de_var 0 (pv 0)) (da_cons de_int da_nil)) (len_cons (len_cons len_nil))) de_int) (de_var 3 (pv 3)) (de_var 4 (pv 4))) (da_cons de_int da_nil)) (len_cons (len_cons len_nil))))) (dss_one (ds_ret de_bl)) dss_nil) (dss_cons (ds_if (dt_w (dw_or (dt_not (dt_val (de_call (G_law_stand) (hr.mono (by decide)) (by rfl) t.m_law_stand t.f_law_stand.kp t.b_law_stand tk (da_cons (de_ite (dt_eq hu (de_call (G_law_draw) (hr.mono (by decide)) (by rfl) t.m_law_draw t.f_law_draw.kp t.b_law_draw tk (da_cons (de_var 0 (pv 0)) (da_cons de_int da_nil)) (len_cons (len_cons len_nil))) de_int) (de_var 5 (pv 5)) (de_var 6 (pv 6))) (da_cons de_int da_nil)) (len_cons (len_cons len_nil))))) (dw_or1 (dt_not (dt_val (de_call (G_law_stand) (hr.mono (by decide)) (by rfl) t.m_law_stand t.f_law_stand.kp t.b_law_stand tk (da_cons (de_call0 (G_law_bare) (hr.mono (by decide)) (by rfl) t.m_law_bare t.f_law_bare.kp t.b_law_bare tk) (da_cons de_int da_nil)) (len_cons (len_cons len_nil)))))))) (dss_one (ds_ret de_bl)) dss_nil) (dss_cons (ds_set 7 sc_law_right.nd rfl (by first | exact Or.inl rfl | exact Or.inr rfl) (de_exc0 F.excBase_ValueError t.q0 t.n0 t.k0 (by rfl))) (dss_one (ds_ret (de_and (de_notIn hu2 de_bl (dq_val (de_call (G_law_marks) (hr.mono (by decide)) (by rfl) t.m_law_marks t.f_law_marks.kp t.b_law_marks tk (da_cons (de_var 7 (pv 7)) da_nil) (len_cons len_nil)))) (de_one (de_call (G_law_is_under) (hr.mono (by decide)) (by rfl) t.m_law_is_under t.f_law_is_under.kp t.b_law_is_under tk (da_cons (de_var 7 (pv 7)) da_nil) (len_cons len_nil)))))))))))))))
theorem sclaw : FnScope Nlaw ["_law_script"] (defScope slaw) := ⟨rfl, rfl, rfl, by decide +kernel, rfl, by decide +kernel, by decide +kernel⟩
theorem oklaw (t : Txt K mg a Cs fI gI fa fd) : FnG P w K mg base (L2.CX P w) 6 (fa 14) (fd 14) ["_law_script"] (spD K mg 1 (Flaw K a Cs)) := by
  refine def_okG (k := 5) (m := Mlaw K a Cs) t.flaw sclaw (fun _ _ => rfl) fun cdv A outer s H E En hr hgd tk pa => ?_
  have hu := hr.units
  have hu2 : (A.deeper (PyProof.Rows.envOfC "law" (defScope slaw) s.heap.objs.size (fa 14) cdv)).units + 65 < cLine := by have := hr.un; omega
  have G_law_right := ok_law_right (P := P) (w := w) (base := base) t
  have G_law_tank := ok_law_tank (P := P) (w := w) (base := base) t
  unfold Mlaw
  exact dss_cons (ds_for pa rfl (di_range1 (by rfl) t.z_range (da_cons de_int da_nil) (len_cons len_nil)) (dg_var 1 (pg_name (i := 1) sclaw.nd rfl (by first | exact Or.inl rfl | exact Or.inr rfl))) (dss_one (ds_if (dt_not (dt_val (de_callG (G_law_right) (hr.mono (by decide)) hgd (by rfl) t.m_law_right t.f_law_right.kp t.b_law_right tk (da_cons (de_call (G_law_tank) (hr.mono (by decide)) (by rfl) t.m_law_tank t.f_law_tank.kp t.b_law_tank tk (da_cons (de_var 0 (pv 0)) (da_cons (de_var 1 (pv 1)) da_nil)) (len_cons (len_cons len_nil))) da_nil) (len_cons len_nil)))) (dss_one (ds_ret de_bl)) dss_nil))) (dss_one (ds_ret de_bl))
end
end L01
set_option Elab.async false
set_option linter.all false
set_option maxRecDepth 100000
set_option maxHeartbeats 4000000
set_option autoImplicit false
namespace L01
open PySem L2 DL
/-- the sack at n: what is left, the stirred number, the count -/
def Sk (p : Int) (S : Sto) (n : Nat) : Prop := ∃ r st c, S[n]? = some (.lst [.int r, .int st, .int c]) ∧ 0 ≤ r ∧ 0 ≤ st ∧ st < p
theorem Sk.lt {p : Int} {S : Sto} {n : Nat} (h : Sk p S n) : n < S.length := by
  obtain ⟨r, st, c, e, _⟩ := h
  exact (List.getElem?_eq_some_iff.mp e).1
abbrev p1 : Int := 2147483629
section
variable {K : PySem.W.Frag} {a : Nat → Addr} {Cs : List Addr}
theorem draw_ok {S : Sto} {n : Nat} {m : Int} (hs : Sk p1 S n) (h0 : 0 < m) (h1 : m < 2 ^ 60) : ∃ d S', F_law_draw K a Cs [.obj n, .int m] S = .ok (.int d) S' ∧ 0 ≤ d ∧ d < m ∧ Sk p1 S' n := by
  have hlt := hs.lt
  obtain ⟨r, st, c, e, hr, hst, hp⟩ := hs
  have hm : divmodW r m = true := by
    unfold divmodW
    rw [pylong_small (by omega)]
    simp [h0]
  by_cases hz : 0 < r
  · refine ⟨r % m, S.set n (.lst [.int (r / m), .int st, .int c]), ?_, Int.emod_nonneg _ (by omega), Int.emod_lt_of_pos _ h0, ⟨r / m, st, c, by rw [List.getElem?_set_self hlt], Int.ediv_nonneg hr (by omega), hst, hp⟩⟩
    unfold F_law_draw runB M_law_draw
    simp [envStart, sSeq, sIf, sE, eTest, eBin, eIxK, eV, eC, Out.bind, opt, itemsIn, e, atI, ixN, cmpI, boolOf, hz, sAsg, eFn, aCons, aNil, divmodF, hm, gSeq, gsCons, gsNil, seqOf, gItm, gVar, sRet]
  · have hset : ∀ x, (S.set n x)[n]? = some x := fun x => List.getElem?_set_self hlt
    have m1 : mulN st (st % 9001 + 30011) = true := by simp [mulN]; omega
    have m2 : mulN 70001 (c + 1) = true := by simp [mulN]
    have d1 : divW 53 = true := by decide
    have pm : (0 : Int) < 2147483629 := by decide
    refine ⟨(st * (st % 9001 + 30011) + 70001 * (c + 1) + 19) % 2147483629 / 53 % m, S.set n (.lst [.int r, .int ((st * (st % 9001 + 30011) + 70001 * (c + 1) + 19) % 2147483629), .int (c + 1)]), ?_, Int.emod_nonneg _ (by omega), Int.emod_lt_of_pos _ h0, ⟨r, _, c + 1, by rw [List.getElem?_set_self hlt], hr, Int.emod_nonneg _ (by decide), Int.emod_lt_of_pos _ (by decide)⟩⟩
    unfold F_law_draw runB M_law_draw
    simp [envStart, sSeq, sIf, sE, eTest, eBin, eIxK, eV, eC, Out.bind, opt, itemsIn, e, atI, ixN, cmpI, boolOf, hz, sAsg, eFn, aCons, aNil, divmodF, hm, gSeq, gsCons, gsNil, seqOf, gItm, gVar, sRet, sNext, addD, orElse, addI, hset, sSet, modI, intF, mulI, m1, m2, fdivI, d1, h0]
theorem at_in {l : List D} {d : Int} (h0 : 0 ≤ d) (h1 : d < l.length) : ∃ x, atI l d = some x ∧ x ∈ l := by
  have hl : d.toNat < l.length := by omega
  refine ⟨l[d.toNat], ?_, List.getElem_mem hl⟩
  unfold atI ixN
  rw [if_pos h0, if_pos h1]
  simp [hl]
theorem pick_ok {S : Sto} {n : Nat} {l : List D} (hs : Sk p1 S n) (h0 : 0 < l.length) (h1 : l.length < 1000) : ∃ x S', F_law_pick K a Cs [.obj n, .tup l] S = .ok x S' ∧ x ∈ l ∧ Sk p1 S' n := by
  obtain ⟨d, S', e, g0, g1, hs'⟩ := draw_ok (K := K) (a := a) (Cs := Cs) (m := (l.length : Int)) hs (by omega) (by omega)
  obtain ⟨x, e2, hx⟩ := at_in g0 g1
  refine ⟨x, S', ?_, hx, hs'⟩
  unfold F_law_pick runB M_law_pick
  simp [envStart, sE, eIx, eSeq, eV, Out.bind, opt, seqOf, eCall, aCons, aNil, eFn, lenF, e, ixQ, e2, sRet]
theorem number_ok {S : Sto} {n : Nat} (hs : Sk p1 S n) : ∃ i S', F_law_number K a Cs [.obj n] S = .ok (.int i) S' ∧ i.natAbs < 2 ^ 200 ∧ Sk p1 S' n := by
  obtain ⟨x, S1, e1, hx, s1⟩ := pick_ok (K := K) (a := a) (Cs := Cs) (l := [.int 1, .int 2, .int 3, .int 9, .int 9, .int 99, .int 0]) hs (by decide) (by decide)
  have hx' : ∃ i : Int, x = .int i ∧ 0 ≤ i ∧ i ≤ 99 := by
    simp at hx
    rcases hx with h | h | h | h | h | h <;> exact ⟨_, h, by decide, by decide⟩
  obtain ⟨z, rfl, z0, z1⟩ := hx'
  have sz : (7 : Nat) ≤ sizeLine := by rw [sizeLine_eq]; decide
  by_cases hz : 0 < z
  · obtain ⟨d, S2, e2, g0, g1, s2⟩ := draw_ok (K := K) (a := a) (Cs := Cs) (m := 2 * z + 1) s1 (by omega) (by omega)
    refine ⟨d - z, S2, ?_, by omega, s2⟩
    unfold F_law_number runB M_law_number
    simp [envStart, sSeq, sSet, sIf, sE, eTest, eBin, eV, eC, Out.bind, opt, eCall, aCons, aNil, eTup, sz, e1, cmpI, boolOf, hz, mulI, mulN, addD, orElse, addI, e2, subI, sRet]
  · obtain ⟨d1, S2, e2, g0, g1, s2⟩ := draw_ok (K := K) (a := a) (Cs := Cs) (m := 1000003) s1 (by omega) (by omega)
    obtain ⟨d2, S3, e3, g2, g3, s3⟩ := draw_ok (K := K) (a := a) (Cs := Cs) (m := 1000003) s2 (by omega) (by omega)
    obtain ⟨d3, S4, e4, g4, g5, s4⟩ := draw_ok (K := K) (a := a) (Cs := Cs) (m := 2) s3 (by omega) (by omega)
    have m1 : mulN d1 1000003 = true := by simp [mulN]
    have m2 : mulN 2 d3 = true := by simp [mulN]
    have m3 : mulN (d1 * 1000003 + d2) (1 - 2 * d3) = true := by simp [mulN]; omega
    refine ⟨(d1 * 1000003 + d2) * (1 - 2 * d3), S4, ?_, ?_, s4⟩
    · unfold F_law_number runB M_law_number
      simp [envStart, sSeq, sSet, sIf, sE, eTest, eBin, eV, eC, Out.bind, opt, eCall, aCons, aNil, eTup, sz, e1, cmpI, boolOf, hz, mulI, m1, m2, m3, addD, orElse, addI, e2, e3, e4, subI, sRet, sNext]
    · have : d3 = 0 ∨ d3 = 1 := by omega
      rcases this with h | h <;> (subst h; omega)
theorem good_list : ∀ d ∈ ([.non, .bl true, .bl false, .int 0, .int (-7), .str "", .str "arm", .tup [], .tup [.int 1, .int 0, .int (-2)], .lst [], .lst [.int 1, .lst [.int 2]], .dsi [("x", 1)], .tup [.tup [.int 0, .int 1], .non], .str "a b"] : List D), Good d := by
  intro d hd
  simp at hd
  rcases hd with h | h | h | h | h | h | h | h | h | h | h | h | h | h <;> (subst h; exact ⟨_, rfl, by decide +kernel⟩)
theorem thing_ok {S : Sto} {n : Nat} (hs : Sk p1 S n) : ∃ d S', F_law_thing K a Cs [.obj n] S = .ok d S' ∧ Good d ∧ Sk p1 S' n := by
  obtain ⟨x, S1, e1, hx, s1⟩ := pick_ok (K := K) (a := a) (Cs := Cs) (l := [.non, .bl true, .bl false, .int 0, .int (-7), .str "", .str "arm", .tup [], .tup [.int 1, .int 0, .int (-2)], .lst [], .lst [.int 1, .lst [.int 2]], .dsi [("x", 1)], .tup [.tup [.int 0, .int 1], .non], .str "a b"]) hs (by decide) (by decide)
  have gx := good_list x hx
  obtain ⟨d, S2, e2, g0, g1, s2⟩ := draw_ok (K := K) (a := a) (Cs := Cs) (m := 3) s1 (by omega) (by omega)
  have sz : sizeLine = 16777216 := by rw [sizeLine_eq]
  by_cases hz : d = 0
  · obtain ⟨i, S3, e3, gi, s3⟩ := number_ok (K := K) (a := a) (Cs := Cs) s2
    refine ⟨.int i, S3, ?_, good_int gi, s3⟩
    unfold F_law_thing runB M_law_thing
    simp [envStart, sSeq, sSet, sE, eTest, eBin, eV, eC, Out.bind, opt, eCall, aCons, aNil, eTup, eLst, eUn, negI, eDsi, sz, e1, e2, e3, boolOf, eIte, eqD, orElse, eqS, eqP, D.py, SeqAt.shaped, PyData.canLay0, PyData.depth, PyData.eqv, hz, sRet]
  · refine ⟨x, S2, ?_, gx, s2⟩
    unfold F_law_thing runB M_law_thing
    simp [envStart, sSeq, sSet, sE, eTest, eBin, eV, eC, Out.bind, opt, eCall, aCons, aNil, eTup, eLst, eUn, negI, eDsi, sz, e1, e2, boolOf, eIte, eqD, orElse, eqS, eqP, D.py, SeqAt.shaped, PyData.canLay0, PyData.depth, PyData.eqv, hz, sRet]
end
end L01
set_option Elab.async false
set_option linter.all false
set_option maxRecDepth 100000
set_option maxHeartbeats 8000000
set_option autoImplicit false
namespace L01
open PySem L2 DL
/-- what the classes say of one another -/
structure Kit (K : PySem.W.Frag) (a : Nat → Addr) (Cs : List Addr) : Prop where
  mem : ∀ i < 53, a i ∈ Cs
  own : ∀ i < 53, ∀ j < 53, j ≠ 0 → PySem.W.kitOne K (.ref (a i)) (.ref (a j)) = some (decide (i = j))
  base : ∀ i < 53, PySem.W.kitOne K (.ref (a i)) (.ref (a 0)) = some true
  ve : ∀ i < 53, PySem.W.kitOne K (.ref (a i)) (.type "ValueError") = some true
  le : ∀ i < 53, PySem.W.kitOne K (.ref (a i)) (.type "LookupError") = some false
  ae : ∀ i < 53, PySem.W.kitOne K (.ref (a i)) (.type "ArithmeticError") = some false
  te : ∀ i < 53, PySem.W.kitOne K (.ref (a i)) (.type "TypeError") = some false
  re : ∀ i < 53, PySem.W.kitOne K (.ref (a i)) (.type "RuntimeError") = some false
section
variable {K : PySem.W.Frag} {a : Nat → Addr} {Cs : List Addr}
/-- exceptions of the classes from s on, all of one field -/
def excs (a : Nat → Addr) (s n : Nat) (f : Str) (l : List D) : List D := (List.range n).map fun i => .exi (a (s + i)) f l
theorem cat_ok {xs ys : List D} (h : xs.length + ys.length ≤ 1000) : addD (.lst xs) (.lst ys) = some (.lst (xs ++ ys)) := by
  have : xs.length + ys.length ≤ sizeLine := by rw [sizeLine_eq]; omega
  simp [addD, orElse, addI, addIB, addS, catL, this]
theorem sz : ∀ n, n ≤ 1000 → n ≤ sizeLine := fun n h => by rw [sizeLine_eq]; omega
theorem given_ok {d : D} {S : Sto} : F_law_with_given K a Cs [d] S = .ok (.lst (excs a 1 35 "given" [d])) S := by
  unfold F_law_with_given runB M_law_with_given
  simp [envStart, sSeq, sSet, sE, eBin, eV, Out.bind, opt, aCons, aNil, eLst, sz, eExc, cat_ok, sRet, excs, List.range_succ]
theorem given_named_ok {d : D} {S : Sto} : F_law_with_given_named K a Cs [d] S = .ok (.lst (excs a 1 35 "given" [d])) S := by
  unfold F_law_with_given_named runB M_law_with_given_named
  simp [envStart, sSeq, sSet, sE, eBin, eV, Out.bind, opt, aCons, aNil, eLst, sz, eExc, cat_ok, sRet, excs, List.range_succ]
theorem index_ok {d : D} {S : Sto} : F_law_with_index K a Cs [d] S = .ok (.lst (excs a 36 9 "index" [d])) S := by
  unfold F_law_with_index runB M_law_with_index
  simp [envStart, sSeq, sSet, sE, eBin, eV, Out.bind, opt, aCons, aNil, eLst, sz, eExc, cat_ok, sRet, excs, List.range_succ]
theorem index_named_ok {d : D} {S : Sto} : F_law_with_index_named K a Cs [d] S = .ok (.lst (excs a 36 9 "index" [d])) S := by
  unfold F_law_with_index_named runB M_law_with_index_named
  simp [envStart, sSeq, sSet, sE, eBin, eV, Out.bind, opt, aCons, aNil, eLst, sz, eExc, cat_ok, sRet, excs, List.range_succ]
theorem bare_ok {S : Sto} : F_law_bare K a Cs [] S = .ok (.lst (excs a 45 8 "" [])) S := by
  unfold F_law_bare runB M_law_bare
  simp [envStart, sE, Out.bind, aCons, aNil, eLst, sz, eExc0, sRet, excs, List.range_succ]
def marks (i : Nat) : List D := (List.range 52).map fun j => .bl (decide (i = j + 1))
theorem isi_ok (k : Kit K a Cs) {i : Nat} {f : Str} {l : List D} (hi : i < 53) (j : Nat) (hj : j < 53) (h0 : j ≠ 0) : isiF K Cs (.ref (a j)) (.exi (a i) f l) = some (.bl (decide (i = j))) := by
  simp [isiF, k.mem i hi, k.own i hi j hj h0]
theorem marks_ok (k : Kit K a Cs) {i : Nat} {f : Str} {l : List D} {S : Sto} (hi : i < 53) : F_law_marks K a Cs [.exi (a i) f l] S = .ok (.lst (marks i)) S := by
  unfold F_law_marks runB M_law_marks
  simp [envStart, sSeq, sSet, sE, eBin, eV, Out.bind, opt, aCons, aNil, eLst, sz, eUn, isi_ok k hi, cat_ok, sRet, marks, List.range_succ]
theorem under_ok (k : Kit K a Cs) {i : Nat} {f : Str} {l : List D} {S : Sto} (hi : i < 53) : F_law_is_under K a Cs [.exi (a i) f l] S = .ok (.bl true) S := by
  unfold F_law_is_under runB M_law_is_under
  simp [envStart, sSeq, sIf, sE, eV, Out.bind, opt, eUn, isiF, k.mem i hi, k.base i hi, k.ve i hi, k.le i hi, k.ae i hi, k.te i hi, k.re i hi, tOr', tNot', eTest, boolOf, sNext, sRet, eAnd, eNot]
end
end L01
set_option Elab.async false
set_option linter.all false
set_option maxRecDepth 100000
set_option maxHeartbeats 8000000
set_option autoImplicit false
namespace L01
open PySem L2 DL
section
variable {K : PySem.W.Frag} {a : Nat → Addr} {Cs : List Addr}
theorem pick1 : ∀ i : Nat, i < 53 → 0 < i → (List.range 52).filter (fun j : Nat => decide ((0 + (j : Int)) + 1 = (i : Int))) = [i - 1] := by decide +kernel
theorem comp_ok {ρ : DL.Env} {S : Sto} {i : Nat} (h0 : 0 < i) (hi : i < 53) (h3 : ρ[3]? = some (.val (.lst (marks i)))) (h4 : 4 < ρ.length) :
    eLc [4] (iRng (aCons (eFn lenF (aCons (eV 3) aNil)) aNil)) (gVar 4) (eTest (eBin isntB (eIx (eSeq (eV 3)) (eV 4)) (eC (.bl false)))) (eV 4) ρ S = .ok (.lst [.int ((i : Int) - 1)]) S := by
  have hl : (marks i).length = 52 := by simp [marks]
  have e1 : iRng (aCons (eFn lenF (aCons (eV 3) aNil)) aNil) ρ S = .ok ((List.range 52).map fun j => .int (0 + (j : Nat))) S := by
    have := iRng1 (eLen (ρ := ρ) (S := S) (S1 := S) (e := eV 3) (d := .lst (marks i)) (by simp [eV, h3]) rfl) (by rw [hl]; decide)
    rw [hl] at this
    exact this
  have e2 : lcF (gVar 4) (eTest (eBin isntB (eIx (eSeq (eV 3)) (eV 4)) (eC (.bl false)))) (eV 4) (wipeE ρ [4]) ((List.range 52).map fun j => .int (0 + (j : Nat))) [] S = .ok [.int ((i : Int) - 1)] S := by
    rw [lcF_pure (p := fun d => match d with | .int z => decide (z + 1 = (i : Int)) | _ => false) (v := id) _ _ ?_ (by simp; exact sz 52 (by decide))]
    · rw [List.filter_map]
      have e3 : (List.range 52).filter ((fun d : D => match d with | .int z => decide (z + 1 = (i : Int)) | _ => false) ∘ fun j : Nat => D.int (0 + (j : Int))) = [i - 1] := pick1 i hi h0
      rw [e3]
      simp
      omega
    · intro d hd
      rw [List.mem_map] at hd
      obtain ⟨j, hj, rfl⟩ := hd
      rw [List.mem_range] at hj
      have g4 : ∀ x : Sl, (List.set (wipeE ρ [4]) 4 x)[4]? = some x := fun x => List.getElem?_set_self (by simp [wipeE, h4])
      have g3 : ∀ x : Sl, (List.set (wipeE ρ [4]) 4 x)[3]? = some (.val (.lst (marks i))) := fun x => by
        rw [List.getElem?_set_ne (by decide)]
        show (List.set ρ 4 .no)[3]? = _
        rw [List.getElem?_set_ne (by decide), h3]
      have ga : atI (marks i) (0 + (j : Int)) = some (.bl (decide (i = j + 1))) := by
        have : (0 : Int) ≤ 0 + (j : Int) := by omega
        have : 0 + (j : Int) < ((marks i).length : Int) := by rw [hl]; omega
        unfold atI ixN
        rw [if_pos (by omega), if_pos (by rw [hl]; omega)]
        simp [marks, hj]
      refine ⟨List.set (wipeE ρ [4]) 4 (.val (.int (0 + (j : Int)))), rfl, ?_, ?_⟩
      · simp only [eTest, eBin, eIx, eSeq, eV, g3, g4, Out.bind_ok, seqOf, opt_some, ixQ, ga, eC, isntB, boolOf]
        congr 1
        by_cases z : i = j + 1
        · simp [z]
        · simp [z]; omega
      · intro _
        simp only [eV, g4]
        rfl
  unfold eLc
  rw [e1, Out.bind_ok, e2]
  rfl
theorem ne_one (x : Int) : neD (.lst [.int x]) (.lst [.int x]) = some (.bl false) := by
  simp [neD, orElse, neS, neP, D.py, D.pys, SeqAt.shaped, PyData.canLay0, PyData.canLayAll0, PyData.depth, PyData.depthAll, PyData.eqv, PyData.eqvAll]
theorem exc_at {s n j : Nat} {f : Str} {l : List D} (h : j < n) : atI (excs a s n f l) (0 + (j : Int)) = some (.exi (a (s + j)) f l) := by
  have hl : (excs a s n f l).length = n := by simp [excs]
  unfold atI ixN
  rw [if_pos (by omega), if_pos (by rw [hl]; omega)]
  simp [excs, h]
/-- one turn -/
def bodyS (K : PySem.W.Frag) (a : Nat → Addr) (Cs : List Addr) : SM := (sSeq (sSet 3 (eCall (F_law_marks K a Cs) (aCons (eIx (eSeq (eV 0)) (eV 2)) aNil))) (sIf (tOr' (eTest (eBin neD (eLc [4] (iRng (aCons (eFn lenF (aCons (eV 3) aNil)) aNil)) (gVar 4) (eTest (eBin isntB (eIx (eSeq (eV 3)) (eV 4)) (eC (.bl false)))) (eV 4)) (eLst (aCons (eBin addD (eV 1) (eV 2)) aNil)))) (tNot' (eTest (eCall (F_law_is_under K a Cs) (aCons (eIx (eSeq (eV 0)) (eV 2)) aNil))))) (sRet (eC (.bl false))) sNext))
def envS (E : List D) (st : Int) (x y : Sl) : DL.Env := [.val (.lst E), .val (.int st), x, y, .no]
theorem turn_ok (k : Kit K a Cs) {n start : Nat} {f : Str} {l : List D} {S : Sto} (h : start + n ≤ 52) {j : Nat} (hj : j < n) (x y : Sl) :
    bodyS K a Cs (envS (excs a (start + 1) n f l) start (.val (.int (0 + (j : Int)))) y) S = .nx (envS (excs a (start + 1) n f l) start (.val (.int (0 + (j : Int)))) (.val (.lst (marks (start + 1 + j))))) S := by
  have em := marks_ok (S := S) k (f := f) (l := l) (i := start + 1 + j) (by omega)
  have eu := under_ok (S := S) k (f := f) (l := l) (i := start + 1 + j) (by omega)
  have ec := comp_ok (ρ := envS (excs a (start + 1) n f l) start (.val (.int (0 + (j : Int)))) (.val (.lst (marks (start + 1 + j))))) (S := S) (i := start + 1 + j) (by omega) (by omega) rfl (by simp [envS])
  have en : neD (.lst [.int (((start + 1 + j : Nat) : Int) - 1)]) (.lst [.int ((start : Int) + (0 + (j : Int)))]) = some (.bl false) := by
    have : (((start + 1 + j : Nat) : Int) - 1) = (start : Int) + (0 + (j : Int)) := by omega
    rw [this]; exact ne_one _
  have ex := exc_at (a := a) (s := start + 1) (f := f) (l := l) hj
  have e3 : sSet 3 (eCall (F_law_marks K a Cs) (aCons (eIx (eSeq (eV 0)) (eV 2)) aNil)) (envS (excs a (start + 1) n f l) start (.val (.int (0 + (j : Int)))) y) S = .nx (envS (excs a (start + 1) n f l) start (.val (.int (0 + (j : Int)))) (.val (.lst (marks (start + 1 + j))))) S := by
    simp only [envS, sSet, sE, eCall, aCons, eIx, eSeq, eV, List.set_cons_succ, List.set_cons_zero, List.getElem?_cons_zero, List.getElem?_cons_succ, Out.bind_ok, seqOf, opt_some, ixQ, ex, aNil, em]
  unfold bodyS
  rw [sSeq_nx e3]
  generalize marks (start + 1 + j) = mm at ec ⊢
  have h1 : ∀ i : Nat, (envS (excs a (start + 1) n f l) start (.val (.int (0 + (j : Int)))) (.val (.lst mm)))[i]? = ([.val (.lst (excs a (start + 1) n f l)), .val (.int start), .val (.int (0 + (j : Int))), .val (.lst mm), .no] : DL.Env)[i]? := fun _ => rfl
  have z1 : 0 + 1 ≤ sizeLine := sz 1 (by decide)
  simp only [sIf, sE, tOr', eTest, eBin, ec, Out.bind_ok, eLst, aCons, aNil, eV, h1, List.getElem?_cons_zero, List.getElem?_cons_succ, addD, orElse, addI, opt_some, List.length_cons, List.length_nil, z1, if_true, en, boolOf, tNot', eCall, eIx, eSeq, seqOf, ixQ, ex, eu, Bool.not_true, Bool.false_eq_true, if_false, sNext]
theorem stand_ok (k : Kit K a Cs) {n start : Nat} {f : Str} {l : List D} {S : Sto} (h : start + n ≤ 52) : F_law_stand K a Cs [.lst (excs a (start + 1) n f l), .int start] S = .ok (.bl true) S := by
  have hl : (excs a (start + 1) n f l).length = n := by simp [excs]
  have key := loopF_nx (g := gVar 2) (b := bodyS K a Cs) (fun ρ S' => ∃ x y, ρ = envS (excs a (start + 1) n f l) start x y ∧ S' = S) ((List.range n).map fun j => .int (0 + (j : Nat))) (by
    intro d hd ρ S1 hI
    obtain ⟨x, y, e1, e2⟩ := hI
    subst e1 e2
    rw [List.mem_map] at hd
    obtain ⟨j, hj, rfl⟩ := hd
    rw [List.mem_range] at hj
    exact ⟨envS (excs a (start + 1) n f l) start (.val (.int (0 + (j : Int)))) y, S1, rfl, _, S1, .inl (turn_ok k h hj x y), _, _, rfl, rfl⟩) (envS (excs a (start + 1) n f l) start .no .no) S ⟨_, _, rfl, rfl⟩
  obtain ⟨ρ', S', e, x, y, rfl, rfl⟩ := key
  have e4 : iRng (aCons (eFn lenF (aCons (eV 0) aNil)) aNil) (envS (excs a (start + 1) n f l) start .no .no) S' = .ok ((List.range n).map fun j => .int (0 + (j : Nat))) S' := by
    have := iRng1 (eLen (ρ := envS (excs a (start + 1) n f l) start .no .no) (S := S') (S1 := S') (e := eV 0) (d := .lst (excs a (start + 1) n f l)) rfl rfl) (by rw [hl]; omega)
    rw [hl] at this
    exact this
  unfold F_law_stand
  refine runB_rt ?_
  have e5 : envStart 5 [.lst (excs a (start + 1) n f l), .int start] = envS (excs a (start + 1) n f l) start .no .no := rfl
  rw [e5]
  have e6 : M_law_stand K a Cs = sSeq (sFor (iRng (aCons (eFn lenF (aCons (eV 0) aNil)) aNil)) (gVar 2) (bodyS K a Cs)) (sRet (eC (.bl true))) := rfl
  rw [e6, sSeq_nx (sFor_of e4 e)]
  rfl
end
end L01
set_option Elab.async false
set_option linter.all false
set_option maxRecDepth 100000
set_option maxHeartbeats 8000000
set_option autoImplicit false
namespace L01
open PySem L2 DL
section
variable {K : PySem.W.Frag} {a : Nat → Addr} {Cs : List Addr}
def bodyT : SM := (sSet 2 (eBin modI (eFn intF (aCons (eBin addD (eBin addD (eBin mulI (eV 2) (eC (.int 51977))) (eBin modI (eFn intF (aCons (eV 3) aNil)) (eC (.int 2147483629)))) (eC (.int 37))) aNil)) (eC (.int 2147483629))))
def envT (ns : List Int) (sp st : Int) (x : Sl) : DL.Env := [.val (.scr ns), .val (.int sp), .val (.int st), x, .no, .no]
theorem turnT (ns : List Int) (sp st z : Int) : bodyT (envT ns sp st (.val (.int z))) [] = .nx (envT ns sp ((st * 51977 + z % 2147483629 + 37) % 2147483629) (.val (.int z))) [] := by
  have m1 : mulN st 51977 = true := mulN_right (by decide) (by decide)
  have pm : (0 : Int) < 2147483629 := by decide
  unfold bodyT envT
  simp only [sSet, sE, eBin, eFn, aCons, aNil, eV, eC, List.getElem?_cons_zero, List.getElem?_cons_succ, Out.bind_ok, mulI, m1, Bool.true_or, if_true, opt_some, intF, modI, pm, addD, orElse, addI, List.set_cons_succ, List.set_cons_zero]
end
theorem turnT' (ns : List Int) (sp st z : Int) (S : Sto) : bodyT (envT ns sp st (.val (.int z))) S = .nx (envT ns sp ((st * 51977 + z % 2147483629 + 37) % 2147483629) (.val (.int z))) S := by
  have m1 : mulN st 51977 = true := mulN_right (by decide) (by decide)
  have pm : (0 : Int) < 2147483629 := by decide
  unfold bodyT envT
  simp only [sSet, sE, eBin, eFn, aCons, aNil, eV, eC, List.getElem?_cons_zero, List.getElem?_cons_succ, Out.bind_ok, mulI, m1, Bool.true_or, if_true, opt_some, intF, modI, pm, addD, orElse, addI, List.set_cons_succ, List.set_cons_zero]
section
variable {K : PySem.W.Frag} {a : Nat → Addr} {Cs : List Addr}
theorem powD : powI (.int 10) (.int 18) = some (.int 1000000000000000000) := by
  unfold powI
  dsimp only
  rw [if_pos (by decide)]
  rfl
theorem tank_ok (ns : List Int) (sp : Int) (S : Sto) (h0 : 0 ≤ sp) (h1 : sp < 100) : ∃ r st, F_law_tank K a Cs [.scr ns, .int sp] S = .ok (.obj S.length) (S ++ [.lst [.int r, .int st, .int 0]]) ∧ 0 ≤ r ∧ 0 ≤ st ∧ st < p1 := by
  have hcut : eCut (eSeq (eV 0)) oNone (oSome (eC (.int 9))) (envT ns sp (90011 + 2003 * sp) .no) S = .ok (.lst (cutG (ns.map D.int) none (some 9))) S := by
    simp only [eCut, eSeq, eV, envT, List.getElem?_cons_zero, Out.bind_ok, seqOf, opt_some, oNone, oSome, eC, intOf, cutQ, Bool.false_eq_true, if_false]
  have hin : ∀ d ∈ cutG (ns.map D.int) none (some 9), ∃ z, d = D.int z := fun d hd => by
    unfold cutG at hd
    have := List.mem_of_mem_drop (List.mem_of_mem_take hd)
    rw [List.mem_map] at this
    obtain ⟨z, _, rfl⟩ := this
    exact ⟨z, rfl⟩
  obtain ⟨ρ1, S1, e1, st, x, rfl, g0, g1, rfl⟩ := loopF_nx (g := gVar 3) (b := bodyT) (fun ρ S' => ∃ st x, ρ = envT ns sp st x ∧ 0 ≤ st ∧ st < p1 ∧ S' = S) (cutG (ns.map D.int) none (some 9)) (by
    intro d hd ρ S1 hI
    obtain ⟨st, x, rfl, g0, g1, rfl⟩ := hI
    obtain ⟨z, rfl⟩ := hin d hd
    exact ⟨envT ns sp st (.val (.int z)), S1, rfl, _, S1, .inl (turnT' ns sp st z S1), _, _, rfl, Int.emod_nonneg _ (by decide), Int.emod_lt_of_pos _ (by decide), rfl⟩) (envT ns sp (90011 + 2003 * sp) .no) S ⟨_, _, rfl, by omega, by show _ < (2147483629 : Int); omega, rfl⟩
  have hown : ∃ own, eIte (eTest (eBin ltI (eV 1) (eFn lenF (aCons (eV 0) aNil)))) (eFn intF (aCons (eIx (eSeq (eV 0)) (eV 1)) aNil)) (eV 2) (envT ns sp st x) S1 = .ok (.int own) S1 := by
    have hl : eFn lenF (aCons (eV 0) aNil) (envT ns sp st x) S1 = .ok (.int ((ns.map D.int).length : Int)) S1 := eLen (d := .scr ns) rfl rfl
    by_cases hz : sp < ((ns.map D.int).length : Int)
    · obtain ⟨y, ey, hy⟩ := at_in h0 hz
      rw [List.mem_map] at hy
      obtain ⟨z, _, rfl⟩ := hy
      refine ⟨z, ?_⟩
      have e0 : eV 1 (envT ns sp st x) S1 = .ok (.int sp) S1 := rfl
      have e2 : eSeq (eV 0) (envT ns sp st x) S1 = .ok (false, ns.map D.int) S1 := rfl
      exact eIte_t (eTest_of (eBin_of e0 hl (by simp only [cmpI, hz, decide_true]))) (eFn_of (aCons_of (eIx_of (z := .int z) e2 e0 (by simp only [ixQ, ey])) aNil_of) rfl)
    · refine ⟨st, ?_⟩
      have e0 : eV 1 (envT ns sp st x) S1 = .ok (.int sp) S1 := rfl
      have e2 : eV 2 (envT ns sp st x) S1 = .ok (.int st) S1 := rfl
      exact eIte_f (eTest_of (eBin_of e0 hl (by simp only [cmpI, hz, decide_false]))) e2
  obtain ⟨own, hown⟩ := hown
  have hrest : ∃ r, eIte (tOr' (eTest (eBin ltI (eV 4) (eC (.int 0)))) (eTest (eBin geI (eV 4) (eBin powI (eC (.int 10)) (eC (.int 18)))))) (eFn absF (aCons (eV 4) aNil)) (eC (.int 0)) [.val (.scr ns), .val (.int sp), .val (.int st), x, .val (.int own), .no] S1 = .ok (.int r) S1 ∧ 0 ≤ r := by
    have e4 : eV 4 [.val (.scr ns), .val (.int sp), .val (.int st), x, .val (.int own), .no] S1 = .ok (.int own) S1 := rfl
    by_cases z1 : own < 0
    · refine ⟨if own < 0 then -own else own, ?_, by split <;> omega⟩
      simp only [eIte, tOr', eTest, eBin, e4, eC, Out.bind_ok, cmpI, opt_some, boolOf, z1, decide_true, if_true, eFn, aCons, aNil, absF]
    · by_cases z2 : (1000000000000000000 : Int) ≤ own
      · refine ⟨if own < 0 then -own else own, ?_, by split <;> omega⟩
        simp only [eIte, tOr', eTest, eBin, e4, eC, Out.bind_ok, cmpI, opt_some, boolOf, z1, decide_false, Bool.false_eq_true, if_false, powD, z2, decide_true, if_true, eFn, aCons, aNil, absF]
      · refine ⟨0, ?_, Int.le_refl _⟩
        simp only [eIte, tOr', eTest, eBin, e4, eC, Out.bind_ok, cmpI, opt_some, boolOf, z1, decide_false, Bool.false_eq_true, if_false, powD, z2]
  obtain ⟨r, hrest, hr⟩ := hrest
  have m0 : mulN 2003 sp = true := mulN_left (by decide) (by decide)
  have m1 : mulN st 33013 = true := mulN_right (by decide) (by decide)
  have m2 : mulN (own % 2147483629) 7001 = true := mulN_right (by decide) (by decide)
  have pm : (0 : Int) < 2147483629 := by decide
  have z3 : 0 + 1 + 1 + 1 ≤ sizeLine := sz 3 (by decide)
  refine ⟨r, (st * 33013 + own % 2147483629 * 7001 + 3) % 2147483629, ?_, hr, Int.emod_nonneg _ (by decide), Int.emod_lt_of_pos _ (by decide)⟩
  unfold F_law_tank
  refine runB_rt ?_
  have b1 : sSet 2 (eBin addD (eC (.int 90011)) (eBin mulI (eC (.int 2003)) (eV 1))) (envStart 6 [.scr ns, .int sp]) S1 = .nx (envT ns sp (90011 + 2003 * sp) .no) S1 := by
    have e0 : eV 1 (envStart 6 [.scr ns, .int sp]) S1 = .ok (.int sp) S1 := rfl
    simp only [sSet, sE, eBin, eC, e0, Out.bind_ok, mulI, m0, Bool.true_or, if_true, opt_some, addD, orElse, addI]
    rfl
  have b2 : sFor (iSeq (eCut (eSeq (eV 0)) oNone (oSome (eC (.int 9))))) (gVar 3) bodyT (envT ns sp (90011 + 2003 * sp) .no) S1 = .nx (envT ns sp st x) S1 := by
    refine sFor_of (S1 := S1) (l := cutG (ns.map D.int) none (some 9)) ?_ e1
    simp only [iSeq, hcut, Out.bind_ok, seqOf, Option.map_some, opt_some]
  have b3 : sSet 4 (eIte (eTest (eBin ltI (eV 1) (eFn lenF (aCons (eV 0) aNil)))) (eFn intF (aCons (eIx (eSeq (eV 0)) (eV 1)) aNil)) (eV 2)) (envT ns sp st x) S1 = .nx [.val (.scr ns), .val (.int sp), .val (.int st), x, .val (.int own), .no] S1 := by
    unfold sSet sE
    rw [hown]
    rfl
  have b4 : sSet 5 (eIte (tOr' (eTest (eBin ltI (eV 4) (eC (.int 0)))) (eTest (eBin geI (eV 4) (eBin powI (eC (.int 10)) (eC (.int 18)))))) (eFn absF (aCons (eV 4) aNil)) (eC (.int 0))) [.val (.scr ns), .val (.int sp), .val (.int st), x, .val (.int own), .no] S1 = .nx [.val (.scr ns), .val (.int sp), .val (.int st), x, .val (.int own), .val (.int r)] S1 := by
    unfold sSet sE
    rw [hrest]
    rfl
  have b0 : M_law_tank K a Cs = sSeq (sSet 2 (eBin addD (eC (.int 90011)) (eBin mulI (eC (.int 2003)) (eV 1)))) (sSeq (sFor (iSeq (eCut (eSeq (eV 0)) oNone (oSome (eC (.int 9))))) (gVar 3) bodyT) (sSeq (sSet 4 (eIte (eTest (eBin ltI (eV 1) (eFn lenF (aCons (eV 0) aNil)))) (eFn intF (aCons (eIx (eSeq (eV 0)) (eV 1)) aNil)) (eV 2))) (sSeq (sSet 5 (eIte (tOr' (eTest (eBin ltI (eV 4) (eC (.int 0)))) (eTest (eBin geI (eV 4) (eBin powI (eC (.int 10)) (eC (.int 18)))))) (eFn absF (aCons (eV 4) aNil)) (eC (.int 0)))) (sRet (eNew (aCons (eV 5) (aCons (eBin modI (eFn intF (aCons (eBin addD (eBin addD (eBin mulI (eV 2) (eC (.int 33013))) (eBin mulI (eBin modI (eFn intF (aCons (eV 4) aNil)) (eC (.int 2147483629))) (eC (.int 7001)))) (eC (.int 3))) aNil)) (eC (.int 2147483629))) (aCons (eC (.int 0)) aNil)))))))) := rfl
  rw [b0, sSeq_nx b1, sSeq_nx b2, sSeq_nx b3, sSeq_nx b4]
  simp only [sRet, sE, eNew, aCons, aNil, eV, eC, eBin, eFn, List.getElem?_cons_zero, List.getElem?_cons_succ, Out.bind_ok, mulI, m1, m2, Bool.true_or, if_true, opt_some, intF, modI, pm, addD, orElse, addI, List.length_cons, List.length_nil, z3]
end
end L01
set_option Elab.async false
set_option linter.all false
set_option maxRecDepth 100000
set_option maxHeartbeats 8000000
set_option autoImplicit false
namespace L01
open PySem L2 DL
section
variable {K : PySem.W.Frag} {a : Nat → Addr} {Cs : List Addr}
abbrev cmpE (Cs : List Addr) (i j : Nat) (f : Str) : EM D := eLc [8] (iSeq (eV i)) (gVar 8) (eTest (eBin neD (eFn reprF (aCons (eUn (xfl Cs f) (eV 8)) aNil)) (eFn reprF (aCons (eV j) aNil)))) (eUn (xfl Cs f) (eV 8))
theorem none_ok (k : Kit K a Cs) {ρ : DL.Env} {S : Sto} {i j s n : Nat} {f : Str} {d : D} (hs : s + n ≤ 53) (h1 : ρ[i]? = some (.val (.lst (excs a s n f [d])))) (h2 : ρ[j]? = some (.val d)) (h3 : 8 < ρ.length) (ni : i ≠ 8) (nj : j ≠ 8) (hg : Good d) :
    cmpE Cs i j f ρ S = .ok (.lst []) S := by
  obtain ⟨x, hx⟩ := repr_good hg
  have e1 : iSeq (eV i) ρ S = .ok (excs a s n f [d]) S := by
    unfold iSeq eV
    rw [h1]
    rfl
  have e2 : lcF (gVar 8) (eTest (eBin neD (eFn reprF (aCons (eUn (xfl Cs f) (eV 8)) aNil)) (eFn reprF (aCons (eV j) aNil)))) (eUn (xfl Cs f) (eV 8)) (wipeE ρ [8]) (excs a s n f [d]) [] S = .ok [] S := by
    rw [lcF_pure (p := fun _ => false) (v := id) _ _ ?_ (by simp [excs]; exact sz n (by omega))]
    · simp
    · intro y hy
      unfold excs at hy
      rw [List.mem_map] at hy
      obtain ⟨q, hq, rfl⟩ := hy
      rw [List.mem_range] at hq
      have e8 : eV 8 (List.set (wipeE ρ [8]) 8 (.val (.exi (a (s + q)) f [d]))) S = .ok (.exi (a (s + q)) f [d]) S := by
        unfold eV
        rw [List.getElem?_set_self (by simp [wipeE, h3])]
      have ej : eV j (List.set (wipeE ρ [8]) 8 (.val (.exi (a (s + q)) f [d]))) S = .ok d S := by
        have : (List.set (wipeE ρ [8]) 8 (.val (.exi (a (s + q)) f [d])))[j]? = some (.val d) := by
          rw [List.getElem?_set_ne (Ne.symm nj)]
          show (List.set ρ 8 .no)[j]? = _
          rw [List.getElem?_set_ne (Ne.symm nj), h2]
        unfold eV
        rw [this]
      have ef : xfl Cs f (.exi (a (s + q)) f [d]) = some d := by
        simp [xfl, k.mem (s + q) (by omega)]
      refine ⟨_, rfl, ?_, fun z => by cases z⟩
      exact eTest_of (eBin_of (eFn_of (aCons_of (eUn_of e8 ef) aNil_of) hx) (eFn_of (aCons_of ej aNil_of) hx) (ne_str x))
  unfold cmpE eLc
  rw [e1, Out.bind_ok, e2]
  rfl
theorem ne_nil : neD (.lst []) (.lst []) = some (.bl false) := by
  simp [neD, orElse, neS, neP, D.py, D.pys, SeqAt.shaped, PyData.canLay0, PyData.canLayAll0, PyData.depth, PyData.depthAll, PyData.eqv, PyData.eqvAll]
theorem ne_int (i : Int) : neD (.int i) (.int i) = some (.bl false) := by
  simp [neD, orElse, neS, neP, D.py, SeqAt.shaped, PyData.canLay0, PyData.depth, PyData.eqv]
theorem eq_int (i j : Int) : eqD (.int i) (.int j) = some (.bl (decide (i = j))) := by
  have : (i == j) = decide (i = j) := rfl
  simp [eqD, orElse, eqS, eqP, D.py, SeqAt.shaped, PyData.canLay0, PyData.depth, PyData.eqv, this]
theorem no_marks : inB (.bl true) (false, marks 0) = some false := by
  have : marks 0 = List.replicate 52 (.bl false) := by
    unfold marks
    simp [List.range_succ, List.replicate]
  rw [this]
  simp [inB, List.replicate, D.py, D.pys, SeqAt.shaped, PyData.canLay0, PyData.canLayAll0, PyData.depth, PyData.depthAll, PyData.eqv]
/-- which of two lists -/
theorem which_ok {S : Sto} {ρ : DL.Env} {n i j : Nat} {x y : D} (hs : Sk p1 S n) (h0 : ρ[0]? = some (.val (.obj n))) (hi : ρ[i]? = some (.val x)) (hj : ρ[j]? = some (.val y)) :
    ∃ S', Sk p1 S' n ∧ (eIte (eTest (eBin eqD (eCall (F_law_draw K a Cs) (aCons (eV 0) (aCons (eC (.int 2)) aNil))) (eC (.int 0)))) (eV i) (eV j) ρ S = .ok x S' ∨
      eIte (eTest (eBin eqD (eCall (F_law_draw K a Cs) (aCons (eV 0) (aCons (eC (.int 2)) aNil))) (eC (.int 0)))) (eV i) (eV j) ρ S = .ok y S') := by
  obtain ⟨d, S', e, g0, g1, s'⟩ := draw_ok (K := K) (a := a) (Cs := Cs) (m := 2) hs (by omega) (by omega)
  have v : ∀ {i : Nat} {x : D}, ρ[i]? = some (.val x) → ∀ S, eV i ρ S = .ok x S := fun {i x} h S => by unfold eV; rw [h]
  have ed : eCall (F_law_draw K a Cs) (aCons (eV 0) (aCons (eC (.int 2)) aNil)) ρ S = .ok (.int d) S' := eCall_of (aCons_of (v h0 S) (aCons_of (S1 := S) rfl aNil_of)) e
  have et : eTest (eBin eqD (eCall (F_law_draw K a Cs) (aCons (eV 0) (aCons (eC (.int 2)) aNil))) (eC (.int 0))) ρ S = .ok (decide (d = 0)) S' := eTest_of (eBin_of ed (S2 := S') rfl (eq_int d 0))
  refine ⟨S', s', ?_⟩
  by_cases h : d = 0
  · rw [decide_eq_true h] at et
    exact .inl (eIte_t et (v hi S'))
  · rw [decide_eq_false h] at et
    exact .inr (eIte_f et (v hj S'))
abbrev E8 (n : Nat) (x1 x2 x3 x4 x5 x6 x7 : Sl) : DL.Env := [.val (.obj n), x1, x2, x3, x4, x5, x6, x7, .no]
theorem right_ok (k : Kit K a Cs) {S : Sto} {n : Nat} (hs : Sk p1 S n) : ∃ S', F_law_right K a Cs [.obj n] S = .ok (.bl true) S' := by
  obtain ⟨d1, S1, t1, g1, s1⟩ := thing_ok (K := K) (a := a) (Cs := Cs) hs
  obtain ⟨d2, S2, t2, g2, s2⟩ := thing_ok (K := K) (a := a) (Cs := Cs) s1
  have z2 : 0 + 1 + 1 ≤ sizeLine := sz 2 (by decide)
  have b1 : sAsg (eTup (aCons (eCall (F_law_thing K a Cs) (aCons (eV 0) aNil)) (aCons (eCall (F_law_thing K a Cs) (aCons (eV 0) aNil)) aNil))) (gSeq 2 (gsCons (gVar 1) (gsCons (gVar 2) gsNil))) (E8 n .no .no .no .no .no .no .no) S = .nx (E8 n (.val d1) (.val d2) .no .no .no .no .no) S2 := by
    have e1 : eTup (aCons (eCall (F_law_thing K a Cs) (aCons (eV 0) aNil)) (aCons (eCall (F_law_thing K a Cs) (aCons (eV 0) aNil)) aNil)) (E8 n .no .no .no .no .no .no .no) S = .ok (.tup [d1, d2]) S2 := by
      unfold eTup
      rw [aCons_of (eCall_of (aCons_of (a := eV 0) (x := .obj n) rfl aNil_of) t1) (aCons_of (eCall_of (aCons_of (a := eV 0) (x := .obj n) rfl aNil_of) t2) aNil_of), Out.bind_ok, List.length_cons, List.length_cons, List.length_nil, if_pos z2]
    unfold sAsg sE
    rw [e1]
    rfl
  have b2 : sPar 3 4 (aCons (eCall (F_law_with_given K a Cs) (aCons (eV 1) aNil)) (aCons (eCall (F_law_with_given_named K a Cs) (aCons (eV 2) aNil)) aNil)) (E8 n (.val d1) (.val d2) .no .no .no .no .no) S2 = .nx (E8 n (.val d1) (.val d2) (.val (.lst (excs a 1 35 "given" [d1]))) (.val (.lst (excs a 1 35 "given" [d2]))) .no .no .no) S2 := by
    unfold sPar sE
    rw [aCons_of (eCall_of (aCons_of (a := eV 1) (x := d1) rfl aNil_of) given_ok) (aCons_of (eCall_of (aCons_of (a := eV 2) (x := d2) rfl aNil_of) given_named_ok) aNil_of)]
    rfl
  generalize hA : excs a 1 35 "given" [d1] = A at b2
  generalize hB : excs a 1 35 "given" [d2] = B at b2
  have b3 : sPar 5 6 (aCons (eCall (F_law_with_index K a Cs) (aCons (eV 2) aNil)) (aCons (eCall (F_law_with_index_named K a Cs) (aCons (eV 1) aNil)) aNil)) (E8 n (.val d1) (.val d2) (.val (.lst A)) (.val (.lst B)) .no .no .no) S2 = .nx (E8 n (.val d1) (.val d2) (.val (.lst A)) (.val (.lst B)) (.val (.lst (excs a 36 9 "index" [d2]))) (.val (.lst (excs a 36 9 "index" [d1]))) .no) S2 := by
    unfold sPar sE
    rw [aCons_of (eCall_of (aCons_of (a := eV 2) (x := d2) rfl aNil_of) index_ok) (aCons_of (eCall_of (aCons_of (a := eV 1) (x := d1) rfl aNil_of) index_named_ok) aNil_of)]
    rfl
  generalize hC : excs a 36 9 "index" [d2] = C at b3
  generalize hD : excs a 36 9 "index" [d1] = Dd at b3
  generalize hρ : E8 n (.val d1) (.val d2) (.val (.lst A)) (.val (.lst B)) (.val (.lst C)) (.val (.lst Dd)) .no = ρ at b3
  have r0 : ρ[0]? = some (.val (.obj n)) := by rw [← hρ]; rfl
  have r1 : ρ[1]? = some (.val d1) := by rw [← hρ]; rfl
  have r2 : ρ[2]? = some (.val d2) := by rw [← hρ]; rfl
  have r3 : ρ[3]? = some (.val (.lst A)) := by rw [← hρ]; rfl
  have r4 : ρ[4]? = some (.val (.lst B)) := by rw [← hρ]; rfl
  have r5 : ρ[5]? = some (.val (.lst C)) := by rw [← hρ]; rfl
  have r6 : ρ[6]? = some (.val (.lst Dd)) := by rw [← hρ]; rfl
  have rl : 8 < ρ.length := by rw [← hρ]; exact Nat.lt_succ_self 8
  have eN : ∀ S, eLst aNil ρ S = .ok (.lst []) S := fun S => by
    unfold eLst aNil
    rw [Out.bind_ok, List.length_nil, if_pos (Nat.zero_le _)]
  have cmp0 : ∀ {i j s m : Nat} {f : Str} {d : D} {L : List D}, excs a s m f [d] = L → s + m ≤ 53 → ρ[i]? = some (.val (.lst L)) → ρ[j]? = some (.val d) → i ≠ 8 → j ≠ 8 → Good d → eTest (eBin neD (cmpE Cs i j f) (eLst aNil)) ρ S2 = .ok false S2 :=
    fun {i j s m f d L} hL hs hi hj ni nj hg => by
      subst hL
      exact eTest_of (eBin_of (none_ok k hs hi hj rl ni nj hg) (eN S2) ne_nil)
  have c4 : sIf (tOr' (eTest (eBin neD (cmpE Cs 3 1 "given") (eLst aNil))) (eTest (eBin neD (eFn lenF (aCons (eV 3) aNil)) (eC (.int 35))))) (sRet (eC (.bl false))) sNext ρ S2 = .nx ρ S2 := by
    have e3 : eV 3 ρ S2 = .ok (.lst A) S2 := by unfold eV; rw [r3]
    have el : A.length = 35 := by rw [← hA]; simp [excs]
    have el2 : eFn lenF (aCons (eV 3) aNil) ρ S2 = .ok (.int 35) S2 := by
      rw [eLen e3 (k := false) (l := A) rfl, el]; rfl
    exact sIf_f (tOr_f (cmp0 hA (by decide) r3 r1 (by decide) (by decide) g1) (eTest_of (eBin_of el2 (S2 := S2) rfl (ne_int 35)))) rfl
  have c5 : sIf (eTest (eBin neD (cmpE Cs 4 2 "given") (eLst aNil))) (sRet (eC (.bl false))) sNext ρ S2 = .nx ρ S2 := sIf_f (cmp0 hB (by decide) r4 r2 (by decide) (by decide) g2) rfl
  have c6 : sIf (eTest (eBin neD (cmpE Cs 5 2 "index") (eLst aNil))) (sRet (eC (.bl false))) sNext ρ S2 = .nx ρ S2 := sIf_f (cmp0 hC (by decide) r5 r2 (by decide) (by decide) g2) rfl
  have c7 : sIf (eTest (eBin neD (cmpE Cs 6 1 "index") (eLst aNil))) (sRet (eC (.bl false))) sNext ρ S2 = .nx ρ S2 := sIf_f (cmp0 hD (by decide) r6 r1 (by decide) (by decide) g1) rfl
  have st : ∀ {s m : Nat} {f : Str} {d : D} {L : List D} {S : Sto}, excs a (s + 1) m f [d] = L → s + m ≤ 52 → F_law_stand K a Cs [.lst L, .int (s : Int)] S = .ok (.bl true) S := fun {s m f d L S} hL h => by
    subst hL
    exact stand_ok k h
  have stA : ∀ S, F_law_stand K a Cs [.lst A, .int 0] S = .ok (.bl true) S := fun S => st (s := 0) (m := 35) hA (by decide)
  have stB : ∀ S, F_law_stand K a Cs [.lst B, .int 0] S = .ok (.bl true) S := fun S => st (s := 0) (m := 35) hB (by decide)
  have stC : ∀ S, F_law_stand K a Cs [.lst C, .int 35] S = .ok (.bl true) S := fun S => st (s := 35) (m := 9) hC (by decide)
  have stD : ∀ S, F_law_stand K a Cs [.lst Dd, .int 35] S = .ok (.bl true) S := fun S => st (s := 35) (m := 9) hD (by decide)
  obtain ⟨S3, s3, w3⟩ := which_ok (K := K) (a := a) (Cs := Cs) s2 r0 r3 r4
  have c8 : sIf (tNot' (eTest (eCall (F_law_stand K a Cs) (aCons (eIte (eTest (eBin eqD (eCall (F_law_draw K a Cs) (aCons (eV 0) (aCons (eC (.int 2)) aNil))) (eC (.int 0)))) (eV 3) (eV 4)) (aCons (eC (.int 0)) aNil))))) (sRet (eC (.bl false))) sNext ρ S2 = .nx ρ S3 := by
    rcases w3 with w | w
    · exact sIf_f (tNot_of (c := true) (eTest_of (eCall_of (aCons_of w (aCons_of (S1 := S3) rfl aNil_of)) (stA S3)))) rfl
    · exact sIf_f (tNot_of (c := true) (eTest_of (eCall_of (aCons_of w (aCons_of (S1 := S3) rfl aNil_of)) (stB S3)))) rfl
  obtain ⟨S4, s4, w4⟩ := which_ok (K := K) (a := a) (Cs := Cs) s3 r0 r5 r6
  have sb : F_law_stand K a Cs [.lst (excs a 45 8 "" []), .int 44] S4 = .ok (.bl true) S4 := stand_ok (start := 44) (n := 8) k (by decide)
  have c9 : sIf (tOr' (tNot' (eTest (eCall (F_law_stand K a Cs) (aCons (eIte (eTest (eBin eqD (eCall (F_law_draw K a Cs) (aCons (eV 0) (aCons (eC (.int 2)) aNil))) (eC (.int 0)))) (eV 5) (eV 6)) (aCons (eC (.int 35)) aNil))))) (tNot' (eTest (eCall (F_law_stand K a Cs) (aCons (eCall (F_law_bare K a Cs) aNil) (aCons (eC (.int 44)) aNil)))))) (sRet (eC (.bl false))) sNext ρ S3 = .nx ρ S4 := by
    have f1 : tNot' (eTest (eCall (F_law_stand K a Cs) (aCons (eIte (eTest (eBin eqD (eCall (F_law_draw K a Cs) (aCons (eV 0) (aCons (eC (.int 2)) aNil))) (eC (.int 0)))) (eV 5) (eV 6)) (aCons (eC (.int 35)) aNil)))) ρ S3 = .ok false S4 := by
      rcases w4 with w | w
      · exact tNot_of (c := true) (eTest_of (eCall_of (aCons_of w (aCons_of (S1 := S4) rfl aNil_of)) (stC S4)))
      · exact tNot_of (c := true) (eTest_of (eCall_of (aCons_of w (aCons_of (S1 := S4) rfl aNil_of)) (stD S4)))
    have f2 : tNot' (eTest (eCall (F_law_stand K a Cs) (aCons (eCall (F_law_bare K a Cs) aNil) (aCons (eC (.int 44)) aNil)))) ρ S4 = .ok false S4 :=
      tNot_of (c := true) (eTest_of (eCall_of (aCons_of (eCall_of aNil_of bare_ok) (aCons_of (S1 := S4) rfl aNil_of)) sb))
    exact sIf_f (tOr_f f1 f2) rfl
  have c10 : sSet 7 (eExc0 (a 0)) ρ S4 = .nx (ρ.set 7 (.val (.exi (a 0) "" []))) S4 := sSet_of rfl
  have e7 : eV 7 (ρ.set 7 (.val (.exi (a 0) "" []))) S4 = .ok (.exi (a 0) "" []) S4 := by
    unfold eV
    rw [List.getElem?_set_self (by omega)]
  have c11 : sRet (eAnd (eNotIn (eC (.bl true)) (eSeq (eCall (F_law_marks K a Cs) (aCons (eV 7) aNil)))) (eCall (F_law_is_under K a Cs) (aCons (eV 7) aNil))) (ρ.set 7 (.val (.exi (a 0) "" []))) S4 = .rt (.bl true) S4 := by
    refine sRet_of ?_
    have h1 : eNotIn (eC (.bl true)) (eSeq (eCall (F_law_marks K a Cs) (aCons (eV 7) aNil))) (ρ.set 7 (.val (.exi (a 0) "" []))) S4 = .ok (.bl true) S4 := by
      have h0 := eSeq_of (p := (false, marks 0)) (eCall_of (aCons_of e7 aNil_of) (marks_ok k (i := 0) (f := "") (l := []) (S := S4) (by decide))) rfl
      unfold eNotIn
      rw [show eC (.bl true) (ρ.set 7 (.val (.exi (a 0) "" []))) S4 = .ok (.bl true) S4 from rfl, Out.bind_ok, h0, Out.bind_ok, no_marks]
      rfl
    unfold eAnd
    rw [h1, Out.bind_ok]
    show (Out.ok true S4).bind _ = _
    rw [Out.bind_ok, if_pos rfl]
    exact eCall_of (aCons_of e7 aNil_of) (under_ok k (i := 0) (f := "") (l := []) (S := S4) (by decide))
  refine ⟨S4, ?_⟩
  unfold F_law_right
  refine runB_rt ?_
  have e0 : envStart 9 [.obj n] = E8 n .no .no .no .no .no .no .no := rfl
  rw [e0]
  unfold M_law_right
  rw [sSeq_nx b1, sSeq_nx b2, sSeq_nx b3, sSeq_nx c4, sSeq_nx c5, sSeq_nx c6, sSeq_nx c7, sSeq_nx c8, sSeq_nx c9, sSeq_nx c10]
  exact c11
theorem law_ok (k : Kit K a Cs) (ns : List Int) : ∃ S, Flaw K a Cs [.scr ns] [] = .ok (.bl true) S := by
  have turn : ∀ (d : D), d ∈ ((List.range 2).map fun j => D.int (0 + (j : Nat))) → ∀ ρ S, (∃ x, ρ = ([.val (.scr ns), x] : DL.Env)) → ∃ ρ1 S1, gVar 1 d ρ S = some (ρ1, S1) ∧ ∃ ρ2 S2, (sIf (tNot' (eTest (eCall (F_law_right K a Cs) (aCons (eCall (F_law_tank K a Cs) (aCons (eV 0) (aCons (eV 1) aNil))) aNil)))) (sRet (eC (.bl false))) sNext ρ1 S1 = .nx ρ2 S2 ∨
      sIf (tNot' (eTest (eCall (F_law_right K a Cs) (aCons (eCall (F_law_tank K a Cs) (aCons (eV 0) (aCons (eV 1) aNil))) aNil)))) (sRet (eC (.bl false))) sNext ρ1 S1 = .ct ρ2 S2) ∧ ∃ x, ρ2 = ([.val (.scr ns), x] : DL.Env) := by
    intro d hd ρ S hI
    obtain ⟨x, rfl⟩ := hI
    rw [List.mem_map] at hd
    obtain ⟨j, hj, rfl⟩ := hd
    rw [List.mem_range] at hj
    obtain ⟨r, st, e1, h1, h2, h3⟩ := tank_ok (K := K) (a := a) (Cs := Cs) ns (0 + (j : Int)) S (by omega) (by omega)
    have sk : Sk p1 (S ++ [.lst [.int r, .int st, .int 0]]) S.length := ⟨r, st, 0, by simp, h1, h2, h3⟩
    obtain ⟨S2, e2⟩ := right_ok k sk
    refine ⟨_, _, rfl, [.val (.scr ns), .val (.int (0 + (j : Int)))], S2, .inl ?_, _, rfl⟩
    exact sIf_f (tNot_of (c := true) (eTest_of (eCall_of (aCons_of (eCall_of (aCons_of (a := eV 0) (x := .scr ns) rfl (aCons_of (a := eV 1) (x := .int (0 + (j : Int))) rfl aNil_of)) e1) aNil_of) e2))) rfl
  obtain ⟨ρ', S', e, _⟩ := loopF_nx (fun ρ S => ∃ x, ρ = ([.val (.scr ns), x] : DL.Env)) _ turn [.val (.scr ns), .no] [] ⟨_, rfl⟩
  refine ⟨S', ?_⟩
  unfold Flaw
  refine runB_rt ?_
  have e0 : envStart 2 [.scr ns] = [.val (.scr ns), .no] := rfl
  rw [e0]
  unfold Mlaw
  rw [sSeq_nx (sFor_of (iRng1 (n := 2) (S1 := []) rfl (by decide)) e)]
  rfl
end
end L01
set_option Elab.async false
set_option linter.all false
set_option maxRecDepth 100000
set_option maxHeartbeats 8000000
set_option autoImplicit false
/-! What the top has written of the classes, looked at by one Bool each. -/
namespace DL
open PySem L2 PySem.W
theorem clsB_ok {K : Frag} {C : Addr} (b : clsB K C = true) : ∃ nm q N bs bm sn sub ab col dd k0 k1 k2 k3 k5, K.lookup C = some (excClassObj nm q C N bs bm true sn sub ab col dd k0 k1 k2 k3 k5 "ValueError.__new__") ∧ PySem.HandSPX.refsVE bm = true := by
  unfold clsB at b
  split at b
  · rename_i dd cd sl ho
    split at b
    · rename_i C' bm k0 k1 k2 k3 n k5 hm hs
      rw [Bool.and_eq_true, Bool.and_eq_true, Bool.and_eq_true, Bool.and_eq_true, beq_iff_eq, beq_iff_eq, Bool.not_eq_true'] at b
      obtain ⟨⟨⟨⟨e1, e2⟩, e3⟩, e4⟩, e5⟩ := b
      subst e1 e2
      obtain ⟨nm, bs, mro, ns, qn, hd, sn, sub, ab, col, del⟩ := cd
      dsimp only at hm e3 e4
      subst hm e3 e4
      have hsl : sl = #[k0, k1, k2, k3, some (.builtin "ValueError.__new__"), k5] := by
        obtain ⟨l⟩ := sl
        simp only at hs
        rw [hs]
      subst hsl
      exact ⟨nm, qn, ns, bs, bm, sn, sub, ab, col, dd, k0, k1, k2, k3, k5, ho, e5⟩
    · cases b
  · cases b
theorem and2 {a b : Bool} (h : (a && b) = true) : a = true ∧ b = true := Bool.and_eq_true_iff.mp h
theorem mk_x {K : Frag} {h : Heap} {mg : Str → Option Value} {x f qual : Str} {C fI : Addr} {st : Stmt} {oc kV dc pm cd ct : Value} {od an : Option Addr} {sl : Array (Option Value)} (X : K.In h) (m : mg x = some (.ref C)) (b : initB K C f fI = true)
    (l : K.lookup fI = some ⟨oc, od, .func (fnOf "__init__" qual (defArgs st) (defBody st) (defScope st) .none kV dc pm an cd ct), sl⟩) (c : codeIn K cd qual = true)
    (hb : ∀ (kV dc pm : Value) (an : Option Addr) (cd ct : Value) (us : List Value), us.length = (["self", f] : List Str).length → bindArgs (fnOf "__init__" qual (defArgs st) (defBody st) (defScope st) .none kV dc pm an cd ct) ⟨us, []⟩ = pure ((["self", f] : List Str).zip us))
    (hb2 : ∀ (kV dc pm : Value) (an : Option Addr) (cd ct : Value) (a u : Value), bindArgs (fnOf "__init__" qual (defArgs st) (defBody st) (defScope st) .none kV dc pm an cd ct) ⟨[a], [(f, u)]⟩ = pure ([("self", a), (f, u)] : List (Str × Value)))
    (sc : FnScope ["self", f] ["self", f] (defScope st)) (v0 : Vis (defScope st) "self") (v1 : Vis (defScope st) f) (h1 : (f == ("__debug__" : Str)) = false) (h2 : (f == ("__classdict__" : Str)) = false) (bd : IsInit st f) :
    ∃ fd, XCls K mg x C f fI fd qual st := by
  obtain ⟨b1, b⟩ := and2 b
  obtain ⟨b2, b⟩ := and2 b
  obtain ⟨b3, b⟩ := and2 b
  obtain ⟨b4, b⟩ := and2 b
  obtain ⟨b5, b⟩ := and2 b
  obtain ⟨b6, b⟩ := and2 b
  obtain ⟨b7, b⟩ := and2 b
  obtain ⟨b8, b9⟩ := and2 b
  have F := fun_mk (st := st) l c b9
  exact ⟨_, ⟨⟨clsB_ok b1, of_decide_eq_true b2, of_decide_eq_true b3, of_decide_eq_true b4, b5⟩, of_decide_eq_true b6, of_decide_eq_true b7, m, of_decide_eq_true b8, F, F.binds hb, fun s a u => .of_eq (hb2 kV dc pm an cd ct a u), sc, v0, v1, h1, h2, bd⟩⟩
theorem excCs_of {K : Frag} {Cs : List Addr} (h : (Cs.all fun C => excB K C) = true) : ExcCs K Cs := fun C hC => by
  obtain ⟨h1, h⟩ := and2 (List.all_eq_true.mp h C hC)
  obtain ⟨h2, h⟩ := and2 h
  obtain ⟨h3, h⟩ := and2 h
  obtain ⟨h4, h5⟩ := and2 h
  have T := xfB_ok h1
  exact ⟨T.ga, T.gg, T.exC, T.hdC, of_decide_eq_true h2, of_decide_eq_true h3, of_decide_eq_true h4, of_decide_eq_true h5⟩
theorem xflC_of {K : Frag} {f : Str} {Cs : List Addr} (h : (Cs.all fun C => xfB K C && decide (findIn K (.ref C) f = some none)) = true) : XflC K f Cs := fun C hC => by
  obtain ⟨h1, h2⟩ := and2 (List.all_eq_true.mp h C hC)
  exact ⟨xfB_ok h1, of_decide_eq_true h2⟩
section
variable {K : Frag} {h : Heap} {mg : Str → Option Value}
theorem at_exc0 (X : K.In h) (C : Addr) (q : excIn K C PySem.HandSPX.veTail "ValueError.__new__" = true) : excIn K C PySem.HandSPX.veTail "ValueError.__new__" = true := q
theorem at_keep (X : K.In h) (C : Addr) (q : keepIn K (.ref C) = true) : keepIn K (.ref C) = true := q
theorem at_excs (X : K.In h) (Cs : List Addr) (q : (Cs.all fun C => excB K C) = true) : ExcCs K Cs := excCs_of q
theorem at_xfl (X : K.In h) (f : Str) (Cs : List Addr) (q : (Cs.all fun C => xfB K C && decide (findIn K (.ref C) f = some none)) = true) : XflC K f Cs := xflC_of q
theorem at_fun (X : K.In h) {x qual : Str} {st : Stmt} {f : Addr} {ps : List Str} {oc kV dc pm cd ct : Value} {od an : Option Addr} {sl : Array (Option Value)} (l : K.lookup f = some ⟨oc, od, .func (fnOf x qual (defArgs st) (defBody st) (defScope st) .none kV dc pm an cd ct), sl⟩)
    (c : codeIn K cd qual = true) (k : keepIn K (.ref f) = true) (hb : ∀ (kV dc pm : Value) (an : Option Addr) (cd ct : Value) (us : List Value), us.length = ps.length → bindArgs (fnOf x qual (defArgs st) (defBody st) (defScope st) .none kV dc pm an cd ct) ⟨us, []⟩ = pure (ps.zip us)) :
    ∃ d, Fun K x qual st f d ∧ Binds K d ps [] := ⟨_, fun_mk (st := st) l c k, (fun_mk (st := st) l c k).binds hb⟩
theorem at_law (X : K.In h) {x qual p : Str} {st : Stmt} {f : Addr} {oc kV dc pm cd ct : Value} {od an : Option Addr} {sl : Array (Option Value)} (l : K.lookup f = some ⟨oc, od, .func (fnOf x qual (defArgs st) (defBody st) (defScope st) .none kV dc pm an cd ct), sl⟩)
    (c : codeIn K cd qual = true) (k : keepIn K (.ref f) = true) (hb : ∀ (kV dc pm : Value) (an : Option Addr) (cd ct : Value) (us : List Value), us.length = ([p] : List Str).length → bindArgs (fnOf x qual (defArgs st) (defBody st) (defScope st) .none kV dc pm an cd ct) ⟨us, []⟩ = pure (([p] : List Str).zip us)) :
    ∃ d, Fun K x qual st f d ∧ Binds K d [p] [] ∧ ∀ (s : Shared) (u : Value), BindsTo s d ⟨[u], []⟩ [(p, u)] := ⟨_, fun_mk (st := st) l c k, (fun_mk (st := st) l c k).binds hb, fun s u => .of_eq (hb kV dc pm an cd ct [u] rfl)⟩
end
theorem kit_ref {K : Frag} {C C' : Addr} {l l' : List Value} (h : mroB K C l = true) (h' : mroB K C' l' = true) (hl : l.isEmpty = false) (hne : l.contains (.ref C') = true ∨ C ≠ C') : kitOne K (.ref C) (.ref C') = some (l.contains (.ref C')) := by
  obtain ⟨a1, a2⟩ := and2 h
  obtain ⟨b1, b2⟩ := and2 h'
  have a1 := of_decide_eq_true a1
  have b1 := of_decide_eq_true b1
  have b2 := of_decide_eq_true b2
  obtain ⟨cd, e1, e2⟩ := Option.map_eq_some_iff.mp a1
  obtain ⟨cd', f1, f2⟩ := Option.map_eq_some_iff.mp b1
  unfold kitOne
  by_cases hq : (Value.ref C == Value.ref C') = true
  · rw [if_pos hq]
    have : C = C' := Value.ref.inj (beq_iff_eq.mp hq)
    rcases hne with z | z
    · rw [z]
    · exact absurd this z
  · rw [if_neg hq]
    unfold kitCls
    dsimp only
    rw [if_pos (by rw [f1, b2]; rfl)]
    show mroIn K C (.ref C') = _
    unfold mroIn
    rw [e1, Option.bind_some, e2, hl]
    rfl
theorem kit_type {K : Frag} {C : Addr} {l : List Value} {T : String} (h : mroB K C l = true) (hl : l.isEmpty = false) (hm : kitMeta T = true) : kitOne K (.ref C) (.type T) = some (l.contains (.type T)) := by
  obtain ⟨a1, a2⟩ := and2 h
  obtain ⟨cd, e1, e2⟩ := Option.map_eq_some_iff.mp (of_decide_eq_true a1)
  unfold kitOne
  rw [if_neg (by rw [Bool.not_eq_true]; rfl)]
  unfold kitCls
  dsimp only
  rw [if_pos hm]
  show mroIn K C (.type T) = _
  unfold mroIn
  rw [e1, Option.bind_some, e2, hl]
  rfl
end DL
namespace L01
open PySem L2 DL PySem.W
theorem kit_of {K : Frag} {a : Nat → Addr} {Cs : List Addr} (hm : ∀ i < 53, a i ∈ Cs) (hi : ∀ i < 53, ∀ j < 53, a i = a j → i = j) (h : ∀ i < 53, mroB K (a i) (mroL a i) = true) : Kit K a Cs := by
  have ne : ∀ i, (mroL a i).isEmpty = false := fun i => by unfold mroL; split <;> rfl
  have ve : ∀ x : Addr, PySem.HandSPX.veTail.contains (.ref x) = false := fun x => rfl
  have vr : ∀ x y : Addr, (Value.ref x == Value.ref y) = decide (x = y) := fun x y => by
    rw [Bool.eq_iff_iff, beq_iff_eq, decide_eq_true_eq]
    exact ⟨Value.ref.inj, fun z => by rw [z]⟩
  have cr : ∀ i x, (mroL a i).contains (.ref x) = (decide (i ≠ 0 ∧ x = a i) || decide (x = a 0)) := fun i x => by
    unfold mroL
    by_cases h0 : i = 0
    · rw [if_pos h0, List.nil_append, List.contains_cons, ve, vr]
      simp [h0]
    · rw [if_neg h0, List.singleton_append, List.contains_cons, List.contains_cons, ve, vr, vr]
      simp [h0]
  have ct : ∀ i (T : String), (mroL a i).contains (.type T) = PySem.HandSPX.veTail.contains (.type T) := fun i T => by
    unfold mroL
    split
    · rw [List.nil_append, List.contains_cons]; rfl
    · rw [List.singleton_append, List.contains_cons, List.contains_cons]; rfl
  refine ⟨hm, fun i hi' j hj h0 => ?_, fun i hi' => ?_, fun i hi' => ?_, fun i hi' => ?_, fun i hi' => ?_, fun i hi' => ?_, fun i hi' => ?_⟩
  · have e : (mroL a i).contains (.ref (a j)) = decide (i = j) := by
      rw [cr]
      by_cases hij : i = j
      · subst hij
        simp [h0]
      · have n1 : ¬ a j = a i := fun z => hij (hi i hi' j hj z.symm)
        have n2 : ¬ a j = a 0 := fun z => h0 (hi j hj 0 (by decide) z)
        simp [hij, n1, n2]
    rw [kit_ref (h i hi') (h j hj) (ne i), e]
    by_cases hij : i = j
    · left; rw [e]; simp [hij]
    · right; exact fun z => hij (hi i hi' j hj z)
  · have e : (mroL a i).contains (.ref (a 0)) = true := by rw [cr]; simp
    rw [kit_ref (h i hi') (h 0 (by decide)) (ne i) (.inl e), e]
  · rw [kit_type (h i hi') (ne i) (by decide +kernel), ct]; rfl
  · rw [kit_type (h i hi') (ne i) (by decide +kernel), ct]; rfl
  · rw [kit_type (h i hi') (ne i) (by decide +kernel), ct]; rfl
  · rw [kit_type (h i hi') (ne i) (by decide +kernel), ct]; rfl
  · rw [kit_type (h i hi') (ne i) (by decide +kernel), ct]; rfl
theorem at_kit {K : Frag} {h : Heap} (X : K.In h) (a : Nat → Addr) (Cs : List Addr) (hm : ∀ i < 53, a i ∈ Cs) (hi : ∀ i < 53, ∀ j < 53, a i = a j → i = j) (q : ((List.range 53).all fun i => mroB K (a i) (mroL a i)) = true) : Kit K a Cs :=
  kit_of hm hi fun i hl => List.all_eq_true.mp q i (List.mem_range.mpr hl)
end L01
section
open PySem PySem.W PySem.Calls PyProof.Rows HandSHeadRun
namespace L01
theorem run (w : World) : RunEq R (view R.prog [69]) hk ob 14000 loose w := by
  intro os
  have h0 := run0 w os
  have h1 := run1 w os
  have h2 := run2 w os
  have h3 := run3 w os
  have h4 := run4 w os
  cases e : endF (stepQ (denQ tabQ) R.prog w) 14000 R.prog w os with
  | none => rw [e] at h1; cases h1
  | some s =>
    rw [e] at h0 h1 h2 h3 h4
    have g0 := Option.some.inj h0
    have f1 : He.obsD [] fnA (kOf (getT s)) = He.valD fnA := Option.some.inj h1
    have f2 : He.obsD fal fnB (kOf (getT s)) = He.valD fnB := Option.some.inj h2
    have f3 : (chk1 (kOf (getT s)) && chk2 (kOf (getT s))) = true := Option.some.inj h3
    have f4 : (chk3 (kOf (getT s)) && chk4 (kOf (getT s))) = true := Option.some.inj h4
    obtain ⟨g2, g3⟩ := DL.and2 f3
    obtain ⟨g4, g5⟩ := DL.and2 f4
    have g1 : He.obsD fal fnl (kOf (getT s)) = He.valD fnl := by
      have u1 : ((([] : List He.Fa).all fun f => f.ok (kOf (getT s))) && fnA.all fun d => d.ok (kOf (getT s))) = true := congrArg (fun z : He.AlD => z.1) f1
      have u2 := congrArg (fun z : He.AlD => z.2) f1
      have v1 : ((fal.all fun f => f.ok (kOf (getT s))) && fnB.all fun d => d.ok (kOf (getT s))) = true := congrArg (fun z : He.AlD => z.1) f2
      have v2 := congrArg (fun z : He.AlD => z.2) f2
      obtain ⟨u3, u4⟩ := DL.and2 u1
      obtain ⟨v3, v4⟩ := DL.and2 v1
      refine Prod.ext ?_ ?_
      · show ((fal.all fun f => f.ok (kOf (getT s))) && (fnA ++ fnB).all fun d => d.ok (kOf (getT s))) = true
        rw [List.all_append, v3, u4, v4]
        rfl
      · show (fnA ++ fnB).map (fun d => He.fnW (kOf (getT s)) d.at_) = (fnA ++ fnB).map He.DefD.val
        rw [List.map_append, List.map_append]
        exact congr (congrArg HAppend.hAppend u2) v2
    have a0 := congrArg (fun z => z.1) g0
    have b0 := congrArg (fun z => z.2.1) g0
    have o1 : ob s = (He.valD fnl, true, true, true, true) := by
      unfold ob obsX
      rw [g1, g2, g3, g4, g5]
    exact congrArg some (Prod.ext a0 (Prod.ext b0 o1))
end L01

end
set_option Elab.async false
set_option linter.all false
set_option maxRecDepth 100000
set_option maxHeartbeats 0
set_option autoImplicit false
namespace DL
open PySem L2 PySem.Spec PyProof.Rows
theorem fun_of {K : PySem.W.Frag} {x qual : Str} {st : Stmt} {f : Addr} {fd : FuncData} (F : FunD K x qual (defArgs st) (defBody st) (defScope st) [] [] f fd) : Fun K x qual st f fd := by
  obtain ⟨oc, od, dV, kV, doc, pm, an, cdv, ct, osl, e, lk, hcd, hD, hK⟩ := F.ex
  rcases hD with ⟨_, z⟩ | ⟨z, _⟩
  · subst z
    exact ⟨⟨oc, od, kV, doc, pm, an, cdv, ct, osl, e, lk, hcd⟩, F.kp⟩
  · exact absurd rfl z
theorem walk_ofGE {l : PySem.W.OpenLaw} {n k : Nat} {q : Program} {loose : List Str} {XP : (Str → Option Value) → Heap → Prop} {YP : World → Heap → Prop} {d : DefRec} {x : Str}
    (hn : l.most = some n) (hn2 : n ≤ sizeLine) (hdf : d.params.defaults = []) (hr : Room k callerA)
    (hF : ∀ (w : World) (mg : Str → Option Value) (fa : Addr) (h : Heap), YP w h → h.Ns mainGlobals mg → mg d.name = some (.ref fa) →
      ∃ (K : PySem.W.Frag) (fd : FuncData) (F : List D → Sto → Out D), K.In h ∧ (∀ (s : Shared) (u : Value), BindsTo s fd ⟨[u], []⟩ [(x, u)]) ∧ (∀ ns : List Int, ns.length ≤ n → ∃ S, F [.scr ns] [] = .ok (.bl true) S) ∧
        ∀ base : Heap, K.In base → base.Ns mainGlobals mg → FnG l.prog w K mg base (L2.CX l.prog w) k fa fd [x] (spD K mg 1 F)) :
    PySem.W.WalkO q loose XP YP l.row.toRowW d [] (fun f vs => PySem.call f vs) := by
  refine Att.attach_call hn hdf fun w s₀ s₁ mg mb fa o pm cd doc a vs ns G Y ho hd hcd hmg hobj hints hlen hg => ?_
  obtain ⟨K, fd, F, inK, hb, hv, hG⟩ := hF w mg fa _ Y G.T.g hmg
  refine law_callG inK G.T.g G.T.b G.T.builtins G.T.nolimit hg hobj hints (Nat.le_trans hlen hn2) hr hG hb (fun H hO hS => ?_) fun H e s' c => ?_
  · refine ⟨rfl, [.scr ns], [], H, [], ⟨Same.refl _, rfl, List.nodup_nil, fun b z => (nomatch z), fun j ob z => by simp at z⟩, .cons (.scr hS) .nil, ?_⟩
    obtain ⟨S, e⟩ := hv ns hlen
    rw [e]
    intro v H' I' A' _ _ r
    cases r
    rfl
  · obtain ⟨_, _, _, _, _, _, _, _, _, _, _, _, z⟩ := c
    exact z
theorem mk_xF {K : PySem.W.Frag} {mg : Str → Option Value} {x f qual : Str} {C fI : Addr} {st : Stmt} {fd : FuncData} (m : mg x = some (.ref C)) (b : initB K C f fI = true) (F : Fun K "__init__" qual st fI fd)
    (hb : ∀ (kV dc pm : Value) (an : Option Addr) (cd ct : Value) (us : List Value), us.length = (["self", f] : List Str).length → bindArgs (PySem.W.fnOf "__init__" qual (defArgs st) (defBody st) (defScope st) .none kV dc pm an cd ct) ⟨us, []⟩ = pure ((["self", f] : List Str).zip us))
    (hb2 : ∀ (kV dc pm : Value) (an : Option Addr) (cd ct : Value) (a u : Value), bindArgs (PySem.W.fnOf "__init__" qual (defArgs st) (defBody st) (defScope st) .none kV dc pm an cd ct) ⟨[a], [(f, u)]⟩ = pure ([("self", a), (f, u)] : List (Str × Value)))
    (sc : FnScope ["self", f] ["self", f] (defScope st)) (v0 : Vis (defScope st) "self") (v1 : Vis (defScope st) f) (h1 : (f == ("__debug__" : Str)) = false) (h2 : (f == ("__classdict__" : Str)) = false) (bd : IsInit st f) :
    XCls K mg x C f fI fd qual st := by
  obtain ⟨oc, od, kV, dc, pm, an, cd, ct, sl, e, l, c⟩ := F.ex
  obtain ⟨b1, b⟩ := and2 b
  obtain ⟨b2, b⟩ := and2 b
  obtain ⟨b3, b⟩ := and2 b
  obtain ⟨b4, b⟩ := and2 b
  obtain ⟨b5, b⟩ := and2 b
  obtain ⟨b6, b⟩ := and2 b
  obtain ⟨b7, b⟩ := and2 b
  obtain ⟨b8, b9⟩ := and2 b
  exact ⟨⟨clsB_ok b1, of_decide_eq_true b2, of_decide_eq_true b3, of_decide_eq_true b4, b5⟩, of_decide_eq_true b6, of_decide_eq_true b7, m, of_decide_eq_true b8, F, F.binds hb, fun s a u => by rw [e]; exact .of_eq (hb2 kV dc pm an cd ct a u), sc, v0, v1, h1, h2, bd⟩
end DL
namespace L01
open PySem L2 DL
theorem facts {P : Program} {w : World} {K : PySem.W.Frag} {h : Heap} {mg : Str → Option Value} {f : Addr} (X : K.In h) (G : h.Ns mainGlobals mg) (hfa : mg ("law" : Str) = some (.ref f)) (c : He.SaysD fal fnl K) (k1 : chk1 K = true) (ck2 : chk2 K = true) (ck3 : chk3 K = true) (ck4 : chk4 K = true) :
    ∃ (fd : FuncData) (F : List D → Sto → Out D), (∀ (s : Shared) (v : Value), BindsTo s fd ⟨[v], []⟩ [("_law_script", v)]) ∧ (∀ ns : List Int, ns.length ≤ 63 → ∃ S, F [.scr ns] [] = .ok (.bl true) S) ∧ ∀ base : Heap, K.In base → base.Ns mainGlobals mg → FnG P w K mg base (L2.CX P w) 6 f fd ["_law_script"] (spD K mg 1 F) := by
  obtain ⟨k2, k3⟩ := and2 ck2
  obtain ⟨k4, k5⟩ := and2 ck3
  have k6 : ((List.range 53).all fun i => chkI K i) = true := ck4
  have nd : (adrs K).Nodup := of_decide_eq_true k4
  have hl : clsNames.length = 53 := by decide +kernel
  have adi : ∀ i < 53, (adrs K)[i]? = some (ad K i) := fun i hi => by
    unfold adrs ad
    rw [List.getElem?_map, List.getD_eq_getElem?_getD, List.getElem?_eq_getElem (by rw [hl]; exact hi)]
    rfl
  have mem : ∀ i < 53, ad K i ∈ adrs K := fun i hi => List.mem_of_getElem? (adi i hi)
  have inj : ∀ i < 53, ∀ j < 53, ad K i = ad K j → i = j := fun i hi j hj e => by
    have e1 := adi i hi
    have e2 := adi j hj
    rw [← e] at e2
    obtain ⟨p1, q1⟩ := List.getElem?_eq_some_iff.mp e1
    obtain ⟨p2, q2⟩ := List.getElem?_eq_some_iff.mp e2
    exact (List.getElem_inj nd).mp (q1.trans q2.symm)
  have kit : Kit K (ad K) (adrs K) := kit_of mem inj fun i hi => List.all_eq_true.mp k5 i (List.mem_range.mpr hi)
  have ki : ∀ i < 53, chkI K i = true := fun i hi => List.all_eq_true.mp k6 i (List.mem_range.mpr hi)
  have ki1 : ∀ i, 1 ≤ i → i ≤ 44 → initB K (ad K i) (fldOf i) (He.ma K (ad K i) "__init__") = true := fun i h1 h2 => by
    have z := ki i (by omega)
    unfold chkI at z
    rw [if_pos ⟨h1, h2⟩] at z
    exact z
  have ki2 : ∀ i < 53, ¬ (1 ≤ i ∧ i ≤ 44) → PySem.W.excIn K (ad K i) PySem.HandSPX.veTail "ValueError.__new__" = true ∧ PySem.W.keepIn K (.ref (ad K i)) = true := fun i h1 h2 => by
    have z := ki i h1
    unfold chkI at z
    rw [if_neg h2] at z
    exact and2 z
  have n0 : mg "ArmError" = some (.ref (ad K 0)) := He.glo_ok X G (c.fact 0 (f := .glo "ArmError") rfl)
  have n1 : mg "InvalidComplex" = some (.ref (ad K 1)) := He.glo_ok X G (c.fact 1 (f := .glo "InvalidComplex") rfl)
  have n2 : mg "InvalidNumbers" = some (.ref (ad K 2)) := He.glo_ok X G (c.fact 2 (f := .glo "InvalidNumbers") rfl)
  have n3 : mg "InvalidPlace" = some (.ref (ad K 3)) := He.glo_ok X G (c.fact 3 (f := .glo "InvalidPlace") rfl)
  have n4 : mg "InvalidRatio" = some (.ref (ad K 4)) := He.glo_ok X G (c.fact 4 (f := .glo "InvalidRatio") rfl)
  have n5 : mg "InvalidRow" = some (.ref (ad K 5)) := He.glo_ok X G (c.fact 5 (f := .glo "InvalidRow") rfl)
  have n6 : mg "InvalidRound" = some (.ref (ad K 6)) := He.glo_ok X G (c.fact 6 (f := .glo "InvalidRound") rfl)
  have n7 : mg "InvalidLine" = some (.ref (ad K 7)) := He.glo_ok X G (c.fact 7 (f := .glo "InvalidLine") rfl)
  have n8 : mg "InvalidMap" = some (.ref (ad K 8)) := He.glo_ok X G (c.fact 8 (f := .glo "InvalidMap") rfl)
  have n9 : mg "InvalidFlag" = some (.ref (ad K 9)) := He.glo_ok X G (c.fact 9 (f := .glo "InvalidFlag") rfl)
  have n10 : mg "InvalidNumber" = some (.ref (ad K 10)) := He.glo_ok X G (c.fact 10 (f := .glo "InvalidNumber") rfl)
  have n11 : mg "InvalidCell" = some (.ref (ad K 11)) := He.glo_ok X G (c.fact 11 (f := .glo "InvalidCell") rfl)
  have n12 : mg "InvalidHand" = some (.ref (ad K 12)) := He.glo_ok X G (c.fact 12 (f := .glo "InvalidHand") rfl)
  have n13 : mg "InvalidMirrorRow" = some (.ref (ad K 13)) := He.glo_ok X G (c.fact 13 (f := .glo "InvalidMirrorRow") rfl)
  have n14 : mg "InvalidRing" = some (.ref (ad K 14)) := He.glo_ok X G (c.fact 14 (f := .glo "InvalidRing") rfl)
  have n15 : mg "InvalidExponents" = some (.ref (ad K 15)) := He.glo_ok X G (c.fact 15 (f := .glo "InvalidExponents") rfl)
  have n16 : mg "InvalidSize" = some (.ref (ad K 16)) := He.glo_ok X G (c.fact 16 (f := .glo "InvalidSize") rfl)
  have n17 : mg "InvalidStage" = some (.ref (ad K 17)) := He.glo_ok X G (c.fact 17 (f := .glo "InvalidStage") rfl)
  have n18 : mg "InvalidIndex" = some (.ref (ad K 18)) := He.glo_ok X G (c.fact 18 (f := .glo "InvalidIndex") rfl)
  have n19 : mg "InvalidPart" = some (.ref (ad K 19)) := He.glo_ok X G (c.fact 19 (f := .glo "InvalidPart") rfl)
  have n20 : mg "InvalidValue" = some (.ref (ad K 20)) := He.glo_ok X G (c.fact 20 (f := .glo "InvalidValue") rfl)
  have n21 : mg "InvalidName" = some (.ref (ad K 21)) := He.glo_ok X G (c.fact 21 (f := .glo "InvalidName") rfl)
  have n22 : mg "InvalidWish" = some (.ref (ad K 22)) := He.glo_ok X G (c.fact 22 (f := .glo "InvalidWish") rfl)
  have n23 : mg "InvalidPhrase" = some (.ref (ad K 23)) := He.glo_ok X G (c.fact 23 (f := .glo "InvalidPhrase") rfl)
  have n24 : mg "InvalidLot" = some (.ref (ad K 24)) := He.glo_ok X G (c.fact 24 (f := .glo "InvalidLot") rfl)
  have n25 : mg "InvalidFraction" = some (.ref (ad K 25)) := He.glo_ok X G (c.fact 25 (f := .glo "InvalidFraction") rfl)
  have n26 : mg "InvalidSign" = some (.ref (ad K 26)) := He.glo_ok X G (c.fact 26 (f := .glo "InvalidSign") rfl)
  have n27 : mg "InvalidArc" = some (.ref (ad K 27)) := He.glo_ok X G (c.fact 27 (f := .glo "InvalidArc") rfl)
  have n28 : mg "NotALot" = some (.ref (ad K 28)) := He.glo_ok X G (c.fact 28 (f := .glo "NotALot") rfl)
  have n29 : mg "NotAWorkshop" = some (.ref (ad K 29)) := He.glo_ok X G (c.fact 29 (f := .glo "NotAWorkshop") rfl)
  have n30 : mg "NoMeeting" = some (.ref (ad K 30)) := He.glo_ok X G (c.fact 30 (f := .glo "NoMeeting") rfl)
  have n31 : mg "NoLink" = some (.ref (ad K 31)) := He.glo_ok X G (c.fact 31 (f := .glo "NoLink") rfl)
  have n32 : mg "OnCurve" = some (.ref (ad K 32)) := He.glo_ok X G (c.fact 32 (f := .glo "OnCurve") rfl)
  have n33 : mg "Same" = some (.ref (ad K 33)) := He.glo_ok X G (c.fact 33 (f := .glo "Same") rfl)
  have n34 : mg "TooMany" = some (.ref (ad K 34)) := He.glo_ok X G (c.fact 34 (f := .glo "TooMany") rfl)
  have n35 : mg "UnknownName" = some (.ref (ad K 35)) := He.glo_ok X G (c.fact 35 (f := .glo "UnknownName") rfl)
  have n36 : mg "InvalidTriple" = some (.ref (ad K 36)) := He.glo_ok X G (c.fact 36 (f := .glo "InvalidTriple") rfl)
  have n37 : mg "InvalidArm" = some (.ref (ad K 37)) := He.glo_ok X G (c.fact 37 (f := .glo "InvalidArm") rfl)
  have n38 : mg "InvalidRounds" = some (.ref (ad K 38)) := He.glo_ok X G (c.fact 38 (f := .glo "InvalidRounds") rfl)
  have n39 : mg "InvalidCurve" = some (.ref (ad K 39)) := He.glo_ok X G (c.fact 39 (f := .glo "InvalidCurve") rfl)
  have n40 : mg "InvalidTests" = some (.ref (ad K 40)) := He.glo_ok X G (c.fact 40 (f := .glo "InvalidTests") rfl)
  have n41 : mg "InvalidStock" = some (.ref (ad K 41)) := He.glo_ok X G (c.fact 41 (f := .glo "InvalidStock") rfl)
  have n42 : mg "InvalidKinds" = some (.ref (ad K 42)) := He.glo_ok X G (c.fact 42 (f := .glo "InvalidKinds") rfl)
  have n43 : mg "InUse" = some (.ref (ad K 43)) := He.glo_ok X G (c.fact 43 (f := .glo "InUse") rfl)
  have n44 : mg "Broken" = some (.ref (ad K 44)) := He.glo_ok X G (c.fact 44 (f := .glo "Broken") rfl)
  have n45 : mg "NoPlace" = some (.ref (ad K 45)) := He.glo_ok X G (c.fact 45 (f := .glo "NoPlace") rfl)
  have n46 : mg "NoMap" = some (.ref (ad K 46)) := He.glo_ok X G (c.fact 46 (f := .glo "NoMap") rfl)
  have n47 : mg "NoMapFits" = some (.ref (ad K 47)) := He.glo_ok X G (c.fact 47 (f := .glo "NoMapFits") rfl)
  have n48 : mg "NoRowFits" = some (.ref (ad K 48)) := He.glo_ok X G (c.fact 48 (f := .glo "NoRowFits") rfl)
  have n49 : mg "NotClosed" = some (.ref (ad K 49)) := He.glo_ok X G (c.fact 49 (f := .glo "NotClosed") rfl)
  have n50 : mg "NotSimple" = some (.ref (ad K 50)) := He.glo_ok X G (c.fact 50 (f := .glo "NotSimple") rfl)
  have n51 : mg "Meets" = some (.ref (ad K 51)) := He.glo_ok X G (c.fact 51 (f := .glo "Meets") rfl)
  have n52 : mg "NothingToUndo" = some (.ref (ad K 52)) := He.glo_ok X G (c.fact 52 (f := .glo "NothingToUndo") rfl)
  obtain ⟨g1, G1⟩ := c.def_ 0 (d := q_InvalidComplex) rfl
  have c1 : XCls K mg "InvalidComplex" (ad K 1) "given" (He.ma K (ad K 1) "__init__") g1 "InvalidComplex.__init__" i_InvalidComplex := mk_xF n1 (ki1 1 (by decide) (by decide)) (fun_of G1) (fun _ _ _ _ _ _ us hl => match us, hl with | [_, _], _ => rfl) (fun _ _ _ _ _ _ _ _ => rfl) si_InvalidComplex (Or.inl rfl) (Or.inl rfl) (by decide) (by decide) ⟨_, _, _, _, rfl⟩
  obtain ⟨g2, G2⟩ := c.def_ 1 (d := q_InvalidNumbers) rfl
  have c2 : XCls K mg "InvalidNumbers" (ad K 2) "given" (He.ma K (ad K 2) "__init__") g2 "InvalidNumbers.__init__" i_InvalidNumbers := mk_xF n2 (ki1 2 (by decide) (by decide)) (fun_of G2) (fun _ _ _ _ _ _ us hl => match us, hl with | [_, _], _ => rfl) (fun _ _ _ _ _ _ _ _ => rfl) si_InvalidNumbers (Or.inl rfl) (Or.inl rfl) (by decide) (by decide) ⟨_, _, _, _, rfl⟩
  obtain ⟨g3, G3⟩ := c.def_ 2 (d := q_InvalidPlace) rfl
  have c3 : XCls K mg "InvalidPlace" (ad K 3) "given" (He.ma K (ad K 3) "__init__") g3 "InvalidPlace.__init__" i_InvalidPlace := mk_xF n3 (ki1 3 (by decide) (by decide)) (fun_of G3) (fun _ _ _ _ _ _ us hl => match us, hl with | [_, _], _ => rfl) (fun _ _ _ _ _ _ _ _ => rfl) si_InvalidPlace (Or.inl rfl) (Or.inl rfl) (by decide) (by decide) ⟨_, _, _, _, rfl⟩
  obtain ⟨g4, G4⟩ := c.def_ 3 (d := q_InvalidRatio) rfl
  have c4 : XCls K mg "InvalidRatio" (ad K 4) "given" (He.ma K (ad K 4) "__init__") g4 "InvalidRatio.__init__" i_InvalidRatio := mk_xF n4 (ki1 4 (by decide) (by decide)) (fun_of G4) (fun _ _ _ _ _ _ us hl => match us, hl with | [_, _], _ => rfl) (fun _ _ _ _ _ _ _ _ => rfl) si_InvalidRatio (Or.inl rfl) (Or.inl rfl) (by decide) (by decide) ⟨_, _, _, _, rfl⟩
  obtain ⟨g5, G5⟩ := c.def_ 4 (d := q_InvalidRow) rfl
  have c5 : XCls K mg "InvalidRow" (ad K 5) "given" (He.ma K (ad K 5) "__init__") g5 "InvalidRow.__init__" i_InvalidRow := mk_xF n5 (ki1 5 (by decide) (by decide)) (fun_of G5) (fun _ _ _ _ _ _ us hl => match us, hl with | [_, _], _ => rfl) (fun _ _ _ _ _ _ _ _ => rfl) si_InvalidRow (Or.inl rfl) (Or.inl rfl) (by decide) (by decide) ⟨_, _, _, _, rfl⟩
  obtain ⟨g6, G6⟩ := c.def_ 5 (d := q_InvalidRound) rfl
  have c6 : XCls K mg "InvalidRound" (ad K 6) "given" (He.ma K (ad K 6) "__init__") g6 "InvalidRound.__init__" i_InvalidRound := mk_xF n6 (ki1 6 (by decide) (by decide)) (fun_of G6) (fun _ _ _ _ _ _ us hl => match us, hl with | [_, _], _ => rfl) (fun _ _ _ _ _ _ _ _ => rfl) si_InvalidRound (Or.inl rfl) (Or.inl rfl) (by decide) (by decide) ⟨_, _, _, _, rfl⟩
  obtain ⟨g7, G7⟩ := c.def_ 6 (d := q_InvalidLine) rfl
  have c7 : XCls K mg "InvalidLine" (ad K 7) "given" (He.ma K (ad K 7) "__init__") g7 "InvalidLine.__init__" i_InvalidLine := mk_xF n7 (ki1 7 (by decide) (by decide)) (fun_of G7) (fun _ _ _ _ _ _ us hl => match us, hl with | [_, _], _ => rfl) (fun _ _ _ _ _ _ _ _ => rfl) si_InvalidLine (Or.inl rfl) (Or.inl rfl) (by decide) (by decide) ⟨_, _, _, _, rfl⟩
  obtain ⟨g8, G8⟩ := c.def_ 7 (d := q_InvalidMap) rfl
  have c8 : XCls K mg "InvalidMap" (ad K 8) "given" (He.ma K (ad K 8) "__init__") g8 "InvalidMap.__init__" i_InvalidMap := mk_xF n8 (ki1 8 (by decide) (by decide)) (fun_of G8) (fun _ _ _ _ _ _ us hl => match us, hl with | [_, _], _ => rfl) (fun _ _ _ _ _ _ _ _ => rfl) si_InvalidMap (Or.inl rfl) (Or.inl rfl) (by decide) (by decide) ⟨_, _, _, _, rfl⟩
  obtain ⟨g9, G9⟩ := c.def_ 8 (d := q_InvalidFlag) rfl
  have c9 : XCls K mg "InvalidFlag" (ad K 9) "given" (He.ma K (ad K 9) "__init__") g9 "InvalidFlag.__init__" i_InvalidFlag := mk_xF n9 (ki1 9 (by decide) (by decide)) (fun_of G9) (fun _ _ _ _ _ _ us hl => match us, hl with | [_, _], _ => rfl) (fun _ _ _ _ _ _ _ _ => rfl) si_InvalidFlag (Or.inl rfl) (Or.inl rfl) (by decide) (by decide) ⟨_, _, _, _, rfl⟩
  obtain ⟨g10, G10⟩ := c.def_ 9 (d := q_InvalidNumber) rfl
  have c10 : XCls K mg "InvalidNumber" (ad K 10) "given" (He.ma K (ad K 10) "__init__") g10 "InvalidNumber.__init__" i_InvalidNumber := mk_xF n10 (ki1 10 (by decide) (by decide)) (fun_of G10) (fun _ _ _ _ _ _ us hl => match us, hl with | [_, _], _ => rfl) (fun _ _ _ _ _ _ _ _ => rfl) si_InvalidNumber (Or.inl rfl) (Or.inl rfl) (by decide) (by decide) ⟨_, _, _, _, rfl⟩
  obtain ⟨g11, G11⟩ := c.def_ 10 (d := q_InvalidCell) rfl
  have c11 : XCls K mg "InvalidCell" (ad K 11) "given" (He.ma K (ad K 11) "__init__") g11 "InvalidCell.__init__" i_InvalidCell := mk_xF n11 (ki1 11 (by decide) (by decide)) (fun_of G11) (fun _ _ _ _ _ _ us hl => match us, hl with | [_, _], _ => rfl) (fun _ _ _ _ _ _ _ _ => rfl) si_InvalidCell (Or.inl rfl) (Or.inl rfl) (by decide) (by decide) ⟨_, _, _, _, rfl⟩
  obtain ⟨g12, G12⟩ := c.def_ 11 (d := q_InvalidHand) rfl
  have c12 : XCls K mg "InvalidHand" (ad K 12) "given" (He.ma K (ad K 12) "__init__") g12 "InvalidHand.__init__" i_InvalidHand := mk_xF n12 (ki1 12 (by decide) (by decide)) (fun_of G12) (fun _ _ _ _ _ _ us hl => match us, hl with | [_, _], _ => rfl) (fun _ _ _ _ _ _ _ _ => rfl) si_InvalidHand (Or.inl rfl) (Or.inl rfl) (by decide) (by decide) ⟨_, _, _, _, rfl⟩
  obtain ⟨g13, G13⟩ := c.def_ 12 (d := q_InvalidMirrorRow) rfl
  have c13 : XCls K mg "InvalidMirrorRow" (ad K 13) "given" (He.ma K (ad K 13) "__init__") g13 "InvalidMirrorRow.__init__" i_InvalidMirrorRow := mk_xF n13 (ki1 13 (by decide) (by decide)) (fun_of G13) (fun _ _ _ _ _ _ us hl => match us, hl with | [_, _], _ => rfl) (fun _ _ _ _ _ _ _ _ => rfl) si_InvalidMirrorRow (Or.inl rfl) (Or.inl rfl) (by decide) (by decide) ⟨_, _, _, _, rfl⟩
  obtain ⟨g14, G14⟩ := c.def_ 13 (d := q_InvalidRing) rfl
  have c14 : XCls K mg "InvalidRing" (ad K 14) "given" (He.ma K (ad K 14) "__init__") g14 "InvalidRing.__init__" i_InvalidRing := mk_xF n14 (ki1 14 (by decide) (by decide)) (fun_of G14) (fun _ _ _ _ _ _ us hl => match us, hl with | [_, _], _ => rfl) (fun _ _ _ _ _ _ _ _ => rfl) si_InvalidRing (Or.inl rfl) (Or.inl rfl) (by decide) (by decide) ⟨_, _, _, _, rfl⟩
  obtain ⟨g15, G15⟩ := c.def_ 14 (d := q_InvalidExponents) rfl
  have c15 : XCls K mg "InvalidExponents" (ad K 15) "given" (He.ma K (ad K 15) "__init__") g15 "InvalidExponents.__init__" i_InvalidExponents := mk_xF n15 (ki1 15 (by decide) (by decide)) (fun_of G15) (fun _ _ _ _ _ _ us hl => match us, hl with | [_, _], _ => rfl) (fun _ _ _ _ _ _ _ _ => rfl) si_InvalidExponents (Or.inl rfl) (Or.inl rfl) (by decide) (by decide) ⟨_, _, _, _, rfl⟩
  obtain ⟨g16, G16⟩ := c.def_ 15 (d := q_InvalidSize) rfl
  have c16 : XCls K mg "InvalidSize" (ad K 16) "given" (He.ma K (ad K 16) "__init__") g16 "InvalidSize.__init__" i_InvalidSize := mk_xF n16 (ki1 16 (by decide) (by decide)) (fun_of G16) (fun _ _ _ _ _ _ us hl => match us, hl with | [_, _], _ => rfl) (fun _ _ _ _ _ _ _ _ => rfl) si_InvalidSize (Or.inl rfl) (Or.inl rfl) (by decide) (by decide) ⟨_, _, _, _, rfl⟩
  obtain ⟨g17, G17⟩ := c.def_ 16 (d := q_InvalidStage) rfl
  have c17 : XCls K mg "InvalidStage" (ad K 17) "given" (He.ma K (ad K 17) "__init__") g17 "InvalidStage.__init__" i_InvalidStage := mk_xF n17 (ki1 17 (by decide) (by decide)) (fun_of G17) (fun _ _ _ _ _ _ us hl => match us, hl with | [_, _], _ => rfl) (fun _ _ _ _ _ _ _ _ => rfl) si_InvalidStage (Or.inl rfl) (Or.inl rfl) (by decide) (by decide) ⟨_, _, _, _, rfl⟩
  obtain ⟨g18, G18⟩ := c.def_ 17 (d := q_InvalidIndex) rfl
  have c18 : XCls K mg "InvalidIndex" (ad K 18) "given" (He.ma K (ad K 18) "__init__") g18 "InvalidIndex.__init__" i_InvalidIndex := mk_xF n18 (ki1 18 (by decide) (by decide)) (fun_of G18) (fun _ _ _ _ _ _ us hl => match us, hl with | [_, _], _ => rfl) (fun _ _ _ _ _ _ _ _ => rfl) si_InvalidIndex (Or.inl rfl) (Or.inl rfl) (by decide) (by decide) ⟨_, _, _, _, rfl⟩
  obtain ⟨g19, G19⟩ := c.def_ 18 (d := q_InvalidPart) rfl
  have c19 : XCls K mg "InvalidPart" (ad K 19) "given" (He.ma K (ad K 19) "__init__") g19 "InvalidPart.__init__" i_InvalidPart := mk_xF n19 (ki1 19 (by decide) (by decide)) (fun_of G19) (fun _ _ _ _ _ _ us hl => match us, hl with | [_, _], _ => rfl) (fun _ _ _ _ _ _ _ _ => rfl) si_InvalidPart (Or.inl rfl) (Or.inl rfl) (by decide) (by decide) ⟨_, _, _, _, rfl⟩
  obtain ⟨g20, G20⟩ := c.def_ 19 (d := q_InvalidValue) rfl
  have c20 : XCls K mg "InvalidValue" (ad K 20) "given" (He.ma K (ad K 20) "__init__") g20 "InvalidValue.__init__" i_InvalidValue := mk_xF n20 (ki1 20 (by decide) (by decide)) (fun_of G20) (fun _ _ _ _ _ _ us hl => match us, hl with | [_, _], _ => rfl) (fun _ _ _ _ _ _ _ _ => rfl) si_InvalidValue (Or.inl rfl) (Or.inl rfl) (by decide) (by decide) ⟨_, _, _, _, rfl⟩
  obtain ⟨g21, G21⟩ := c.def_ 20 (d := q_InvalidName) rfl
  have c21 : XCls K mg "InvalidName" (ad K 21) "given" (He.ma K (ad K 21) "__init__") g21 "InvalidName.__init__" i_InvalidName := mk_xF n21 (ki1 21 (by decide) (by decide)) (fun_of G21) (fun _ _ _ _ _ _ us hl => match us, hl with | [_, _], _ => rfl) (fun _ _ _ _ _ _ _ _ => rfl) si_InvalidName (Or.inl rfl) (Or.inl rfl) (by decide) (by decide) ⟨_, _, _, _, rfl⟩
  obtain ⟨g22, G22⟩ := c.def_ 21 (d := q_InvalidWish) rfl
  have c22 : XCls K mg "InvalidWish" (ad K 22) "given" (He.ma K (ad K 22) "__init__") g22 "InvalidWish.__init__" i_InvalidWish := mk_xF n22 (ki1 22 (by decide) (by decide)) (fun_of G22) (fun _ _ _ _ _ _ us hl => match us, hl with | [_, _], _ => rfl) (fun _ _ _ _ _ _ _ _ => rfl) si_InvalidWish (Or.inl rfl) (Or.inl rfl) (by decide) (by decide) ⟨_, _, _, _, rfl⟩
  obtain ⟨g23, G23⟩ := c.def_ 22 (d := q_InvalidPhrase) rfl
  have c23 : XCls K mg "InvalidPhrase" (ad K 23) "given" (He.ma K (ad K 23) "__init__") g23 "InvalidPhrase.__init__" i_InvalidPhrase := mk_xF n23 (ki1 23 (by decide) (by decide)) (fun_of G23) (fun _ _ _ _ _ _ us hl => match us, hl with | [_, _], _ => rfl) (fun _ _ _ _ _ _ _ _ => rfl) si_InvalidPhrase (Or.inl rfl) (Or.inl rfl) (by decide) (by decide) ⟨_, _, _, _, rfl⟩
  obtain ⟨g24, G24⟩ := c.def_ 23 (d := q_InvalidLot) rfl
  have c24 : XCls K mg "InvalidLot" (ad K 24) "given" (He.ma K (ad K 24) "__init__") g24 "InvalidLot.__init__" i_InvalidLot := mk_xF n24 (ki1 24 (by decide) (by decide)) (fun_of G24) (fun _ _ _ _ _ _ us hl => match us, hl with | [_, _], _ => rfl) (fun _ _ _ _ _ _ _ _ => rfl) si_InvalidLot (Or.inl rfl) (Or.inl rfl) (by decide) (by decide) ⟨_, _, _, _, rfl⟩
  obtain ⟨g25, G25⟩ := c.def_ 24 (d := q_InvalidFraction) rfl
  have c25 : XCls K mg "InvalidFraction" (ad K 25) "given" (He.ma K (ad K 25) "__init__") g25 "InvalidFraction.__init__" i_InvalidFraction := mk_xF n25 (ki1 25 (by decide) (by decide)) (fun_of G25) (fun _ _ _ _ _ _ us hl => match us, hl with | [_, _], _ => rfl) (fun _ _ _ _ _ _ _ _ => rfl) si_InvalidFraction (Or.inl rfl) (Or.inl rfl) (by decide) (by decide) ⟨_, _, _, _, rfl⟩
  obtain ⟨g26, G26⟩ := c.def_ 25 (d := q_InvalidSign) rfl
  have c26 : XCls K mg "InvalidSign" (ad K 26) "given" (He.ma K (ad K 26) "__init__") g26 "InvalidSign.__init__" i_InvalidSign := mk_xF n26 (ki1 26 (by decide) (by decide)) (fun_of G26) (fun _ _ _ _ _ _ us hl => match us, hl with | [_, _], _ => rfl) (fun _ _ _ _ _ _ _ _ => rfl) si_InvalidSign (Or.inl rfl) (Or.inl rfl) (by decide) (by decide) ⟨_, _, _, _, rfl⟩
  obtain ⟨g27, G27⟩ := c.def_ 26 (d := q_InvalidArc) rfl
  have c27 : XCls K mg "InvalidArc" (ad K 27) "given" (He.ma K (ad K 27) "__init__") g27 "InvalidArc.__init__" i_InvalidArc := mk_xF n27 (ki1 27 (by decide) (by decide)) (fun_of G27) (fun _ _ _ _ _ _ us hl => match us, hl with | [_, _], _ => rfl) (fun _ _ _ _ _ _ _ _ => rfl) si_InvalidArc (Or.inl rfl) (Or.inl rfl) (by decide) (by decide) ⟨_, _, _, _, rfl⟩
  obtain ⟨g28, G28⟩ := c.def_ 27 (d := q_NotALot) rfl
  have c28 : XCls K mg "NotALot" (ad K 28) "given" (He.ma K (ad K 28) "__init__") g28 "NotALot.__init__" i_NotALot := mk_xF n28 (ki1 28 (by decide) (by decide)) (fun_of G28) (fun _ _ _ _ _ _ us hl => match us, hl with | [_, _], _ => rfl) (fun _ _ _ _ _ _ _ _ => rfl) si_NotALot (Or.inl rfl) (Or.inl rfl) (by decide) (by decide) ⟨_, _, _, _, rfl⟩
  obtain ⟨g29, G29⟩ := c.def_ 28 (d := q_NotAWorkshop) rfl
  have c29 : XCls K mg "NotAWorkshop" (ad K 29) "given" (He.ma K (ad K 29) "__init__") g29 "NotAWorkshop.__init__" i_NotAWorkshop := mk_xF n29 (ki1 29 (by decide) (by decide)) (fun_of G29) (fun _ _ _ _ _ _ us hl => match us, hl with | [_, _], _ => rfl) (fun _ _ _ _ _ _ _ _ => rfl) si_NotAWorkshop (Or.inl rfl) (Or.inl rfl) (by decide) (by decide) ⟨_, _, _, _, rfl⟩
  obtain ⟨g30, G30⟩ := c.def_ 29 (d := q_NoMeeting) rfl
  have c30 : XCls K mg "NoMeeting" (ad K 30) "given" (He.ma K (ad K 30) "__init__") g30 "NoMeeting.__init__" i_NoMeeting := mk_xF n30 (ki1 30 (by decide) (by decide)) (fun_of G30) (fun _ _ _ _ _ _ us hl => match us, hl with | [_, _], _ => rfl) (fun _ _ _ _ _ _ _ _ => rfl) si_NoMeeting (Or.inl rfl) (Or.inl rfl) (by decide) (by decide) ⟨_, _, _, _, rfl⟩
  obtain ⟨g31, G31⟩ := c.def_ 30 (d := q_NoLink) rfl
  have c31 : XCls K mg "NoLink" (ad K 31) "given" (He.ma K (ad K 31) "__init__") g31 "NoLink.__init__" i_NoLink := mk_xF n31 (ki1 31 (by decide) (by decide)) (fun_of G31) (fun _ _ _ _ _ _ us hl => match us, hl with | [_, _], _ => rfl) (fun _ _ _ _ _ _ _ _ => rfl) si_NoLink (Or.inl rfl) (Or.inl rfl) (by decide) (by decide) ⟨_, _, _, _, rfl⟩
  obtain ⟨g32, G32⟩ := c.def_ 31 (d := q_OnCurve) rfl
  have c32 : XCls K mg "OnCurve" (ad K 32) "given" (He.ma K (ad K 32) "__init__") g32 "OnCurve.__init__" i_OnCurve := mk_xF n32 (ki1 32 (by decide) (by decide)) (fun_of G32) (fun _ _ _ _ _ _ us hl => match us, hl with | [_, _], _ => rfl) (fun _ _ _ _ _ _ _ _ => rfl) si_OnCurve (Or.inl rfl) (Or.inl rfl) (by decide) (by decide) ⟨_, _, _, _, rfl⟩
  obtain ⟨g33, G33⟩ := c.def_ 32 (d := q_Same) rfl
  have c33 : XCls K mg "Same" (ad K 33) "given" (He.ma K (ad K 33) "__init__") g33 "Same.__init__" i_Same := mk_xF n33 (ki1 33 (by decide) (by decide)) (fun_of G33) (fun _ _ _ _ _ _ us hl => match us, hl with | [_, _], _ => rfl) (fun _ _ _ _ _ _ _ _ => rfl) si_Same (Or.inl rfl) (Or.inl rfl) (by decide) (by decide) ⟨_, _, _, _, rfl⟩
  obtain ⟨g34, G34⟩ := c.def_ 33 (d := q_TooMany) rfl
  have c34 : XCls K mg "TooMany" (ad K 34) "given" (He.ma K (ad K 34) "__init__") g34 "TooMany.__init__" i_TooMany := mk_xF n34 (ki1 34 (by decide) (by decide)) (fun_of G34) (fun _ _ _ _ _ _ us hl => match us, hl with | [_, _], _ => rfl) (fun _ _ _ _ _ _ _ _ => rfl) si_TooMany (Or.inl rfl) (Or.inl rfl) (by decide) (by decide) ⟨_, _, _, _, rfl⟩
  obtain ⟨g35, G35⟩ := c.def_ 34 (d := q_UnknownName) rfl
  have c35 : XCls K mg "UnknownName" (ad K 35) "given" (He.ma K (ad K 35) "__init__") g35 "UnknownName.__init__" i_UnknownName := mk_xF n35 (ki1 35 (by decide) (by decide)) (fun_of G35) (fun _ _ _ _ _ _ us hl => match us, hl with | [_, _], _ => rfl) (fun _ _ _ _ _ _ _ _ => rfl) si_UnknownName (Or.inl rfl) (Or.inl rfl) (by decide) (by decide) ⟨_, _, _, _, rfl⟩
  obtain ⟨g36, G36⟩ := c.def_ 35 (d := q_InvalidTriple) rfl
  have c36 : XCls K mg "InvalidTriple" (ad K 36) "index" (He.ma K (ad K 36) "__init__") g36 "InvalidTriple.__init__" i_InvalidTriple := mk_xF n36 (ki1 36 (by decide) (by decide)) (fun_of G36) (fun _ _ _ _ _ _ us hl => match us, hl with | [_, _], _ => rfl) (fun _ _ _ _ _ _ _ _ => rfl) si_InvalidTriple (Or.inl rfl) (Or.inl rfl) (by decide) (by decide) ⟨_, _, _, _, rfl⟩
  obtain ⟨g37, G37⟩ := c.def_ 36 (d := q_InvalidArm) rfl
  have c37 : XCls K mg "InvalidArm" (ad K 37) "index" (He.ma K (ad K 37) "__init__") g37 "InvalidArm.__init__" i_InvalidArm := mk_xF n37 (ki1 37 (by decide) (by decide)) (fun_of G37) (fun _ _ _ _ _ _ us hl => match us, hl with | [_, _], _ => rfl) (fun _ _ _ _ _ _ _ _ => rfl) si_InvalidArm (Or.inl rfl) (Or.inl rfl) (by decide) (by decide) ⟨_, _, _, _, rfl⟩
  obtain ⟨g38, G38⟩ := c.def_ 37 (d := q_InvalidRounds) rfl
  have c38 : XCls K mg "InvalidRounds" (ad K 38) "index" (He.ma K (ad K 38) "__init__") g38 "InvalidRounds.__init__" i_InvalidRounds := mk_xF n38 (ki1 38 (by decide) (by decide)) (fun_of G38) (fun _ _ _ _ _ _ us hl => match us, hl with | [_, _], _ => rfl) (fun _ _ _ _ _ _ _ _ => rfl) si_InvalidRounds (Or.inl rfl) (Or.inl rfl) (by decide) (by decide) ⟨_, _, _, _, rfl⟩
  obtain ⟨g39, G39⟩ := c.def_ 38 (d := q_InvalidCurve) rfl
  have c39 : XCls K mg "InvalidCurve" (ad K 39) "index" (He.ma K (ad K 39) "__init__") g39 "InvalidCurve.__init__" i_InvalidCurve := mk_xF n39 (ki1 39 (by decide) (by decide)) (fun_of G39) (fun _ _ _ _ _ _ us hl => match us, hl with | [_, _], _ => rfl) (fun _ _ _ _ _ _ _ _ => rfl) si_InvalidCurve (Or.inl rfl) (Or.inl rfl) (by decide) (by decide) ⟨_, _, _, _, rfl⟩
  obtain ⟨g40, G40⟩ := c.def_ 39 (d := q_InvalidTests) rfl
  have c40 : XCls K mg "InvalidTests" (ad K 40) "index" (He.ma K (ad K 40) "__init__") g40 "InvalidTests.__init__" i_InvalidTests := mk_xF n40 (ki1 40 (by decide) (by decide)) (fun_of G40) (fun _ _ _ _ _ _ us hl => match us, hl with | [_, _], _ => rfl) (fun _ _ _ _ _ _ _ _ => rfl) si_InvalidTests (Or.inl rfl) (Or.inl rfl) (by decide) (by decide) ⟨_, _, _, _, rfl⟩
  obtain ⟨g41, G41⟩ := c.def_ 40 (d := q_InvalidStock) rfl
  have c41 : XCls K mg "InvalidStock" (ad K 41) "index" (He.ma K (ad K 41) "__init__") g41 "InvalidStock.__init__" i_InvalidStock := mk_xF n41 (ki1 41 (by decide) (by decide)) (fun_of G41) (fun _ _ _ _ _ _ us hl => match us, hl with | [_, _], _ => rfl) (fun _ _ _ _ _ _ _ _ => rfl) si_InvalidStock (Or.inl rfl) (Or.inl rfl) (by decide) (by decide) ⟨_, _, _, _, rfl⟩
  obtain ⟨g42, G42⟩ := c.def_ 41 (d := q_InvalidKinds) rfl
  have c42 : XCls K mg "InvalidKinds" (ad K 42) "index" (He.ma K (ad K 42) "__init__") g42 "InvalidKinds.__init__" i_InvalidKinds := mk_xF n42 (ki1 42 (by decide) (by decide)) (fun_of G42) (fun _ _ _ _ _ _ us hl => match us, hl with | [_, _], _ => rfl) (fun _ _ _ _ _ _ _ _ => rfl) si_InvalidKinds (Or.inl rfl) (Or.inl rfl) (by decide) (by decide) ⟨_, _, _, _, rfl⟩
  obtain ⟨g43, G43⟩ := c.def_ 42 (d := q_InUse) rfl
  have c43 : XCls K mg "InUse" (ad K 43) "index" (He.ma K (ad K 43) "__init__") g43 "InUse.__init__" i_InUse := mk_xF n43 (ki1 43 (by decide) (by decide)) (fun_of G43) (fun _ _ _ _ _ _ us hl => match us, hl with | [_, _], _ => rfl) (fun _ _ _ _ _ _ _ _ => rfl) si_InUse (Or.inl rfl) (Or.inl rfl) (by decide) (by decide) ⟨_, _, _, _, rfl⟩
  obtain ⟨g44, G44⟩ := c.def_ 43 (d := q_Broken) rfl
  have c44 : XCls K mg "Broken" (ad K 44) "index" (He.ma K (ad K 44) "__init__") g44 "Broken.__init__" i_Broken := mk_xF n44 (ki1 44 (by decide) (by decide)) (fun_of G44) (fun _ _ _ _ _ _ us hl => match us, hl with | [_, _], _ => rfl) (fun _ _ _ _ _ _ _ _ => rfl) si_Broken (Or.inl rfl) (Or.inl rfl) (by decide) (by decide) ⟨_, _, _, _, rfl⟩
  obtain ⟨q0, k0⟩ := ki2 0 (by decide) (by decide)
  obtain ⟨q45, k45⟩ := ki2 45 (by decide) (by decide)
  obtain ⟨q46, k46⟩ := ki2 46 (by decide) (by decide)
  obtain ⟨q47, k47⟩ := ki2 47 (by decide) (by decide)
  obtain ⟨q48, k48⟩ := ki2 48 (by decide) (by decide)
  obtain ⟨q49, k49⟩ := ki2 49 (by decide) (by decide)
  obtain ⟨q50, k50⟩ := ki2 50 (by decide) (by decide)
  obtain ⟨q51, k51⟩ := ki2 51 (by decide) (by decide)
  obtain ⟨q52, k52⟩ := ki2 52 (by decide) (by decide)
  obtain ⟨d0, D0⟩ := c.def_ 44 (d := q_law_tank) rfl
  have f_law_tank : Fun K "_law_tank" "_law_tank" s_law_tank (He.ga K "_law_tank") d0 := fun_of D0
  have b_law_tank : Binds K d0 ["_law_script", "_law_spot"] [] := f_law_tank.binds (fun _ _ _ _ _ _ us hl => match us, hl with | [_, _], _ => rfl)
  have m_law_tank : mg "_law_tank" = some (.ref (He.ga K "_law_tank")) := He.glo_ok X G (c.fact 53 (f := .glo "_law_tank") rfl)
  obtain ⟨d1, D1⟩ := c.def_ 45 (d := q_law_draw) rfl
  have f_law_draw : Fun K "_law_draw" "_law_draw" s_law_draw (He.ga K "_law_draw") d1 := fun_of D1
  have b_law_draw : Binds K d1 ["_law_tank_here", "_law_many"] [] := f_law_draw.binds (fun _ _ _ _ _ _ us hl => match us, hl with | [_, _], _ => rfl)
  have m_law_draw : mg "_law_draw" = some (.ref (He.ga K "_law_draw")) := He.glo_ok X G (c.fact 54 (f := .glo "_law_draw") rfl)
  obtain ⟨d2, D2⟩ := c.def_ 46 (d := q_law_pick) rfl
  have f_law_pick : Fun K "_law_pick" "_law_pick" s_law_pick (He.ga K "_law_pick") d2 := fun_of D2
  have b_law_pick : Binds K d2 ["_law_tank_here", "_law_some"] [] := f_law_pick.binds (fun _ _ _ _ _ _ us hl => match us, hl with | [_, _], _ => rfl)
  have m_law_pick : mg "_law_pick" = some (.ref (He.ga K "_law_pick")) := He.glo_ok X G (c.fact 55 (f := .glo "_law_pick") rfl)
  obtain ⟨d3, D3⟩ := c.def_ 47 (d := q_law_number) rfl
  have f_law_number : Fun K "_law_number" "_law_number" s_law_number (He.ga K "_law_number") d3 := fun_of D3
  have b_law_number : Binds K d3 ["_law_tank_here"] [] := f_law_number.binds (fun _ _ _ _ _ _ us hl => match us, hl with | [_], _ => rfl)
  have m_law_number : mg "_law_number" = some (.ref (He.ga K "_law_number")) := He.glo_ok X G (c.fact 56 (f := .glo "_law_number") rfl)
  obtain ⟨d4, D4⟩ := c.def_ 48 (d := q_law_with_given) rfl
  have f_law_with_given : Fun K "_law_with_given" "_law_with_given" s_law_with_given (He.ga K "_law_with_given") d4 := fun_of D4
  have b_law_with_given : Binds K d4 ["_law_thing_here"] [] := f_law_with_given.binds (fun _ _ _ _ _ _ us hl => match us, hl with | [_], _ => rfl)
  have m_law_with_given : mg "_law_with_given" = some (.ref (He.ga K "_law_with_given")) := He.glo_ok X G (c.fact 57 (f := .glo "_law_with_given") rfl)
  obtain ⟨d5, D5⟩ := c.def_ 49 (d := q_law_with_given_named) rfl
  have f_law_with_given_named : Fun K "_law_with_given_named" "_law_with_given_named" s_law_with_given_named (He.ga K "_law_with_given_named") d5 := fun_of D5
  have b_law_with_given_named : Binds K d5 ["_law_thing_here"] [] := f_law_with_given_named.binds (fun _ _ _ _ _ _ us hl => match us, hl with | [_], _ => rfl)
  have m_law_with_given_named : mg "_law_with_given_named" = some (.ref (He.ga K "_law_with_given_named")) := He.glo_ok X G (c.fact 58 (f := .glo "_law_with_given_named") rfl)
  obtain ⟨d6, D6⟩ := c.def_ 50 (d := q_law_with_index) rfl
  have f_law_with_index : Fun K "_law_with_index" "_law_with_index" s_law_with_index (He.ga K "_law_with_index") d6 := fun_of D6
  have b_law_with_index : Binds K d6 ["_law_thing_here"] [] := f_law_with_index.binds (fun _ _ _ _ _ _ us hl => match us, hl with | [_], _ => rfl)
  have m_law_with_index : mg "_law_with_index" = some (.ref (He.ga K "_law_with_index")) := He.glo_ok X G (c.fact 59 (f := .glo "_law_with_index") rfl)
  obtain ⟨d7, D7⟩ := c.def_ 51 (d := q_law_with_index_named) rfl
  have f_law_with_index_named : Fun K "_law_with_index_named" "_law_with_index_named" s_law_with_index_named (He.ga K "_law_with_index_named") d7 := fun_of D7
  have b_law_with_index_named : Binds K d7 ["_law_thing_here"] [] := f_law_with_index_named.binds (fun _ _ _ _ _ _ us hl => match us, hl with | [_], _ => rfl)
  have m_law_with_index_named : mg "_law_with_index_named" = some (.ref (He.ga K "_law_with_index_named")) := He.glo_ok X G (c.fact 60 (f := .glo "_law_with_index_named") rfl)
  obtain ⟨d8, D8⟩ := c.def_ 52 (d := q_law_bare) rfl
  have f_law_bare : Fun K "_law_bare" "_law_bare" s_law_bare (He.ga K "_law_bare") d8 := fun_of D8
  have b_law_bare : Binds K d8 [] [] := f_law_bare.binds (fun _ _ _ _ _ _ us hl => match us, hl with | [], _ => rfl)
  have m_law_bare : mg "_law_bare" = some (.ref (He.ga K "_law_bare")) := He.glo_ok X G (c.fact 61 (f := .glo "_law_bare") rfl)
  obtain ⟨d9, D9⟩ := c.def_ 53 (d := q_law_marks) rfl
  have f_law_marks : Fun K "_law_marks" "_law_marks" s_law_marks (He.ga K "_law_marks") d9 := fun_of D9
  have b_law_marks : Binds K d9 ["_law_e"] [] := f_law_marks.binds (fun _ _ _ _ _ _ us hl => match us, hl with | [_], _ => rfl)
  have m_law_marks : mg "_law_marks" = some (.ref (He.ga K "_law_marks")) := He.glo_ok X G (c.fact 62 (f := .glo "_law_marks") rfl)
  obtain ⟨d10, D10⟩ := c.def_ 54 (d := q_law_is_under) rfl
  have f_law_is_under : Fun K "_law_is_under" "_law_is_under" s_law_is_under (He.ga K "_law_is_under") d10 := fun_of D10
  have b_law_is_under : Binds K d10 ["_law_e"] [] := f_law_is_under.binds (fun _ _ _ _ _ _ us hl => match us, hl with | [_], _ => rfl)
  have m_law_is_under : mg "_law_is_under" = some (.ref (He.ga K "_law_is_under")) := He.glo_ok X G (c.fact 63 (f := .glo "_law_is_under") rfl)
  obtain ⟨d11, D11⟩ := c.def_ 55 (d := q_law_stand) rfl
  have f_law_stand : Fun K "_law_stand" "_law_stand" s_law_stand (He.ga K "_law_stand") d11 := fun_of D11
  have b_law_stand : Binds K d11 ["_law_errors", "_law_start"] [] := f_law_stand.binds (fun _ _ _ _ _ _ us hl => match us, hl with | [_, _], _ => rfl)
  have m_law_stand : mg "_law_stand" = some (.ref (He.ga K "_law_stand")) := He.glo_ok X G (c.fact 64 (f := .glo "_law_stand") rfl)
  obtain ⟨d12, D12⟩ := c.def_ 56 (d := q_law_thing) rfl
  have f_law_thing : Fun K "_law_thing" "_law_thing" s_law_thing (He.ga K "_law_thing") d12 := fun_of D12
  have b_law_thing : Binds K d12 ["_law_tank_here"] [] := f_law_thing.binds (fun _ _ _ _ _ _ us hl => match us, hl with | [_], _ => rfl)
  have m_law_thing : mg "_law_thing" = some (.ref (He.ga K "_law_thing")) := He.glo_ok X G (c.fact 65 (f := .glo "_law_thing") rfl)
  obtain ⟨d13, D13⟩ := c.def_ 57 (d := q_law_right) rfl
  have f_law_right : Fun K "_law_right" "_law_right" s_law_right (He.ga K "_law_right") d13 := fun_of D13
  have b_law_right : Binds K d13 ["_law_tank_here"] [] := f_law_right.binds (fun _ _ _ _ _ _ us hl => match us, hl with | [_], _ => rfl)
  have m_law_right : mg "_law_right" = some (.ref (He.ga K "_law_right")) := He.glo_ok X G (c.fact 66 (f := .glo "_law_right") rfl)
  obtain ⟨d14, D14⟩ := c.def_ 58 (d := qlaw) rfl
  have flaw : Fun K "law" "law" slaw (He.ga K "law") d14 := fun_of D14
  have blaw : Binds K d14 ["_law_script"] [] := flaw.binds (fun _ _ _ _ _ _ us hl => match us, hl with | [_], _ => rfl)
  have mlaw : mg "law" = some (.ref (He.ga K "law")) := He.glo_ok X G (c.fact 67 (f := .glo "law") rfl)
  have bl : ∀ (s : Shared) (v : Value), BindsTo s d14 ⟨[v], []⟩ [("_law_script", v)] := by
    obtain ⟨oc, od, kV, dc, pm, an, cd, ct, sl, e, _, _⟩ := flaw.ex
    intro s v
    rw [e]
    exact .of_eq rfl
  have z_ArithmeticError : mg "ArithmeticError" = none := He.free_ok X G (c.fact 68 (f := .free "ArithmeticError") rfl)
  have z_LookupError : mg "LookupError" = none := He.free_ok X G (c.fact 69 (f := .free "LookupError") rfl)
  have z_RuntimeError : mg "RuntimeError" = none := He.free_ok X G (c.fact 70 (f := .free "RuntimeError") rfl)
  have z_TypeError : mg "TypeError" = none := He.free_ok X G (c.fact 71 (f := .free "TypeError") rfl)
  have z_ValueError : mg "ValueError" = none := He.free_ok X G (c.fact 72 (f := .free "ValueError") rfl)
  have z_abs : mg "abs" = none := He.free_ok X G (c.fact 73 (f := .free "abs") rfl)
  have z_divmod : mg "divmod" = none := He.free_ok X G (c.fact 74 (f := .free "divmod") rfl)
  have z_int : mg "int" = none := He.free_ok X G (c.fact 75 (f := .free "int") rfl)
  have z_isinstance : mg "isinstance" = none := He.free_ok X G (c.fact 76 (f := .free "isinstance") rfl)
  have z_len : mg "len" = none := He.free_ok X G (c.fact 77 (f := .free "len") rfl)
  have z_range : mg "range" = none := He.free_ok X G (c.fact 78 (f := .free "range") rfl)
  have z_repr : mg "repr" = none := He.free_ok X G (c.fact 79 (f := .free "repr") rfl)
  have t : Txt K mg (ad K) (adrs K) (fun i => He.ma K (ad K i) "__init__") (fun i => ([g1, g1, g2, g3, g4, g5, g6, g7, g8, g9, g10, g11, g12, g13, g14, g15, g16, g17, g18, g19, g20, g21, g22, g23, g24, g25, g26, g27, g28, g29, g30, g31, g32, g33, g34, g35, g36, g37, g38, g39, g40, g41, g42, g43, g44, g1, g1, g1, g1, g1, g1, g1, g1] : List FuncData).getD i g1) (fun i => ([He.ga K "_law_tank", He.ga K "_law_draw", He.ga K "_law_pick", He.ga K "_law_number", He.ga K "_law_with_given", He.ga K "_law_with_given_named", He.ga K "_law_with_index", He.ga K "_law_with_index_named", He.ga K "_law_bare", He.ga K "_law_marks", He.ga K "_law_is_under", He.ga K "_law_stand", He.ga K "_law_thing", He.ga K "_law_right", He.ga K "law"] : List Addr).getD i 0) (fun i => ([d0, d1, d2, d3, d4, d5, d6, d7, d8, d9, d10, d11, d12, d13, d14] : List FuncData).getD i d0) := ⟨q0, k0, n0, c1, n1, c2, n2, c3, n3, c4, n4, c5, n5, c6, n6, c7, n7, c8, n8, c9, n9, c10, n10, c11, n11, c12, n12, c13, n13, c14, n14, c15, n15, c16, n16, c17, n17, c18, n18, c19, n19, c20, n20, c21, n21, c22, n22, c23, n23, c24, n24, c25, n25, c26, n26, c27, n27, c28, n28, c29, n29, c30, n30, c31, n31, c32, n32, c33, n33, c34, n34, c35, n35, c36, n36, c37, n37, c38, n38, c39, n39, c40, n40, c41, n41, c42, n42, c43, n43, c44, n44, q45, k45, n45, q46, k46, n46, q47, k47, n47, q48, k48, n48, q49, k49, n49, q50, k50, n50, q51, k51, n51, q52, k52, n52, f_law_tank, b_law_tank, m_law_tank, f_law_draw, b_law_draw, m_law_draw, f_law_pick, b_law_pick, m_law_pick, f_law_number, b_law_number, m_law_number, f_law_with_given, b_law_with_given, m_law_with_given, f_law_with_given_named, b_law_with_given_named, m_law_with_given_named, f_law_with_index, b_law_with_index, m_law_with_index, f_law_with_index_named, b_law_with_index_named, m_law_with_index_named, f_law_bare, b_law_bare, m_law_bare, f_law_marks, b_law_marks, m_law_marks, f_law_is_under, b_law_is_under, m_law_is_under, f_law_stand, b_law_stand, m_law_stand, f_law_thing, b_law_thing, m_law_thing, f_law_right, b_law_right, m_law_right, flaw, blaw, mlaw, z_ArithmeticError, z_LookupError, z_RuntimeError, z_TypeError, z_ValueError, z_abs, z_divmod, z_int, z_isinstance, z_len, z_range, z_repr, (excCs_of k1), (xflC_of k2), (xflC_of k3)⟩
  have e := hfa.symm.trans mlaw
  cases e
  exact ⟨d14, Flaw K (ad K) (adrs K), bl, fun ns _ => law_ok kit ns, fun base _ _ => oklaw (P := P) (w := w) (base := base) t⟩
end L01
open PySem PySem.W PySem.Calls PyProof.Rows
theorem PySem.Challenge.cw_drawarms_k01_errors_each_of_its_own_holds : PySem.Challenge.rw_drawarms_k01_errors_each_of_its_own.Holds := by
  w_on; o_law
  refine HandSHeadRun.head_any (r := OpenLaw.row PySem.Challenge.rw_drawarms_k01_errors_each_of_its_own) (q := view (OpenLaw.row PySem.Challenge.rw_drawarms_k01_errors_each_of_its_own).prog [69]) (H := L01.hk) (ob := L01.ob) (M := 14000) (loose := L01.loose) (d := HandSHeadRun.topDef (OpenLaw.row PySem.Challenge.rw_drawarms_k01_errors_each_of_its_own).prog 69) (kwd := []) L01.ob_eq
    (by kernel_rfl) (fun s => by kernel_rfl) L01.run (by kernel_rfl) (by kernel_rfl) (by kernel_rfl) (by rfl) (by first | assumption | decide +kernel) (by decide +kernel) ⟨rfl, rfl, rfl, rfl, rfl, by decide +kernel⟩ ?hw ?hc
  case hw => w_witness2
  case hc =>
    refine DL.walk_ofGE (l := PySem.Challenge.rw_drawarms_k01_errors_each_of_its_own) (n := 63) (k := 6) (x := "_law_script") rfl (by decide) (by kernel_rfl) ⟨rfl, by decide, by decide⟩ ?F
    intro w mg fa h Y G hmg0
    obtain ⟨K, KX, c, c1, c2, c3, c4⟩ := Y
    have hmg : mg ("law" : PySem.Str) = some (.ref fa) := by
      have e : (HandSHeadRun.topDef (OpenLaw.row PySem.Challenge.rw_drawarms_k01_errors_each_of_its_own).prog 69).name = ("law" : PySem.Str) := by kernel_rfl
      rw [← e]
      exact hmg0
    obtain ⟨fd, F, hb, hv, hF⟩ := L01.facts (P := (PySem.Challenge.rw_drawarms_k01_errors_each_of_its_own).prog) (w := w) KX G hmg c c1 c2 c3 c4
    exact ⟨K, fd, F, KX, hb, hv, hF⟩
#print axioms PySem.Challenge.cw_drawarms_k01_errors_each_of_its_own_holds

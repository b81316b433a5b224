import PyProof.Rows.All
import Wide.All
import OpenK.AllK
import Wide.FinOn
import HandS.Head0
import HandS.Head1
import HandS.Head2
import HandS.HeadEnd
import HandS.HeadHook1
import HandS.HeadHook2
import HandS.HeadHook3
import HandS.HeadHook4
import HandS.HeadNt
import KE.KExcInit
import HandS.ForMost
import HandS.IsInst
import HandS.Zip
import HandS.Defaults
import HandS.Style
import HandS.ForExc
import HandS.ExcInit
import HandS.ExcOwn
import HandS.Walk
import HandS.TupAny
import HandS.ExcIs
import HandS.ExcField
import KE.KExcIs
import HandS.TryMany
import HandS.HotCalls
import KE.KTryMore
import HandS.ExcInitHot
import PySem.Challenge.RW_ringlessday_k00_errors_by_themselves
set_option Elab.async false
set_option linter.all false
set_option maxRecDepth 100000
set_option maxHeartbeats 4000000
namespace Rg
open PySem L2
/-! ### an own class of errors, by one look -/
inductive XB where
  | value | lookup | index
def XB.mro : XB → List Value
  | .value => [.type "ValueError", .type "Exception", .type "BaseException", .type "object"]
  | .lookup => [.type "LookupError", .type "Exception", .type "BaseException", .type "object"]
  | .index => [.type "IndexError", .type "LookupError", .type "Exception", .type "BaseException", .type "object"]
def XB.new : XB → String
  | .value => "ValueError.__new__"
  | .lookup => "LookupError.__new__"
  | .index => "IndexError.__new__"
def xgB (K : PySem.W.Frag) (C : Addr) (b : XB) : Bool := PySem.W.excInitIn K C b.mro b.new && (PySem.W.excOver K C b.mro && (PySem.W.hasDictIn K C && (He.eqO (PySem.W.findIn K (.ref C) "__setattr__") (some (some (.builtin "object.__setattr__"))) && (decide (PySem.W.subIn K (.ref C) (.type "BaseException") = some true) &&
  (decide (PySem.W.typeIn K (.ref C) = some (.type "type")) && (PySem.W.keepIn K (.ref C) && (He.eqO (PySem.W.findIn K (.ref C) "__getattribute__") (some (some (.builtin "BaseException.__getattribute__"))) && (He.eqO (PySem.W.findIn K (.ref C) "__getattr__") (some none) &&
  (He.eqO (PySem.W.findIn K (.ref C) "__class__") (some (some (.builtin "object.__class__"))) && (He.eqO (PySem.W.specialIn K (.builtin "object.__class__") "__get__") (some (some (.builtin "getset_descriptor.__get__"))) && (decide (PySem.W.takesIn K (.builtin "object.__class__") = some true) && decide (PySem.W.mroIn K C (.type "object") = some true))))))))))))
/-- the errors of a program: their base, their fields -/
def erB (K : PySem.W.Frag) : List (Str × XB × List Str) → Bool
  | [] => true
  | (e, b, fs) :: r => xgB K (He.ga K e) b && (He.eqO (PySem.W.findIn K (.ref (He.ga K e)) "__init__") (some (some (.ref (He.ma K (He.ga K e) "__init__")))) && (decide (PySem.W.typeIn K (.ref (He.ma K (He.ga K e) "__init__")) = some (.type "function")) && ((fs.all fun f => He.eqO (PySem.W.findIn K (.ref (He.ga K e)) f) (some none)) && erB K r)))
end Rg
namespace K0
open PySem L2 Rg PyProof.Rows
def topS (i : Nat) : Stmt := PySem.Challenge.pw_ringlessday_k00_errors_by_themselves.main.body.getD i (.Pass ⟨0, 0, 0, 0⟩)
def inClass (s : Stmt) (i : Nat) : Stmt := match s with
  | .ClassDef _ _ _ b _ _ _ _ _ _ _ => b.getD i (.Pass ⟨0, 0, 0, 0⟩)
  | _ => .Pass ⟨0, 0, 0, 0⟩
abbrev s_Lbag : Stmt := topS 42
abbrev s_Ldraw : Stmt := topS 43
abbrev s_Lof : Stmt := topS 44
abbrev s_Lsame : Stmt := topS 45
abbrev s_Lfields : Stmt := topS 46
abbrev s_Lbyname : Stmt := topS 47
abbrev s_Lbyplace : Stmt := topS 48
abbrev s_Lcodes : Stmt := topS 49
abbrev s_Lclasses : Stmt := topS 50
abbrev s_Lcaught : Stmt := topS 51
abbrev s_law : Stmt := topS 52
abbrev s_InvalidNameinit : Stmt := inClass (topS 2) 0
abbrev s_InvalidNumberinit : Stmt := inClass (topS 3) 0
abbrev s_InvalidSectioninit : Stmt := inClass (topS 4) 0
abbrev s_InvalidTimesinit : Stmt := inClass (topS 5) 0
abbrev s_InvalidStepinit : Stmt := inClass (topS 6) 0
abbrev s_InvalidStandinginit : Stmt := inClass (topS 7) 0
abbrev s_InvalidRowinit : Stmt := inClass (topS 8) 0
abbrev s_InvalidTableinit : Stmt := inClass (topS 9) 0
abbrev s_InvalidDelaysinit : Stmt := inClass (topS 10) 0
abbrev s_InvalidPeriodinit : Stmt := inClass (topS 11) 0
abbrev s_InvalidHeightsinit : Stmt := inClass (topS 12) 0
abbrev s_InvalidDeedinit : Stmt := inClass (topS 13) 0
abbrev s_InvalidTurninit : Stmt := inClass (topS 14) 0
abbrev s_InvalidWaitinit : Stmt := inClass (topS 15) 0
abbrev s_InvalidWishinit : Stmt := inClass (topS 16) 0
abbrev s_InvalidJourneyinit : Stmt := inClass (topS 17) 0
abbrev s_InvalidTextinit : Stmt := inClass (topS 18) 0
abbrev s_DuplicateNameinit : Stmt := inClass (topS 19) 0
abbrev s_InUseinit : Stmt := inClass (topS 20) 0
abbrev s_TakenEndinit : Stmt := inClass (topS 21) 0
abbrev s_LooseEndinit : Stmt := inClass (topS 22) 0
abbrev s_TooManyinit : Stmt := inClass (topS 23) 0
abbrev s_MisplacedStepinit : Stmt := inClass (topS 24) 0
abbrev s_OwnRinginit : Stmt := inClass (topS 25) 0
abbrev s_Refusedinit : Stmt := inClass (topS 26) 0
abbrev s_Lackinginit : Stmt := inClass (topS 27) 0
abbrev s_Unreadyinit : Stmt := inClass (topS 28) 0
abbrev s_Finishedinit : Stmt := inClass (topS 29) 0
abbrev s_Barredinit : Stmt := inClass (topS 30) 0
abbrev s_NoDayinit : Stmt := inClass (topS 31) 0
abbrev s_Doomedinit : Stmt := inClass (topS 32) 0
abbrev s_NeverClearedinit : Stmt := inClass (topS 33) 0
abbrev s_NoPeriodinit : Stmt := inClass (topS 34) 0
abbrev s_TooShortinit : Stmt := inClass (topS 35) 0
abbrev s_UnknownNameinit : Stmt := inClass (topS 37) 0
abbrev s_UnknownEndinit : Stmt := inClass (topS 38) 0
abbrev s_UnknownEntryinit : Stmt := inClass (topS 39) 0
abbrev s_NothingLeftinit : Stmt := inClass (topS 40) 0
def d_Lbag : He.DefD := ⟨("_law_bag", none), "_law_bag", "_law_bag", defArgs s_Lbag, defBody s_Lbag, defScope s_Lbag, [], []⟩
def d_Ldraw : He.DefD := ⟨("_law_draw", none), "_law_draw", "_law_draw", defArgs s_Ldraw, defBody s_Ldraw, defScope s_Ldraw, [], []⟩
def d_Lof : He.DefD := ⟨("_law_of", none), "_law_of", "_law_of", defArgs s_Lof, defBody s_Lof, defScope s_Lof, [], []⟩
def d_Lsame : He.DefD := ⟨("_law_same", none), "_law_same", "_law_same", defArgs s_Lsame, defBody s_Lsame, defScope s_Lsame, [], []⟩
def d_Lfields : He.DefD := ⟨("_law_fields", none), "_law_fields", "_law_fields", defArgs s_Lfields, defBody s_Lfields, defScope s_Lfields, [], []⟩
def d_Lbyname : He.DefD := ⟨("_law_by_name", none), "_law_by_name", "_law_by_name", defArgs s_Lbyname, defBody s_Lbyname, defScope s_Lbyname, [], []⟩
def d_Lbyplace : He.DefD := ⟨("_law_by_place", none), "_law_by_place", "_law_by_place", defArgs s_Lbyplace, defBody s_Lbyplace, defScope s_Lbyplace, [], []⟩
def d_Lcodes : He.DefD := ⟨("_law_codes", none), "_law_codes", "_law_codes", defArgs s_Lcodes, defBody s_Lcodes, defScope s_Lcodes, [], []⟩
def d_Lclasses : He.DefD := ⟨("_law_classes", none), "_law_classes", "_law_classes", defArgs s_Lclasses, defBody s_Lclasses, defScope s_Lclasses, [], []⟩
def d_Lcaught : He.DefD := ⟨("_law_caught", none), "_law_caught", "_law_caught", defArgs s_Lcaught, defBody s_Lcaught, defScope s_Lcaught, [], []⟩
def d_law : He.DefD := ⟨("law", none), "law", "law", defArgs s_law, defBody s_law, defScope s_law, [], []⟩
def d_InvalidNameinit : He.DefD := ⟨("InvalidName", some "__init__"), "__init__", "InvalidName.__init__", defArgs s_InvalidNameinit, defBody s_InvalidNameinit, defScope s_InvalidNameinit, [], []⟩
def d_InvalidNumberinit : He.DefD := ⟨("InvalidNumber", some "__init__"), "__init__", "InvalidNumber.__init__", defArgs s_InvalidNumberinit, defBody s_InvalidNumberinit, defScope s_InvalidNumberinit, [], []⟩
def d_InvalidSectioninit : He.DefD := ⟨("InvalidSection", some "__init__"), "__init__", "InvalidSection.__init__", defArgs s_InvalidSectioninit, defBody s_InvalidSectioninit, defScope s_InvalidSectioninit, [], []⟩
def d_InvalidTimesinit : He.DefD := ⟨("InvalidTimes", some "__init__"), "__init__", "InvalidTimes.__init__", defArgs s_InvalidTimesinit, defBody s_InvalidTimesinit, defScope s_InvalidTimesinit, [], []⟩
def d_InvalidStepinit : He.DefD := ⟨("InvalidStep", some "__init__"), "__init__", "InvalidStep.__init__", defArgs s_InvalidStepinit, defBody s_InvalidStepinit, defScope s_InvalidStepinit, [], []⟩
def d_InvalidStandinginit : He.DefD := ⟨("InvalidStanding", some "__init__"), "__init__", "InvalidStanding.__init__", defArgs s_InvalidStandinginit, defBody s_InvalidStandinginit, defScope s_InvalidStandinginit, [], []⟩
def d_InvalidRowinit : He.DefD := ⟨("InvalidRow", some "__init__"), "__init__", "InvalidRow.__init__", defArgs s_InvalidRowinit, defBody s_InvalidRowinit, defScope s_InvalidRowinit, [], []⟩
def d_InvalidTableinit : He.DefD := ⟨("InvalidTable", some "__init__"), "__init__", "InvalidTable.__init__", defArgs s_InvalidTableinit, defBody s_InvalidTableinit, defScope s_InvalidTableinit, [], []⟩
def d_InvalidDelaysinit : He.DefD := ⟨("InvalidDelays", some "__init__"), "__init__", "InvalidDelays.__init__", defArgs s_InvalidDelaysinit, defBody s_InvalidDelaysinit, defScope s_InvalidDelaysinit, [], []⟩
def d_InvalidPeriodinit : He.DefD := ⟨("InvalidPeriod", some "__init__"), "__init__", "InvalidPeriod.__init__", defArgs s_InvalidPeriodinit, defBody s_InvalidPeriodinit, defScope s_InvalidPeriodinit, [], []⟩
def d_InvalidHeightsinit : He.DefD := ⟨("InvalidHeights", some "__init__"), "__init__", "InvalidHeights.__init__", defArgs s_InvalidHeightsinit, defBody s_InvalidHeightsinit, defScope s_InvalidHeightsinit, [], []⟩
def d_InvalidDeedinit : He.DefD := ⟨("InvalidDeed", some "__init__"), "__init__", "InvalidDeed.__init__", defArgs s_InvalidDeedinit, defBody s_InvalidDeedinit, defScope s_InvalidDeedinit, [], []⟩
def d_InvalidTurninit : He.DefD := ⟨("InvalidTurn", some "__init__"), "__init__", "InvalidTurn.__init__", defArgs s_InvalidTurninit, defBody s_InvalidTurninit, defScope s_InvalidTurninit, [], []⟩
def d_InvalidWaitinit : He.DefD := ⟨("InvalidWait", some "__init__"), "__init__", "InvalidWait.__init__", defArgs s_InvalidWaitinit, defBody s_InvalidWaitinit, defScope s_InvalidWaitinit, [], []⟩
def d_InvalidWishinit : He.DefD := ⟨("InvalidWish", some "__init__"), "__init__", "InvalidWish.__init__", defArgs s_InvalidWishinit, defBody s_InvalidWishinit, defScope s_InvalidWishinit, [], []⟩
def d_InvalidJourneyinit : He.DefD := ⟨("InvalidJourney", some "__init__"), "__init__", "InvalidJourney.__init__", defArgs s_InvalidJourneyinit, defBody s_InvalidJourneyinit, defScope s_InvalidJourneyinit, [], []⟩
def d_InvalidTextinit : He.DefD := ⟨("InvalidText", some "__init__"), "__init__", "InvalidText.__init__", defArgs s_InvalidTextinit, defBody s_InvalidTextinit, defScope s_InvalidTextinit, [], []⟩
def d_DuplicateNameinit : He.DefD := ⟨("DuplicateName", some "__init__"), "__init__", "DuplicateName.__init__", defArgs s_DuplicateNameinit, defBody s_DuplicateNameinit, defScope s_DuplicateNameinit, [], []⟩
def d_InUseinit : He.DefD := ⟨("InUse", some "__init__"), "__init__", "InUse.__init__", defArgs s_InUseinit, defBody s_InUseinit, defScope s_InUseinit, [], []⟩
def d_TakenEndinit : He.DefD := ⟨("TakenEnd", some "__init__"), "__init__", "TakenEnd.__init__", defArgs s_TakenEndinit, defBody s_TakenEndinit, defScope s_TakenEndinit, [], []⟩
def d_LooseEndinit : He.DefD := ⟨("LooseEnd", some "__init__"), "__init__", "LooseEnd.__init__", defArgs s_LooseEndinit, defBody s_LooseEndinit, defScope s_LooseEndinit, [], []⟩
def d_TooManyinit : He.DefD := ⟨("TooMany", some "__init__"), "__init__", "TooMany.__init__", defArgs s_TooManyinit, defBody s_TooManyinit, defScope s_TooManyinit, [], []⟩
def d_MisplacedStepinit : He.DefD := ⟨("MisplacedStep", some "__init__"), "__init__", "MisplacedStep.__init__", defArgs s_MisplacedStepinit, defBody s_MisplacedStepinit, defScope s_MisplacedStepinit, [], []⟩
def d_OwnRinginit : He.DefD := ⟨("OwnRing", some "__init__"), "__init__", "OwnRing.__init__", defArgs s_OwnRinginit, defBody s_OwnRinginit, defScope s_OwnRinginit, [], []⟩
def d_Refusedinit : He.DefD := ⟨("Refused", some "__init__"), "__init__", "Refused.__init__", defArgs s_Refusedinit, defBody s_Refusedinit, defScope s_Refusedinit, [], []⟩
def d_Lackinginit : He.DefD := ⟨("Lacking", some "__init__"), "__init__", "Lacking.__init__", defArgs s_Lackinginit, defBody s_Lackinginit, defScope s_Lackinginit, [], []⟩
def d_Unreadyinit : He.DefD := ⟨("Unready", some "__init__"), "__init__", "Unready.__init__", defArgs s_Unreadyinit, defBody s_Unreadyinit, defScope s_Unreadyinit, [], []⟩
def d_Finishedinit : He.DefD := ⟨("Finished", some "__init__"), "__init__", "Finished.__init__", defArgs s_Finishedinit, defBody s_Finishedinit, defScope s_Finishedinit, [], []⟩
def d_Barredinit : He.DefD := ⟨("Barred", some "__init__"), "__init__", "Barred.__init__", defArgs s_Barredinit, defBody s_Barredinit, defScope s_Barredinit, [], []⟩
def d_NoDayinit : He.DefD := ⟨("NoDay", some "__init__"), "__init__", "NoDay.__init__", defArgs s_NoDayinit, defBody s_NoDayinit, defScope s_NoDayinit, [], []⟩
def d_Doomedinit : He.DefD := ⟨("Doomed", some "__init__"), "__init__", "Doomed.__init__", defArgs s_Doomedinit, defBody s_Doomedinit, defScope s_Doomedinit, [], []⟩
def d_NeverClearedinit : He.DefD := ⟨("NeverCleared", some "__init__"), "__init__", "NeverCleared.__init__", defArgs s_NeverClearedinit, defBody s_NeverClearedinit, defScope s_NeverClearedinit, [], []⟩
def d_NoPeriodinit : He.DefD := ⟨("NoPeriod", some "__init__"), "__init__", "NoPeriod.__init__", defArgs s_NoPeriodinit, defBody s_NoPeriodinit, defScope s_NoPeriodinit, [], []⟩
def d_TooShortinit : He.DefD := ⟨("TooShort", some "__init__"), "__init__", "TooShort.__init__", defArgs s_TooShortinit, defBody s_TooShortinit, defScope s_TooShortinit, [], []⟩
def d_UnknownNameinit : He.DefD := ⟨("UnknownName", some "__init__"), "__init__", "UnknownName.__init__", defArgs s_UnknownNameinit, defBody s_UnknownNameinit, defScope s_UnknownNameinit, [], []⟩
def d_UnknownEndinit : He.DefD := ⟨("UnknownEnd", some "__init__"), "__init__", "UnknownEnd.__init__", defArgs s_UnknownEndinit, defBody s_UnknownEndinit, defScope s_UnknownEndinit, [], []⟩
def d_UnknownEntryinit : He.DefD := ⟨("UnknownEntry", some "__init__"), "__init__", "UnknownEntry.__init__", defArgs s_UnknownEntryinit, defBody s_UnknownEntryinit, defScope s_UnknownEntryinit, [], []⟩
def d_NothingLeftinit : He.DefD := ⟨("NothingLeft", some "__init__"), "__init__", "NothingLeft.__init__", defArgs s_NothingLeftinit, defBody s_NothingLeftinit, defScope s_NothingLeftinit, [], []⟩
def fn : List He.DefD := ([d_Lbag, d_Ldraw, d_Lof, d_Lsame, d_Lfields, d_Lbyname, d_Lbyplace, d_Lcodes, d_Lclasses, d_Lcaught, d_law, d_InvalidNameinit, d_InvalidNumberinit, d_InvalidSectioninit, d_InvalidTimesinit, d_InvalidStepinit, d_InvalidStandinginit, d_InvalidRowinit, d_InvalidTableinit, d_InvalidDelaysinit, d_InvalidPeriodinit, d_InvalidHeightsinit, d_InvalidDeedinit, d_InvalidTurninit, d_InvalidWaitinit, d_InvalidWishinit, d_InvalidJourneyinit, d_InvalidTextinit, d_DuplicateNameinit, d_InUseinit] : List He.DefD) ++ ([d_TakenEndinit, d_LooseEndinit, d_TooManyinit, d_MisplacedStepinit, d_OwnRinginit, d_Refusedinit, d_Lackinginit, d_Unreadyinit, d_Finishedinit, d_Barredinit, d_NoDayinit, d_Doomedinit, d_NeverClearedinit, d_NoPeriodinit, d_TooShortinit, d_UnknownNameinit, d_UnknownEndinit, d_UnknownEntryinit, d_NothingLeftinit] : List He.DefD)
def fa : List He.Fa := ([.glo "_law_bag", .glo "_law_draw", .glo "_law_of", .glo "_law_same", .glo "_law_fields", .glo "_law_by_name", .glo "_law_by_place", .glo "_law_codes", .glo "_law_classes", .glo "_law_caught", .glo "law", .glo "DayError", .glo "Missing", .glo "InvalidName", .glo "InvalidNumber", .glo "InvalidSection", .glo "InvalidTimes", .glo "InvalidStep", .glo "InvalidStanding", .glo "InvalidRow", .glo "InvalidTable", .glo "InvalidDelays", .glo "InvalidPeriod", .glo "InvalidHeights", .glo "InvalidDeed", .glo "InvalidTurn", .glo "InvalidWait", .glo "InvalidWish", .glo "InvalidJourney", .glo "InvalidText"] : List He.Fa) ++ ([.glo "DuplicateName", .glo "InUse", .glo "TakenEnd", .glo "LooseEnd", .glo "TooMany", .glo "MisplacedStep", .glo "OwnRing", .glo "Refused", .glo "Lacking", .glo "Unready", .glo "Finished", .glo "Barred", .glo "NoDay", .glo "Doomed", .glo "NeverCleared", .glo "NoPeriod", .glo "TooShort", .glo "UnknownName", .glo "UnknownEnd", .glo "UnknownEntry", .glo "NothingLeft", .free "isinstance", .free "len", .free "all", .free "abs", .free "int", .free "str", .free "list", .free "tuple", .free "bool"] : List He.Fa) ++ ([.free "range", .free "zip", .free "ValueError", .free "LookupError", .free "IndexError"] : List He.Fa)
def erl : List (Str × XB × List Str) := ([("InvalidName", XB.value, ["code", "value"]), ("InvalidNumber", XB.value, ["code", "value"]), ("InvalidSection", XB.value, ["code", "value"]), ("InvalidTimes", XB.value, ["code", "value"]), ("InvalidStep", XB.value, ["code", "value"]), ("InvalidStanding", XB.value, ["code", "value"]), ("InvalidRow", XB.value, ["code", "value"]), ("InvalidTable", XB.value, ["code", "value"]), ("InvalidDelays", XB.value, ["code", "value"]), ("InvalidPeriod", XB.value, ["code", "value"]), ("InvalidHeights", XB.value, ["code", "value"]), ("InvalidDeed", XB.value, ["code", "value"]), ("InvalidTurn", XB.value, ["code", "at"]), ("InvalidWait", XB.value, ["code", "at"]), ("InvalidWish", XB.value, ["code", "at"]), ("InvalidJourney", XB.value, ["code", "at"]), ("InvalidText", XB.value, ["code", "line"]), ("DuplicateName", XB.value, ["code", "name"]), ("InUse", XB.value, ["code", "name"]), ("TakenEnd", XB.value, ["code", "end"]), ("LooseEnd", XB.value, ["code", "end"]), ("TooMany", XB.value, ["code", "subject", "most"]), ("MisplacedStep", XB.value, ["code", "train", "step"]), ("OwnRing", XB.value, ["code", "train", "step", "element"]), ("Refused", XB.value, ["code", "train", "element", "holder"]), ("Lacking", XB.value, ["code", "train", "other"]), ("Unready", XB.value, ["code", "train"]), ("Finished", XB.value, ["code", "train"]), ("Barred", XB.value, ["code", "train", "step"]), ("NoDay", XB.value, ["code"])] : List (Str × XB × List Str)) ++ ([("Doomed", XB.value, ["code"]), ("NeverCleared", XB.value, ["code", "train", "step", "element"]), ("NoPeriod", XB.value, ["code"]), ("TooShort", XB.value, ["code", "period"]), ("UnknownName", XB.lookup, ["code", "name"]), ("UnknownEnd", XB.lookup, ["code", "end"]), ("UnknownEntry", XB.lookup, ["code", "entry"]), ("NothingLeft", XB.index, ["code"])] : List (Str × XB × List Str))
def cls (K : PySem.W.Frag) : List Addr := [He.ga K "InvalidName", He.ga K "InvalidNumber", He.ga K "InvalidSection", He.ga K "InvalidTimes", He.ga K "InvalidStep", He.ga K "InvalidStanding", He.ga K "InvalidRow", He.ga K "InvalidTable", He.ga K "InvalidDelays", He.ga K "InvalidPeriod", He.ga K "InvalidHeights", He.ga K "InvalidDeed", He.ga K "InvalidTurn", He.ga K "InvalidWait", He.ga K "InvalidWish", He.ga K "InvalidJourney", He.ga K "InvalidText", He.ga K "DuplicateName", He.ga K "InUse", He.ga K "TakenEnd", He.ga K "LooseEnd", He.ga K "TooMany", He.ga K "MisplacedStep", He.ga K "OwnRing", He.ga K "Refused", He.ga K "Lacking", He.ga K "Unready", He.ga K "Finished", He.ga K "Barred", He.ga K "NoDay", He.ga K "Doomed", He.ga K "NeverCleared", He.ga K "NoPeriod", He.ga K "TooShort", He.ga K "UnknownName", He.ga K "UnknownEnd", He.ga K "UnknownEntry", He.ga K "NothingLeft"]
def upB (n : Nat) (p : Nat → Bool) : Bool := (List.range n).all p
theorem upB_ok {n : Nat} {p : Nat → Bool} (h : upB n p = true) : ∀ i < n, p i = true := fun i hi => List.all_eq_true.mp h i (List.mem_range.mpr hi)
def kB (K : PySem.W.Frag) (c d : Value) (b : Bool) : Bool := decide (PySem.W.kitOne K c d = some b)
def xB (K : PySem.W.Frag) (c d : Str) (b : Bool) : Bool := decide (PySem.W.exmOne K (.ref (He.ga K c)) (.ref (He.ga K d)) = some b)
def ex (K : PySem.W.Frag) : Bool := erB K erl && (upB 38 (fun i => upB 38 fun j => kB K (.ref ((cls K).getD i 0)) (.ref ((cls K).getD j 0)) (decide (j = i))) &&
  (upB 38 (fun i => kB K (.ref ((cls K).getD i 0)) (.ref (He.ga K "DayError")) (decide (i < 34)) && (kB K (.ref ((cls K).getD i 0)) (.ref (He.ga K "Missing")) (decide (34 ≤ i) && decide (i < 37)) && (kB K (.ref ((cls K).getD i 0)) (.type "ValueError") (decide (i < 34)) && (kB K (.ref ((cls K).getD i 0)) (.type "LookupError") (decide (34 ≤ i)) && kB K (.ref ((cls K).getD i 0)) (.type "IndexError") (decide (i = 37)))))) &&
  (xB K "InvalidText" "DayError" true && (xB K "UnknownEntry" "DayError" false && (xB K "UnknownEntry" "Missing" true && (xB K "NothingLeft" "DayError" false && (xB K "NothingLeft" "Missing" false && xB K "NothingLeft" "NothingLeft" true)))))))
def loose : List Str := (["DayError", "InvalidName", "InvalidNumber", "InvalidSection", "InvalidTimes", "InvalidStep", "InvalidStanding", "InvalidRow", "InvalidTable", "InvalidDelays", "InvalidPeriod", "InvalidHeights", "InvalidDeed", "InvalidTurn", "InvalidWait", "InvalidWish", "InvalidJourney", "InvalidText", "DuplicateName", "InUse", "TakenEnd", "LooseEnd", "TooMany", "MisplacedStep", "OwnRing", "Refused", "Lacking", "Unready", "Finished", "Barred"] : List Str) ++ (["NoDay", "Doomed", "NeverCleared", "NoPeriod", "TooShort", "Missing", "UnknownName", "UnknownEnd", "UnknownEntry", "NothingLeft", "_law_bag", "_law_draw", "_law_of", "_law_same", "_law_fields", "_law_by_name", "_law_by_place", "_law_codes", "_law_classes", "_law_caught"] : List Str)
abbrev R : PySem.W.OpenRow := PySem.W.OpenLaw.row PySem.Challenge.rw_ringlessday_k00_errors_by_themselves
abbrev hk : PySem.W.Hook := He.hookX 5 fa fn [] [] ex
def ob (s : PySem.W.SharedT) : He.AlX := He.obsX 5 fa fn [] [] ex (HandSHeadRun.getT s)
theorem ob_eq (s : PySem.W.SharedT) : ob s = hk.obs s.abs := He.obsX_eq (HandSHeadRun.getT_eq s)
theorem run (w : World) : HandSHeadRun.RunEq R (PySem.W.view R.prog [52]) hk ob 20000 loose w := by
  intro os
  kernel_rfl
end K0
namespace Rg
open PySem L2
/-! ### data -/
/-- what a value is worth, without the heap; exc: an error of an own class with its fields; cau: such a one, caught; seq: a list that is only read (the script); raw: a value by itself (an object that changes, a class, a def) -/
inductive D where
  | non
  | bl (b : Bool)
  | int (i : Int)
  | str (x : Str)
  | list (ds : List D)
  | tup (ds : List D)
  | obj (C : Addr) (ns : List Str) (ds : List D)
  | exc (C : Addr) (ns : List Str) (ds : List D)
  | cau (a dd C : Addr) (ns : List Str) (ds : List D)
  | seq (ds : List D)
  | raw (v : V)
mutual
inductive Rp (K : PySem.W.Frag) (G : Hp) : V → D → Prop
  | non : Rp K G .non .non
  | bl (b : Bool) : Rp K G (.bl b) (.bl b)
  | int (i : Int) : Rp K G (.int i) (.int i)
  | str (x : Str) : Rp K G (.str x) (.str x)
  | lst {a : Addr} {xs : List V} {ds : List D} : G a = some (.lst xs) → RpAll K G xs ds → Rp K G (.ref a) (.list ds)
  | tup {a : Addr} {xs : List V} {ds : List D} : SqT K G a xs → RpAll K G xs ds → Rp K G (.ref a) (.tup ds)
  | obj {a C dx : Addr} {fs : List (Str × V)} {ds : List D} : G a = some (.ins C dx fs) → RpAll K G (fs.map (·.2)) ds → Rp K G (.ref a) (.obj C (fs.map (·.1)) ds)
  | exc {a C dx : Addr} {fs : List (Str × V)} {ds : List D} : G a = some (exo a C (some dx)) → G dx = some (exd dx fs) → RpAll K G (fs.map (·.2)) ds → Rp K G (.ref a) (.exc C (fs.map (·.1)) ds)
  | cau {a C dd : Addr} {fs : List (Str × V)} {ds : List D} : G dd = some (.xd fs) → RpAll K G (fs.map (·.2)) ds → Rp K G (.ref a) (.cau a dd C (fs.map (·.1)) ds)
  | seq {a : Addr} {xs : List V} {ds : List D} : SqL K G a xs → RpAll K G xs ds → Rp K G (.ref a) (.seq ds)
  | raw (v : V) : Rp K G v (.raw v)
inductive RpAll (K : PySem.W.Frag) (G : Hp) : List V → List D → Prop
  | nil : RpAll K G [] []
  | cons {v : V} {vs : List V} {d : D} {ds : List D} : Rp K G v d → RpAll K G vs ds → RpAll K G (v :: vs) (d :: ds)
end
theorem sq {K : PySem.W.Frag} {H : Hp} {a : Addr} {xs : List V} (h : H a = some (.lst xs)) : SqL K H a xs := .inl (.inl h)
theorem same_t {K : PySem.W.Frag} {H H' : Hp} {a : Addr} {xs : List V} (e : Same H H') (h : SqT K H a xs) : SqT K H' a xs := by
  rcases h with (h | ⟨o, h⟩) | h
  · exact .inl (.inl (e _ _ h))
  · exact .inl (.inr ⟨o, e _ _ h⟩)
  · exact .inr h
mutual
theorem Rp.mono {K : PySem.W.Frag} {G G' : Hp} (s : Same G G') : ∀ {v : V} {d : D}, Rp K G v d → Rp K G' v d
  | _, _, .non => .non
  | _, _, .bl b => .bl b
  | _, _, .int i => .int i
  | _, _, .str x => .str x
  | _, _, .lst h r => .lst (s _ _ h) (RpAll.mono s r)
  | _, _, .tup h r => .tup (same_t s h) (RpAll.mono s r)
  | _, _, .obj h r => .obj (s _ _ h) (RpAll.mono s r)
  | _, _, .exc h h2 r => .exc (s _ _ h) (s _ _ h2) (RpAll.mono s r)
  | _, _, .cau h r => .cau (s _ _ h) (RpAll.mono s r)
  | _, _, .seq h r => .seq (s.seq h) (RpAll.mono s r)
  | _, _, .raw v => .raw v
theorem RpAll.mono {K : PySem.W.Frag} {G G' : Hp} (s : Same G G') : ∀ {vs : List V} {ds : List D}, RpAll K G vs ds → RpAll K G' vs ds
  | _, _, .nil => .nil
  | _, _, .cons h r => .cons (Rp.mono s h) (RpAll.mono s r)
end
section
variable {K : PySem.W.Frag} {G : Hp}
theorem RpAll.length : ∀ {vs : List V} {ds : List D}, RpAll K G vs ds → vs.length = ds.length
  | _, _, .nil => rfl
  | _, _, .cons _ r => by rw [List.length_cons, List.length_cons, RpAll.length r]
theorem RpAll.get : ∀ {vs : List V} {ds : List D} {i : Nat} {d : D}, RpAll K G vs ds → ds[i]? = some d → ∃ v, vs[i]? = some v ∧ Rp K G v d
  | _, _, _, _, .nil, e => by simp at e
  | _, _, 0, _, .cons (v := v) h _, e => by
    have e2 := Option.some.inj (show some _ = some _ from e)
    exact ⟨v, rfl, e2 ▸ h⟩
  | _, _, i + 1, _, .cons _ r, e => RpAll.get (i := i) r e
theorem RpAll.getV : ∀ {vs : List V} {ds : List D} {i : Nat} {v : V}, RpAll K G vs ds → vs[i]? = some v → ∃ d, ds[i]? = some d ∧ Rp K G v d
  | _, _, _, _, .nil, e => by simp at e
  | _, _, 0, _, .cons (d := d) h _, e => by
    have e2 := Option.some.inj (show some _ = some _ from e)
    exact ⟨d, rfl, e2 ▸ h⟩
  | _, _, i + 1, _, .cons _ r, e => RpAll.getV (i := i) r e
theorem RpAll.append : ∀ {vs ws : List V} {ds es : List D}, RpAll K G vs ds → RpAll K G ws es → RpAll K G (vs ++ ws) (ds ++ es)
  | _, _, _, _, .nil, s => s
  | _, _, _, _, .cons h r, s => .cons h (RpAll.append r s)
theorem RpAll.take : ∀ (n : Nat) {vs : List V} {ds : List D}, RpAll K G vs ds → RpAll K G (vs.take n) (ds.take n)
  | 0, _, _, _ => .nil
  | _ + 1, _, _, .nil => .nil
  | n + 1, _, _, .cons h r => .cons h (RpAll.take n r)
theorem RpAll.drop : ∀ (n : Nat) {vs : List V} {ds : List D}, RpAll K G vs ds → RpAll K G (vs.drop n) (ds.drop n)
  | 0, _, _, r => r
  | _ + 1, _, _, .nil => .nil
  | n + 1, _, _, .cons _ r => RpAll.drop n r
theorem RpAll.ints : ∀ (ns : List Int), RpAll K G (ns.map V.int) (ns.map D.int)
  | [] => .nil
  | n :: r => .cons (.int n) (RpAll.ints r)
theorem Rp.int_inv {v : V} {i : Int} (h : Rp K G v (.int i)) : v = .int i := by cases h; rfl
theorem Rp.bl_inv {v : V} {b : Bool} (h : Rp K G v (.bl b)) : v = .bl b := by cases h; rfl
theorem Rp.str_inv {v : V} {x : Str} (h : Rp K G v (.str x)) : v = .str x := by cases h; rfl
theorem Rp.non_inv {v : V} (h : Rp K G v .non) : v = .non := by cases h; rfl
theorem Rp.raw_inv {v u : V} (h : Rp K G v (.raw u)) : v = u := by cases h; rfl
theorem Rp.list_inv {v : V} {ds : List D} (h : Rp K G v (.list ds)) : ∃ a xs, v = .ref a ∧ SqL K G a xs ∧ RpAll K G xs ds := by
  cases h with
  | lst h r => exact ⟨_, _, rfl, sq h, r⟩
theorem Rp.list_ex {v : V} {ds : List D} (h : Rp K G v (.list ds)) : ∃ a xs, v = .ref a ∧ G a = some (.lst xs) ∧ RpAll K G xs ds := by
  cases h with
  | lst h r => exact ⟨_, _, rfl, h, r⟩
theorem Rp.tup_inv {v : V} {ds : List D} (h : Rp K G v (.tup ds)) : ∃ a xs, v = .ref a ∧ SqT K G a xs ∧ RpAll K G xs ds := by
  cases h with
  | tup h r => exact ⟨_, _, rfl, h, r⟩
theorem RpAll.int_inv : ∀ {ns : List Int} {vs : List V}, RpAll K G vs (ns.map D.int) → vs = ns.map V.int
  | [], _, .nil => rfl
  | n :: r, _, .cons h t => by rw [h.int_inv, RpAll.int_inv t]; rfl
theorem RpAll.bl_inv : ∀ {ns : List Bool} {vs : List V}, RpAll K G vs (ns.map D.bl) → vs = ns.map V.bl
  | [], _, .nil => rfl
  | n :: r, _, .cons h t => by rw [h.bl_inv, RpAll.bl_inv t]; rfl
theorem RpAll.str_inv : ∀ {ns : List Str} {vs : List V}, RpAll K G vs (ns.map D.str) → vs = ns.map V.str
  | [], _, .nil => rfl
  | n :: r, _, .cons h t => by rw [h.str_inv, RpAll.str_inv t]; rfl
end
/-! ### the two heaps: G what stands for ever, H what is; M what changes, by what is true of it -/
abbrev Ml := List (Addr × (Hp → HO → Prop))
structure Wd0 (M : Ml) (G H : Hp) : Prop where
  sub : Same G H
  mt : ∀ p ∈ M, G p.1 = none ∧ ∃ o, H p.1 = some o ∧ p.2 G o
  mono : ∀ p ∈ M, ∀ G1 G2 o, Same G1 G2 → p.2 G1 o → p.2 G2 o
  nd : (M.map (·.1)).Nodup
theorem same_new {H : Hp} {p : Addr} {o : HO} (h : H p = none) : Same H (upd H p o) := fun b x e => by
  rw [upd_ne (ne_of_none e h)]
  exact e
section
variable {M : Ml} {G H : Hp} {p : Addr} {o : HO}
theorem Wd0.free (w : Wd0 M G H) (h : H p = none) : G p = none := w.sub.free h
/-- a new thing that stands for ever -/
theorem Wd0.new (w : Wd0 M G H) (h : H p = none) : Wd0 M (upd G p o) (upd H p o) where
  sub := fun a u e => by
    by_cases q : a = p
    · subst q; rw [upd_same] at e ⊢; exact e
    · rw [upd_ne q] at e ⊢; exact w.sub a u e
  mt := fun m hm => by
    obtain ⟨g, u, hu, f⟩ := w.mt m hm
    have ne : m.1 ≠ p := ne_of_none hu h
    refine ⟨by rw [upd_ne ne]; exact g, u, by rw [upd_ne ne]; exact hu, w.mono m hm _ _ _ (same_new (w.free h)) f⟩
  mono := w.mono
  nd := w.nd
/-- a new thing that changes -/
theorem Wd0.newM (w : Wd0 M G H) (h : H p = none) {φ : Hp → HO → Prop} (f : φ G o) (mo : ∀ G1 G2 o, Same G1 G2 → φ G1 o → φ G2 o) : Wd0 ((p, φ) :: M) G (upd H p o) where
  sub := fun a u e => by
    rw [upd_ne (ne_of_none (w.sub _ _ e) h)]
    exact w.sub a u e
  mt := fun m hm => by
    rcases List.mem_cons.mp hm with rfl | hm
    · exact ⟨w.free h, o, upd_same, f⟩
    · obtain ⟨g, u, hu, f⟩ := w.mt m hm
      exact ⟨g, u, by rw [upd_ne (ne_of_none hu h)]; exact hu, f⟩
  mono := fun m hm => by
    rcases List.mem_cons.mp hm with rfl | hm
    · exact mo
    · exact w.mono m hm
  nd := by
    rw [List.map_cons, List.nodup_cons]
    refine ⟨fun hm => ?_, w.nd⟩
    obtain ⟨q, hq, e⟩ := List.mem_map.mp hm
    obtain ⟨_, u, hu, _⟩ := w.mt q hq
    exact ne_of_none hu h e
theorem mem_eq : ∀ {M : Ml} {p q : Addr × (Hp → HO → Prop)}, (M.map (·.1)).Nodup → p ∈ M → q ∈ M → p.1 = q.1 → p = q
  | [], _, _, _, h, _, _ => by simp at h
  | m :: r, p, q, nd, hp, hq, e => by
    rw [List.map_cons, List.nodup_cons] at nd
    rcases List.mem_cons.mp hp with h1 | h1
    · rcases List.mem_cons.mp hq with h2 | h2
      · rw [h1, h2]
      · exact absurd (List.mem_map.mpr ⟨q, h2, by rw [← e, h1]⟩) nd.1
    · rcases List.mem_cons.mp hq with h2 | h2
      · exact absurd (List.mem_map.mpr ⟨p, h1, by rw [e, h2]⟩) nd.1
      · exact mem_eq nd.2 h1 h2 e
/-- a thing that changes is changed -/
theorem Wd0.write (w : Wd0 M G H) {φ : Hp → HO → Prop} (hp : (p, φ) ∈ M) (f : φ G o) : Wd0 M G (upd H p o) where
  sub := fun a u e => by
    have ne : a ≠ p := fun z => by
      have := (w.mt _ hp).1
      rw [z] at e; rw [e] at this; cases this
    rw [upd_ne ne]; exact w.sub a u e
  mt := fun m hm => by
    obtain ⟨g, u, hu, f'⟩ := w.mt m hm
    by_cases q : m.1 = p
    · have e := mem_eq w.nd hm hp q
      subst e
      exact ⟨g, o, upd_same, f⟩
    · exact ⟨g, u, by rw [upd_ne q]; exact hu, f'⟩
  mono := w.mono
  nd := w.nd
/-- what is told of it is told anew -/
theorem Wd0.turn {φ ψ : Hp → HO → Prop} (w : Wd0 ((p, φ) :: M) G H) (e : H p = some o) (f : ψ G o) (mo : ∀ G1 G2 o, Same G1 G2 → ψ G1 o → ψ G2 o) : Wd0 ((p, ψ) :: M) G H where
  sub := w.sub
  mt := fun m hm => by
    rcases List.mem_cons.mp hm with rfl | hm
    · exact ⟨(w.mt _ List.mem_cons_self).1, o, e, f⟩
    · exact w.mt m (List.mem_cons_of_mem _ hm)
  mono := fun m hm => by
    rcases List.mem_cons.mp hm with rfl | hm
    · exact mo
    · exact w.mono m (List.mem_cons_of_mem _ hm)
  nd := w.nd
/-- it stands for ever from now on -/
theorem Wd0.freeze {φ : Hp → HO → Prop} (w : Wd0 ((p, φ) :: M) G H) (e : H p = some o) : Wd0 M (upd G p o) H where
  sub := fun a u h => by
    by_cases q : a = p
    · subst q; rw [upd_same] at h; rw [e]; exact h
    · rw [upd_ne q] at h; exact w.sub a u h
  mt := fun m hm => by
    have g0 : G p = none := (w.mt _ List.mem_cons_self).1
    have ne : m.1 ≠ p := fun z => by
      have nd := w.nd
      rw [List.map_cons, List.nodup_cons] at nd
      exact nd.1 (List.mem_map.mpr ⟨m, hm, z⟩)
    obtain ⟨g, u, hu, f⟩ := w.mt m (List.mem_cons_of_mem _ hm)
    exact ⟨by rw [upd_ne ne]; exact g, u, hu, w.mono m (List.mem_cons_of_mem _ hm) _ _ _ (same_new g0) f⟩
  mono := fun m hm => w.mono m (List.mem_cons_of_mem _ hm)
  nd := (List.nodup_cons.mp w.nd).2
theorem Wd0.tail {m : Addr × (Hp → HO → Prop)} (w : Wd0 (m :: M) G H) : Wd0 M G H := ⟨w.sub, fun q hq => w.mt q (List.mem_cons_of_mem _ hq), fun q hq => w.mono q (List.mem_cons_of_mem _ hq), (List.nodup_cons.mp w.nd).2⟩
theorem Wd0.less {M1 : Ml} (w : Wd0 M G H) (s : M1.Sublist M) : Wd0 M1 G H := ⟨w.sub, fun q hq => w.mt q (s.mem hq), fun q hq => w.mono q (s.mem hq), w.nd.sublist (s.map _)⟩
end
/-- M: l what changes; b what the one knows of it who takes an exception; ex the exceptions that he takes, W his wish -/
structure Mt where
  l : Ml
  b : Ml := []
  sub : b.Sublist l := by exact List.nil_sublist _
  ex : Hp → L2.St → Value → Option Addr → Prop := fun _ _ _ _ => False
  W : WX := fun _ _ _ _ => False
instance : Membership (Addr × (Hp → HO → Prop)) Mt := ⟨fun M p => p ∈ M.l⟩
abbrev Mt.cons (M : Mt) (p : Addr × (Hp → HO → Prop)) : Mt := { M with l := p :: M.l, sub := M.sub.cons p }
structure Wd (M : Mt) (G H : Hp) : Prop extends Wd0 M.l G H where
  xk : ∀ cls d σ' G' H', M.ex G' σ' cls d → Same G G' → Wd0 M.b G' H' → M.W cls d σ' H'
section
variable {M : Mt} {G H : Hp} {p : Addr} {o : HO}
theorem Wd.free (w : Wd M G H) (h : H p = none) : G p = none := w.sub.free h
theorem Wd.to (w : Wd M G H) {G' H' : Hp} (s : Same G G') (w' : Wd0 M.l G' H') : Wd M G' H' := ⟨w', fun cls d σ G2 H2 x s2 => w.xk cls d σ G2 H2 x (s.trans s2)⟩
theorem Wd.new (w : Wd M G H) (h : H p = none) : Wd M (upd G p o) (upd H p o) := w.to (same_new (w.free h)) (w.toWd0.new h)
theorem Wd.newM (w : Wd M G H) (h : H p = none) {φ : Hp → HO → Prop} (f : φ G o) (mo : ∀ G1 G2 o, Same G1 G2 → φ G1 o → φ G2 o) : Wd (M.cons (p, φ)) G (upd H p o) := ⟨w.toWd0.newM h f mo, w.xk⟩
theorem Wd.write (w : Wd M G H) {φ : Hp → HO → Prop} (hp : (p, φ) ∈ M) (f : φ G o) : Wd M G (upd H p o) := ⟨w.toWd0.write hp f, w.xk⟩
theorem Wd.turn {φ ψ : Hp → HO → Prop} (w : Wd (M.cons (p, φ)) G H) (e : H p = some o) (f : ψ G o) (mo : ∀ G1 G2 o, Same G1 G2 → ψ G1 o → ψ G2 o) : Wd (M.cons (p, ψ)) G H := ⟨w.toWd0.turn e f mo, w.xk⟩
theorem Wd.freeze {φ : Hp → HO → Prop} (w : Wd (M.cons (p, φ)) G H) (e : H p = some o) : Wd M (upd G p o) H := by
  have g0 : G p = none := (w.mt _ List.mem_cons_self).1
  exact ⟨w.toWd0.freeze e, fun cls d σ G2 H2 x s2 => w.xk cls d σ G2 H2 x ((same_new g0).trans s2)⟩
theorem Wd.tail {m : Addr × (Hp → HO → Prop)} (w : Wd (M.cons m) G H) : Wd M G H := ⟨w.toWd0.tail, w.xk⟩
/-- an exception is taken -/
theorem Wd.take (w : Wd M G H) {cls : Value} {d : Option Addr} {σ : L2.St} (x : M.ex G σ cls d) : M.W cls d σ H := w.xk cls d σ G H x (Same.refl G) (w.toWd0.less M.sub)
end
structure MSub (M M' : Mt) : Prop where
  l : ∀ p ∈ M, p ∈ M'
  ex : M'.ex = M.ex
  W : M'.W = M.W
theorem MSub.refl (M : Mt) : MSub M M := ⟨fun _ h => h, rfl, rfl⟩
theorem MSub.trans {M M1 M2 : Mt} (a : MSub M M1) (b : MSub M1 M2) : MSub M M2 := ⟨fun p h => b.l p (a.l p h), b.ex.trans a.ex, b.W.trans a.W⟩
theorem MSub.cons {M M' : Mt} {p : Addr × (Hp → HO → Prop)} (a : MSub M M') : MSub M (M'.cons p) := ⟨fun q h => List.mem_cons_of_mem _ (a.l q h), a.ex, a.W⟩
theorem MSub.cons2 {M M' : Mt} {p : Addr × (Hp → HO → Prop)} (a : MSub M M') : MSub (M.cons p) (M'.cons p) := ⟨fun q h => (List.mem_cons.mp h).elim (fun e => e ▸ List.mem_cons_self) fun h => List.mem_cons_of_mem _ (a.l q h), a.ex, a.W⟩
/-! ### slots -/
abbrev DS := List (Option D)
structure Sg (K : PySem.W.Frag) (G : Hp) (σ : L2.St) (ds : DS) : Prop where
  len : σ.length = ds.length
  at_ : ∀ (i : Nat) (d : D), ds[i]? = some (some d) → ∃ v, σ[i]? = some (some v) ∧ Rp K G v d
section
variable {K : PySem.W.Frag} {G G' : Hp} {σ : L2.St} {ds : DS}
theorem Sg.mono (s : Same G G') (h : Sg K G σ ds) : Sg K G' σ ds := ⟨h.len, fun i d e => let ⟨v, a, b⟩ := h.at_ i d e; ⟨v, a, b.mono s⟩⟩
theorem Sg.set {v : V} {d : D} (h : Sg K G σ ds) (i : Nat) (r : Rp K G v d) : Sg K G (σ.set i (some v)) (ds.set i (some d)) := by
  refine ⟨by rw [List.length_set, List.length_set, h.len], fun j e q => ?_⟩
  rw [List.getElem?_set] at q ⊢
  by_cases hij : i = j
  · subst hij
    rw [if_pos rfl] at q ⊢
    by_cases hl : i < ds.length
    · rw [if_pos hl] at q
      rw [if_pos (by rw [h.len]; exact hl)]
      cases q
      exact ⟨v, rfl, r⟩
    · rw [if_neg hl] at q; cases q
  · rw [if_neg hij] at q ⊢
    exact h.at_ j e q
theorem Sg.drop {i : Nat} {x : Option V} (h : Sg K G σ ds) : Sg K G (σ.set i x) (ds.set i none) := by
  refine ⟨by rw [List.length_set, List.length_set, h.len], fun j e q => ?_⟩
  rw [List.getElem?_set] at q ⊢
  by_cases hij : i = j
  · subst hij
    rw [if_pos rfl] at q
    split at q <;> cases q
  · rw [if_neg hij] at q ⊢
    exact h.at_ j e q
theorem Sg.start {N : List Str} {vs : List V} {as : List D} (h : RpAll K G vs as) : Sg K G (start N vs) (as.map some ++ List.replicate (N.length - as.length) none) := by
  have hl := h.length
  refine ⟨by unfold L2.start; simp [hl], fun i d e => ?_⟩
  unfold L2.start
  by_cases hi : i < as.length
  · rw [List.getElem?_append_left (by simpa using hi), List.getElem?_map] at e
    cases q : as[i]? with
    | none => rw [q] at e; cases e
    | some d' =>
      rw [q] at e; cases e
      obtain ⟨v, e1, r⟩ := h.get q
      exact ⟨v, by rw [List.getElem?_append_left (by rw [List.length_map, hl]; exact hi), List.getElem?_map, e1]; rfl, r⟩
  · rw [List.getElem?_append_right (by simpa using hi)] at e
    rw [List.getElem?_replicate] at e
    split at e <;> cases e
end
/-! ### exceptions, told of the data -/
inductive XRp (K : PySem.W.Frag) (G : Hp) : Value → Option Addr → D → Prop
  | own {C dd : Addr} {fs : List (Str × V)} {ds : List D} : G dd = some (.xd fs) → RpAll K G (fs.map (·.2)) ds → XRp K G (.ref C) (some dd) (.exc C (fs.map (·.1)) ds)
  | blt (n : String) (d : Option Addr) : XRp K G (.type n) d (.raw (.ty n))
theorem XRp.mono {K : PySem.W.Frag} {G G' : Hp} (s : Same G G') {c : Value} {d : Option Addr} {x : D} (h : XRp K G c d x) : XRp K G' c d x := by
  cases h with
  | own h r => exact .own (s _ _ h) (r.mono s)
  | blt n d => exact .blt n d
def exD (K : PySem.W.Frag) (Rx : D → DS → Prop) : Hp → L2.St → Value → Option Addr → Prop := fun G σ c d => ∃ x ds, Rx x ds ∧ XRp K G c d x ∧ Sg K G σ ds
/-- M takes the exception x from the slots ds -/
def Exk (K : PySem.W.Frag) (M : Mt) (x : D) (ds : DS) : Prop := ∀ G σ c d, XRp K G c d x → Sg K G σ ds → M.ex G σ c d
theorem exk_D {K : PySem.W.Frag} {M : Mt} {Rx : D → DS → Prop} {x : D} {ds : DS} (e : M.ex = exD K Rx) (h : Rx x ds) : Exk K M x ds := fun G σ c d hx s => by
  rw [e]
  exact ⟨x, ds, h, hx, s⟩
/-- M within a try -/
abbrev Mt.tr (M : Mt) (K : PySem.W.Frag) (W : WX) (Rx : D → DS → Prop) : Mt := { l := M.l, b := M.l, sub := List.Sublist.refl _, ex := exD K Rx, W := W }
/-! ### what an expression, a test, an argument list may give -/
section
variable (K : PySem.W.Frag) (M : Mt) (ds : DS)
def Ev (te : TE) (R : D → Prop) : Prop := ∀ (M' : Mt) (σ : L2.St) (G H : Hp) (Q : VK), MSub M M' → Sg K G σ ds → Wd M' G H →
  (∀ v d G' H', Same G G' → Wd M' G' H' → Rp K G' v d → R d → Q v H') → te σ H Q
def EvT (tt : TT) (R : Bool → Prop) : Prop := ∀ (M' : Mt) (σ : L2.St) (G H : Hp) (Q : Bool → Hp → Prop), MSub M M' → Sg K G σ ds → Wd M' G H →
  (∀ b G' H', Same G G' → Wd M' G' H' → R b → Q b H') → tt σ H Q
def EvA (ta : TA) (R : List D → Prop) : Prop := ∀ (M' : Mt) (σ : L2.St) (G H : Hp) (Q : List V → Hp → Prop), MSub M M' → Sg K G σ ds → Wd M' G H →
  (∀ vs es G' H', Same G G' → Wd M' G' H' → RpAll K G' vs es → R es → Q vs H') → ta σ H Q
/-- the ends of a statement, told of the data -/
structure AE where
  nx : DS → Prop
  rt : D → Prop
  bk : DS → Prop := fun _ => False
  ct : DS → Prop := fun _ => False
structure EndsOk (M' : Mt) (G : Hp) (E : AE) (Z : Ends) : Prop where
  nx : ∀ ds' σ' G' H', E.nx ds' → Same G G' → Sg K G' σ' ds' → Wd M' G' H' → Z.nx σ' H'
  rt : ∀ v d G' H', E.rt d → Same G G' → Rp K G' v d → Wd M' G' H' → Z.rt v H'
  bk : ∀ ds' σ' G' H', E.bk ds' → Same G G' → Sg K G' σ' ds' → Wd M' G' H' → Z.bk σ' H'
  ct : ∀ ds' σ' G' H', E.ct ds' → Same G G' → Sg K G' σ' ds' → Wd M' G' H' → Z.ct σ' H'
def Run (ts : TS) (E : AE) : Prop := ∀ (M' : Mt) (σ : L2.St) (G H : Hp) (Z : Ends), MSub M M' → Sg K G σ ds → Wd M' G H → EndsOk K M' G E Z → ts Z σ H
end
theorem EndsOk.mono {K : PySem.W.Frag} {M' : Mt} {G G' : Hp} {E : AE} {Z : Ends} (s : Same G G') (h : EndsOk K M' G E Z) : EndsOk K M' G' E Z :=
  ⟨fun ds σ G1 H1 a b => h.nx ds σ G1 H1 a (s.trans b), fun v d G1 H1 a b => h.rt v d G1 H1 a (s.trans b), fun ds σ G1 H1 a b => h.bk ds σ G1 H1 a (s.trans b), fun ds σ G1 H1 a b => h.ct ds σ G1 H1 a (s.trans b)⟩
section
variable {K : PySem.W.Frag} {M M1 : Mt} {ds : DS} {te ta tb tc : TE} {t u : TT} {R R' : D → Prop} {RT RT' : Bool → Prop}
theorem Ev.weak (h : Ev K M ds te R) (f : ∀ d, R d → R' d) : Ev K M ds te R' := fun M' σ G H Q m s w q => h M' σ G H Q m s w fun v d G' H' a b c r => q v d G' H' a b c (f d r)
theorem Ev.more (h : Ev K M ds te R) (m : MSub M M1) : Ev K M1 ds te R := fun M' σ G H Q m' => h M' σ G H Q (m.trans m')
theorem EvT.weak (h : EvT K M ds t RT) (f : ∀ d, RT d → RT' d) : EvT K M ds t RT' := fun M' σ G H Q m s w q => h M' σ G H Q m s w fun b G' H' a w' r => q b G' H' a w' (f b r)
theorem EvA.weak {ta : TA} {R R' : List D → Prop} (h : EvA K M ds ta R) (f : ∀ d, R d → R' d) : EvA K M ds ta R' := fun M' σ G H Q m s w q => h M' σ G H Q m s w fun v d G' H' a b c r => q v d G' H' a b c (f d r)
theorem Run.more {ts : TS} {E : AE} (h : Run K M ds ts E) (m : MSub M M1) : Run K M1 ds ts E := fun M' σ G H Z m' => h M' σ G H Z (m.trans m')
/-- one after another -/
theorem ev_var {i : Nat} {d : D} (h : ds[i]? = some (some d)) : Ev K M ds (tVar i) (· = d) := fun M' σ G H Q _ s w q =>
  let ⟨v, e, r⟩ := s.at_ i d h
  ⟨v, e, q v d G H (Same.refl G) w r rfl⟩
theorem ev_c {v : V} {d : D} (h : ∀ G, Rp K G v d) : Ev K M ds (tC v) (· = d) := fun M' σ G H Q _ s w q => q v d G H (Same.refl G) w (h G) rfl
theorem ev_cint {i : Int} : Ev K M ds (tC (.int i)) (· = .int i) := ev_c fun _ => .int i
theorem ev_cbl {b : Bool} : Ev K M ds (tC (.bl b)) (· = .bl b) := ev_c fun _ => .bl b
theorem ev_cnon : Ev K M ds (tC .non) (· = .non) := ev_c fun _ => .non
theorem ev_cstr {x : Str} : Ev K M ds (tC (.str x)) (· = .str x) := ev_c fun _ => .str x
theorem ev_craw {v : V} : Ev K M ds (tC v) (· = .raw v) := ev_c fun _ => .raw v
/-- an operation on values: what it asks and gives -/
def OpD (K : PySem.W.Frag) (M : Mt) (r : R2) (a b : D) (R : D → Prop) : Prop := ∀ (M' : Mt) (G H : Hp) (x y : V) (Q : VK), MSub M M' → Rp K G x a → Rp K G y b → Wd M' G H →
  (∀ v d G' H', Same G G' → Wd M' G' H' → Rp K G' v d → R d → Q v H') → r x y H Q
def UnD (K : PySem.W.Frag) (M : Mt) (r : V → Hp → VK → Prop) (a : D) (R : D → Prop) : Prop := ∀ (M' : Mt) (G H : Hp) (x : V) (Q : VK), MSub M M' → Rp K G x a → Wd M' G H →
  (∀ v d G' H', Same G G' → Wd M' G' H' → Rp K G' v d → R d → Q v H') → r x H Q
def CallD (K : PySem.W.Frag) (M : Mt) (r : List V → Hp → VK → Prop) (as : List D) (R : D → Prop) : Prop := ∀ (M' : Mt) (G H : Hp) (xs : List V) (Q : VK), MSub M M' → RpAll K G xs as → Wd M' G H →
  (∀ v d G' H', Same G G' → Wd M' G' H' → Rp K G' v d → R d → Q v H') → r xs H Q
theorem ev_op {r : R2} {Ra Rb : D → Prop} (ha : Ev K M ds ta Ra) (hb : Ev K M ds tb Rb) (hr : ∀ a b, Ra a → Rb b → OpD K M r a b R) : Ev K M ds (tOp r ta tb) R := fun M' σ G H Q m s w q =>
  ha M' σ G H _ m s w fun v a G1 H1 s1 w1 r1 q1 => hb M' σ G1 H1 _ m (s.mono s1) w1 fun u b G2 H2 s2 w2 r2 q2 =>
    hr a b q1 q2 M' G2 H2 v u Q m (r1.mono s2) r2 w2 fun z d G3 H3 s3 w3 r3 q3 => q z d G3 H3 ((s1.trans s2).trans s3) w3 r3 q3
theorem ev_un {r : V → Hp → VK → Prop} {Ra : D → Prop} (ha : Ev K M ds ta Ra) (hr : ∀ a, Ra a → UnD K M r a R) : Ev K M ds (tUn r ta) R := fun M' σ G H Q m s w q =>
  ha M' σ G H _ m s w fun v a G1 H1 s1 w1 r1 q1 => hr a q1 M' G1 H1 v Q m r1 w1 fun z d G3 H3 s3 w3 r3 q3 => q z d G3 H3 (s1.trans s3) w3 r3 q3
theorem ev_cb {r : List V → Hp → VK → Prop} {ta : TA} {Ra : List D → Prop} (ha : EvA K M ds ta Ra) (hr : ∀ as, Ra as → CallD K M r as R) : Ev K M ds (tCB r ta) R := fun M' σ G H Q m s w q =>
  ha M' σ G H _ m s w fun v a G1 H1 s1 w1 r1 q1 => hr a q1 M' G1 H1 v Q m r1 w1 fun z d G3 H3 s3 w3 r3 q3 => q z d G3 H3 (s1.trans s3) w3 r3 q3
theorem ea_nil : EvA K M ds tNil (· = []) := fun M' σ G H Q _ s w q => q [] [] G H (Same.refl G) w .nil rfl
theorem ea_cons {Ra : D → Prop} {ta : TE} {tr : TA} {Rr : List D → Prop} (ha : Ev K M ds ta Ra) (hr : EvA K M ds tr Rr) : EvA K M ds (tCons ta tr) (fun as => ∃ a r, as = a :: r ∧ Ra a ∧ Rr r) := fun M' σ G H Q m s w q =>
  ha M' σ G H _ m s w fun v a G1 H1 s1 w1 r1 q1 => hr M' σ G1 H1 _ m (s.mono s1) w1 fun us bs G2 H2 s2 w2 r2 q2 =>
    q (v :: us) (a :: bs) G2 H2 (s1.trans s2) w2 (.cons (r1.mono s2) r2) ⟨a, bs, rfl, q1, q2⟩
/-- the same where all is known -/
theorem ea1 {a : D} {as : List D} {ta : TE} {tr : TA} (ha : Ev K M ds ta (· = a)) (hr : EvA K M ds tr (· = as)) : EvA K M ds (tCons ta tr) (· = a :: as) :=
  (ea_cons ha hr).weak fun _ ⟨_, _, e, e1, e2⟩ => by rw [e, e1, e2]
theorem ev_tup {ta : TA} {Ra : List D → Prop} (ha : EvA K M ds ta Ra) (hl : ∀ as, Ra as → as.length ≤ 100000) : Ev K M ds (tTup ta) (fun d => ∃ as, d = .tup as ∧ Ra as) := fun M' σ G H Q m s w q =>
  ha M' σ G H _ m s w fun vs as G1 H1 s1 w1 r1 q1 => ⟨by rw [r1.length]; exact Nat.le_trans (hl as q1) (by decide), fun p hp =>
    q (.ref p) (.tup as) (upd G1 p (.tup vs)) (upd H1 p (.tup vs)) (s1.trans (same_new (w1.free hp))) (w1.new hp) (.tup (.inl (.inl upd_same)) (r1.mono (same_new (w1.free hp)))) ⟨as, rfl, q1⟩⟩
theorem ev_lst {ta : TA} {Ra : List D → Prop} (ha : EvA K M ds ta Ra) (hl : ∀ as, Ra as → as.length ≤ 100000) : Ev K M ds (tLst ta) (fun d => ∃ as, d = .list as ∧ Ra as) := fun M' σ G H Q m s w q =>
  ha M' σ G H _ m s w fun vs as G1 H1 s1 w1 r1 q1 => ⟨by rw [r1.length]; exact Nat.le_trans (hl as q1) (by decide), fun p hp =>
    q (.ref p) (.list as) (upd G1 p (.lst vs)) (upd H1 p (.lst vs)) (s1.trans (same_new (w1.free hp))) (w1.new hp) (.lst upd_same (r1.mono (same_new (w1.free hp)))) ⟨as, rfl, q1⟩⟩
theorem ev_tup1 {ta : TA} {as : List D} (ha : EvA K M ds ta (· = as)) (hl : as.length ≤ 100000) : Ev K M ds (tTup ta) (· = .tup as) :=
  (ev_tup ha fun _ e => by rw [e]; exact hl).weak fun _ ⟨_, e, e1⟩ => by rw [e, e1]
theorem ev_lst1 {ta : TA} {as : List D} (ha : EvA K M ds ta (· = as)) (hl : as.length ≤ 100000) : Ev K M ds (tLst ta) (· = .list as) :=
  (ev_lst ha fun _ e => by rw [e]; exact hl).weak fun _ ⟨_, e, e1⟩ => by rw [e, e1]
/-! known values -/
theorem ev_op1 {r : R2} {a b : D} (ha : Ev K M ds ta (· = a)) (hb : Ev K M ds tb (· = b)) (hr : OpD K M r a b R) : Ev K M ds (tOp r ta tb) R := ev_op ha hb fun _ _ e1 e2 => by rw [e1, e2]; exact hr
theorem ev_un1 {r : V → Hp → VK → Prop} {a : D} (ha : Ev K M ds ta (· = a)) (hr : UnD K M r a R) : Ev K M ds (tUn r ta) R := ev_un ha fun _ e => by rw [e]; exact hr
theorem ev_cb1 {r : List V → Hp → VK → Prop} {ta : TA} {as : List D} (ha : EvA K M ds ta (· = as)) (hr : CallD K M r as R) : Ev K M ds (tCB r ta) R := ev_cb ha fun _ e => by rw [e]; exact hr
theorem od_int {g : Int → Int → V} {h : Int → Int → D} {i j : Int} (hg : ∀ G, Rp K G (g i j) (h i j)) : OpD K M (rI0 g) (.int i) (.int j) (· = h i j) := fun M' G H x y Q _ rx ry w q =>
  ⟨i, j, rx.int_inv, ry.int_inv, q _ _ G H (Same.refl G) w (hg G) rfl⟩
theorem od_intC {C : Int → Int → Prop} {g : Int → Int → V} {h : Int → Int → D} {i j : Int} (hc : C i j) (hg : ∀ G, Rp K G (g i j) (h i j)) : OpD K M (rI C g) (.int i) (.int j) (· = h i j) := fun M' G H x y Q _ rx ry w q =>
  ⟨i, j, rx.int_inv, ry.int_inv, hc, q _ _ G H (Same.refl G) w (hg G) rfl⟩
theorem od_add {i j : Int} : OpD K M rAdd (.int i) (.int j) (· = .int (i + j)) := fun M' G H x y Q _ rx ry w q => ⟨i, j, rx.int_inv, ry.int_inv, q _ _ G H (Same.refl G) w (.int _) rfl⟩
theorem od_sub {i j : Int} : OpD K M rSub (.int i) (.int j) (· = .int (i - j)) := fun M' G H x y Q _ rx ry w q => ⟨i, j, rx.int_inv, ry.int_inv, q _ _ G H (Same.refl G) w (.int _) rfl⟩
end
end Rg
namespace Rg
open PySem L2 RZ
section
variable {K : PySem.W.Frag} {M M1 : Mt} {ds : DS} {te ta tb tc : TE} {t u : TT} {R R' : D → Prop} {RT RT' : Bool → Prop}
/-! ### tests -/
theorem et_B {b : Bool} (h : Ev K M ds te (· = .bl b)) : EvT K M ds (tB te) (· = b) := fun M' σ G H Q m s w q =>
  h M' σ G H _ m s w fun v d G1 H1 s1 w1 r1 e => by
    subst e
    exact ⟨b, r1.bl_inv, q b G1 H1 s1 w1 rfl⟩
theorem et_BR (h : Ev K M ds te (fun d => ∃ b, d = .bl b ∧ RT b)) : EvT K M ds (tB te) RT := fun M' σ G H Q m s w q =>
  h M' σ G H _ m s w fun v d G1 H1 s1 w1 r1 ⟨b, e, hb⟩ => by
    subst e
    exact ⟨b, r1.bl_inv, q b G1 H1 s1 w1 hb⟩
theorem et_test {b : Bool} (h : Ev K M ds te (· = .bl b)) : EvT K M ds (tTest te) (· = b) := et_B h
theorem et_testR (h : Ev K M ds te (fun d => ∃ b, d = .bl b ∧ RT b)) : EvT K M ds (tTest te) RT := et_BR h
theorem et_and {a b : Bool} (h1 : EvT K M ds t (· = a)) (h2 : a = true → EvT K M ds u (· = b)) : EvT K M ds (tAnd t u) (· = (a && b)) := fun M' σ G H Q m s w q =>
  h1 M' σ G H _ m s w fun c G1 H1 s1 w1 e => by
    subst e
    cases c with
    | true => exact h2 rfl M' σ G1 H1 Q m (s.mono s1) w1 fun b' G2 H2 s2 w2 e2 => q b' G2 H2 (s1.trans s2) w2 e2
    | false => exact q false G1 H1 s1 w1 rfl
theorem et_or {a b : Bool} (h1 : EvT K M ds t (· = a)) (h2 : a = false → EvT K M ds u (· = b)) : EvT K M ds (tOr t u) (· = (a || b)) := fun M' σ G H Q m s w q =>
  h1 M' σ G H _ m s w fun c G1 H1 s1 w1 e => by
    subst e
    cases c with
    | false => exact h2 rfl M' σ G1 H1 Q m (s.mono s1) w1 fun b' G2 H2 s2 w2 e2 => q b' G2 H2 (s1.trans s2) w2 e2
    | true => exact q true G1 H1 s1 w1 rfl
theorem et_andR {Ra : Bool → Prop} (h1 : EvT K M ds t Ra) (h2 : Ra true → EvT K M ds u RT) (h3 : Ra false → RT false) : EvT K M ds (tAnd t u) RT := fun M' σ G H Q m s w q =>
  h1 M' σ G H _ m s w fun c G1 H1 s1 w1 e => by
    cases c with
    | true => exact h2 e M' σ G1 H1 Q m (s.mono s1) w1 fun b' G2 H2 s2 w2 e2 => q b' G2 H2 (s1.trans s2) w2 e2
    | false => exact q false G1 H1 s1 w1 (h3 e)
theorem et_orR {Ra : Bool → Prop} (h1 : EvT K M ds t Ra) (h2 : Ra false → EvT K M ds u RT) (h3 : Ra true → RT true) : EvT K M ds (tOr t u) RT := fun M' σ G H Q m s w q =>
  h1 M' σ G H _ m s w fun c G1 H1 s1 w1 e => by
    cases c with
    | false => exact h2 e M' σ G1 H1 Q m (s.mono s1) w1 fun b' G2 H2 s2 w2 e2 => q b' G2 H2 (s1.trans s2) w2 e2
    | true => exact q true G1 H1 s1 w1 (h3 e)
theorem et_not {a : Bool} (h : EvT K M ds t (· = a)) : EvT K M ds (tNot t) (· = !a) := fun M' σ G H Q m s w q =>
  h M' σ G H _ m s w fun c G1 H1 s1 w1 e => q _ G1 H1 s1 w1 (by rw [e])
theorem et_notR {Ra : Bool → Prop} (h : EvT K M ds t Ra) (f : ∀ b, Ra b → RT (!b)) : EvT K M ds (tNot t) RT := fun M' σ G H Q m s w q =>
  h M' σ G H _ m s w fun c G1 H1 s1 w1 e => q _ G1 H1 s1 w1 (f c e)
theorem et_yes : EvT K M ds tYes (· = true) := fun M' σ G H Q m s w q => q true G H (Same.refl G) w rfl
/-- truth of any value -/
def truD : D → Option Bool
  | .non => some false
  | .bl b => some b
  | .int i => some (i != 0)
  | .str x => some (x.length != 0)
  | .list xs => some (!xs.isEmpty)
  | .tup xs => some (!xs.isEmpty)
  | _ => none
theorem ev_ifE {c : Bool} {a b : D} (ht : EvT K M ds t (· = c)) (h1 : c = true → Ev K M ds ta (· = a)) (h2 : c = false → Ev K M ds tb (· = b)) : Ev K M ds (tIf t ta tb) (· = if c then a else b) := fun M' σ G H Q m s w q =>
  ht M' σ G H _ m s w fun c' G1 H1 s1 w1 e => by
    subst e
    cases c' with
    | true => exact h1 rfl M' σ G1 H1 Q m (s.mono s1) w1 fun v d G2 H2 s2 w2 r2 e2 => q v d G2 H2 (s1.trans s2) w2 r2 e2
    | false => exact h2 rfl M' σ G1 H1 Q m (s.mono s1) w1 fun v d G2 H2 s2 w2 r2 e2 => q v d G2 H2 (s1.trans s2) w2 r2 e2
theorem ev_ifR {Ra : Bool → Prop} (ht : EvT K M ds t Ra) (h1 : Ra true → Ev K M ds ta R) (h2 : Ra false → Ev K M ds tb R) : Ev K M ds (tIf t ta tb) R := fun M' σ G H Q m s w q =>
  ht M' σ G H _ m s w fun c' G1 H1 s1 w1 e => by
    cases c' with
    | true => exact h1 e M' σ G1 H1 Q m (s.mono s1) w1 fun v d G2 H2 s2 w2 r2 e2 => q v d G2 H2 (s1.trans s2) w2 r2 e2
    | false => exact h2 e M' σ G1 H1 Q m (s.mono s1) w1 fun v d G2 H2 s2 w2 r2 e2 => q v d G2 H2 (s1.trans s2) w2 r2 e2
theorem ev_andV {a : Bool} (ha : Ev K M ds ta (· = .bl a)) (hb : a = true → Ev K M ds tb R) (hf : a = false → R (.bl false)) : Ev K M ds (tAndV ta tb) R := fun M' σ G H Q m s w q =>
  ha M' σ G H _ m s w fun v d G1 H1 s1 w1 r1 e => by
    subst e
    refine ⟨a, r1.bl_inv, ?_⟩
    cases a with
    | true => exact hb rfl M' σ G1 H1 Q m (s.mono s1) w1 fun v d G2 H2 s2 w2 r2 e2 => q v d G2 H2 (s1.trans s2) w2 r2 e2
    | false => exact q _ _ G1 H1 s1 w1 (.bl false) (hf rfl)
theorem ev_orV {a : Bool} (ha : Ev K M ds ta (· = .bl a)) (hb : a = false → Ev K M ds tb R) (hf : a = true → R (.bl true)) : Ev K M ds (tOrV ta tb) R := fun M' σ G H Q m s w q =>
  ha M' σ G H _ m s w fun v d G1 H1 s1 w1 r1 e => by
    subst e
    refine ⟨a, r1.bl_inv, ?_⟩
    cases a with
    | false => exact hb rfl M' σ G1 H1 Q m (s.mono s1) w1 fun v d G2 H2 s2 w2 r2 e2 => q v d G2 H2 (s1.trans s2) w2 r2 e2
    | true => exact q _ _ G1 H1 s1 w1 (.bl true) (hf rfl)
theorem ev_andB {a b : Bool} (ha : Ev K M ds ta (· = .bl a)) (hb : a = true → Ev K M ds tb (· = .bl b)) : Ev K M ds (tAndV ta tb) (· = .bl (a && b)) :=
  ev_andV ha (fun e => by subst e; exact hb rfl) fun e => by subst e; rfl
theorem ev_orB {a b : Bool} (ha : Ev K M ds ta (· = .bl a)) (hb : a = false → Ev K M ds tb (· = .bl b)) : Ev K M ds (tOrV ta tb) (· = .bl (a || b)) :=
  ev_orV ha (fun e => by subst e; exact hb rfl) fun e => by subst e; rfl
theorem ev_notV {a : Bool} (ha : Ev K M ds ta (· = .bl a)) : Ev K M ds (tNotV ta) (· = .bl (!a)) := fun M' σ G H Q m s w q =>
  ha M' σ G H _ m s w fun v d G1 H1 s1 w1 r1 e => by
    subst e
    exact ⟨a, r1.bl_inv, q _ _ G1 H1 s1 w1 (.bl _) rfl⟩
theorem ev_isN {d : D} (ha : Ev K M ds ta (· = d)) (b : Bool) (hb : ∀ G v, Rp K G v d → decide (v = .non) = b) : Ev K M ds (tIsN ta) (· = .bl b) := fun M' σ G H Q m s w q =>
  ha M' σ G H _ m s w fun v d' G1 H1 s1 w1 r1 e => by
    subst e
    rw [hb G1 v r1]
    exact q _ _ G1 H1 s1 w1 (.bl _) rfl
/-- a < b < c -/
theorem ev_chain {r r' : R2} {x y z : D} {k : Bool} (ha : Ev K M ds ta (· = x)) (hb : Ev K M ds tb (· = y)) (hr : OpD K M r x y (· = .bl k)) (hc : k = true → Ev K M ds tc (· = z)) (hr' : k = true → OpD K M r' y z R) (hf : k = false → R (.bl false)) :
    Ev K M ds (tChain r r' ta tb tc) R := fun M' σ G H Q m s w q =>
  ha M' σ G H _ m s w fun v d G1 H1 s1 w1 r1 e1 => hb M' σ G1 H1 _ m (s.mono s1) w1 fun v2 d2 G2 H2 s2 w2 r2 e2 => by
    subst e1; subst e2
    refine hr M' G2 H2 v v2 _ m (r1.mono s2) r2 w2 fun v3 d3 G3 H3 s3 w3 r3 e3 => ?_
    subst e3
    refine ⟨k, r3.bl_inv, ?_⟩
    have s13 := (s1.trans s2).trans s3
    cases k with
    | true =>
      rw [if_pos rfl]
      refine hc rfl M' σ G3 H3 _ m (s.mono s13) w3 fun v4 d4 G4 H4 s4 w4 r4 e4 => ?_
      subst e4
      exact hr' rfl M' G4 H4 v2 v4 Q m (r2.mono (s3.trans s4)) r4 w4 fun v5 d5 G5 H5 s5 w5 r5 e5 => q v5 d5 G5 H5 ((s13.trans s4).trans s5) w5 r5 e5
    | false =>
      rw [if_neg Bool.false_ne_true]
      exact q _ _ G3 H3 s13 w3 (.bl false) (hf rfl)
/-! ### statements -/
variable {E : AE} {a b : TS}
theorem run_next (h : E.nx ds) : Run K M ds tNext E := fun M' σ G H Z m s w z => z.nx ds σ G H h (Same.refl G) s w
theorem run_brk (h : E.bk ds) : Run K M ds tBreak E := fun M' σ G H Z m s w z => z.bk ds σ G H h (Same.refl G) s w
theorem run_cnt (h : E.ct ds) : Run K M ds tCont E := fun M' σ G H Z m s w z => z.ct ds σ G H h (Same.refl G) s w
theorem run_seq (h : Run K M ds a { E with nx := fun ds' => Run K M ds' b E }) : Run K M ds (tSeq a b) E := fun M' σ G H Z m s w z =>
  h M' σ G H { Z with nx := b Z } m s w ⟨fun ds' σ' G' H' r g s' w' => r M' σ' G' H' Z m s' w' (z.mono g), z.rt, z.bk, z.ct⟩
theorem run_weak {E' : AE} (h : Run K M ds a E) (h1 : ∀ d, E.nx d → E'.nx d) (h2 : ∀ d, E.rt d → E'.rt d) (h3 : ∀ d, E.bk d → E'.bk d) (h4 : ∀ d, E.ct d → E'.ct d) : Run K M ds a E' := fun M' σ G H Z m s w z =>
  h M' σ G H Z m s w ⟨fun ds' σ' G' H' r => z.nx ds' σ' G' H' (h1 _ r), fun v d G' H' r => z.rt v d G' H' (h2 _ r), fun ds' σ' G' H' r => z.bk ds' σ' G' H' (h3 _ r), fun ds' σ' G' H' r => z.ct ds' σ' G' H' (h4 _ r)⟩
theorem run_ret (h : Ev K M ds te E.rt) : Run K M ds (tRet te) E := fun M' σ G H Z m s w z =>
  h M' σ G H _ m s w fun v d G1 H1 s1 w1 r1 e => z.rt v d G1 H1 e s1 r1 w1
theorem run_retN (h : E.rt .non) : Run K M ds tRetN E := fun M' σ G H Z m s w z => z.rt .non .non G H h (Same.refl G) .non w
theorem run_expr (h : Ev K M ds te R) (hn : ∀ d, R d → E.nx ds) : Run K M ds (tDrop te) E := fun M' σ G H Z m s w z =>
  h M' σ G H _ m s w fun v d G1 H1 s1 w1 r1 e => z.nx ds σ G1 H1 (hn d e) s1 (s.mono s1) w1
theorem run_asgN {i : Nat} (h : Ev K M ds te R) (hn : ∀ d, R d → E.nx (ds.set i (some d))) : Run K M ds (tAsg te (gName i)) E := fun M' σ G H Z m s w z =>
  h M' σ G H _ m s w fun v d G1 H1 s1 w1 r1 e => z.nx _ _ G1 H1 (hn d e) s1 ((s.mono s1).set i r1) w1
theorem run_if {tc : TT} (h : EvT K M ds tc RT) (h1 : RT true → Run K M ds a E) (h2 : RT false → Run K M ds b E) : Run K M ds (tIfS tc a b) E := fun M' σ G H Z m s w z =>
  h M' σ G H _ m s w fun c G1 H1 s1 w1 e => by
    cases c with
    | true => exact h1 e M' σ G1 H1 Z m (s.mono s1) w1 (z.mono s1)
    | false => exact h2 e M' σ G1 H1 Z m (s.mono s1) w1 (z.mono s1)
theorem run_never (h : False) : Run K M ds tNever E := h.elim
/-- the same in a row with what follows -/
theorem run_asg {i : Nat} (h : Ev K M ds te R) (hn : ∀ d, R d → Run K M (ds.set i (some d)) b E) : Run K M ds (tSeq (tAsg te (gName i)) b) E := run_seq (run_asgN h hn)
theorem run_asg1 {i : Nat} {d : D} (h : Ev K M ds te (· = d)) (hn : Run K M (ds.set i (some d)) b E) : Run K M ds (tSeq (tAsg te (gName i)) b) E := run_asg h fun _ e => by rw [e]; exact hn
theorem run_par {i j : Nat} {ta : TA} {RA : List D → Prop} (h : EvA K M ds ta RA) (hn : ∀ l, RA l → ∃ x y, l = [x, y] ∧ E.nx ((ds.set i (some x)).set j (some y))) : Run K M ds (tPar i j ta) E := fun M' σ G H Z m s w z =>
  h M' σ G H _ m s w fun vs es G1 H1 s1 w1 r1 e => by
    obtain ⟨x, y, rfl, hx⟩ := hn es e
    cases r1 with
    | cons p r =>
      cases r with
      | cons q r =>
        cases r
        exact ⟨_, _, rfl, z.nx _ _ G1 H1 hx s1 (((s.mono s1).set i p).set j q) w1⟩
/-! ### targets -/
/-- vs: the block's own slots in a comprehension, none in a for -/
def EvG (K : PySem.W.Frag) (M : Mt) (vs : Option (List Nat)) (g : TG) (d : D) (ds : DS) (N : DS → Prop) : Prop := ∀ (M' : Mt) (σ : L2.St) (G H : Hp) (v : V) (Q : L2.St → Hp → Prop), MSub M M' → Sg K G σ ds → Wd M' G H → Rp K G v d →
  (∀ ds' σ' G' H', N ds' → Same G G' → Sg K G' σ' ds' → Wd M' G' H' → (∀ l, vs = some l → ∀ ρ : L2.St, wipe σ l = wipe ρ l → wipe σ' l = wipe ρ l) → Q σ' H') → g v σ H Q
theorem wipe_none : ∀ {vs : List Nat} {σ : L2.St} {i : Nat}, i ∈ vs → (wipe σ vs)[i]? = some none ∨ (wipe σ vs)[i]? = none
  | v :: r, σ, i, h => by
    show ((wipe σ r).set v none)[i]? = some none ∨ ((wipe σ r).set v none)[i]? = none
    rw [List.getElem?_set]
    by_cases e : v = i
    · rw [if_pos e]
      split
      · exact .inl rfl
      · exact .inr rfl
    · rw [if_neg e]
      rcases List.mem_cons.mp h with q | q
      · exact absurd q.symm e
      · exact wipe_none q
theorem wipe_out : ∀ {vs : List Nat} {σ : L2.St} {i : Nat}, i ∉ vs → (wipe σ vs)[i]? = σ[i]?
  | [], _, _, _ => rfl
  | v :: r, σ, i, h => by
    show ((wipe σ r).set v none)[i]? = _
    have ne : ¬ v = i := fun e => h (by rw [e]; exact List.mem_cons_self)
    rw [List.getElem?_set, if_neg ne, wipe_out fun q => h (List.mem_cons_of_mem _ q)]
theorem wipe_wipe (σ : L2.St) (vs : List Nat) : wipe (wipe σ vs) vs = wipe σ vs := by
  apply List.ext_getElem?
  intro i
  by_cases h : i ∈ vs
  · have l1 : (wipe (wipe σ vs) vs).length = σ.length := by rw [wipe_length, wipe_length]
    have l2 : (wipe σ vs).length = σ.length := wipe_length σ vs
    rcases wipe_none (σ := wipe σ vs) h with a | a <;> rcases wipe_none (σ := σ) h with b | b
    · rw [a, b]
    · have := List.getElem?_eq_none_iff.mp b
      have := (List.getElem?_eq_some_iff.mp a).1
      omega
    · have := List.getElem?_eq_none_iff.mp a
      have := (List.getElem?_eq_some_iff.mp b).1
      omega
    · rw [a, b]
  · rw [wipe_out h]
theorem wipe_set_in : ∀ {vs : List Nat} {σ : L2.St} {i : Nat} {x : Option V}, i ∈ vs → wipe (σ.set i x) vs = wipe σ vs
  | v :: r, σ, i, x, h => by
    show ((wipe (σ.set i x) r).set v none) = (wipe σ r).set v none
    by_cases hr : i ∈ r
    · rw [wipe_set_in hr]
    · have e : i = v := by
        rcases List.mem_cons.mp h with e | e
        · exact e
        · exact absurd e hr
      subst e
      have key : ∀ (r : List Nat) (σ : L2.St), (wipe (σ.set i x) r).set i none = (wipe σ r).set i none := by
        intro r
        induction r with
        | nil => intro σ; rw [wipe, wipe, List.set_set]
        | cons k r ih =>
          intro σ
          show ((wipe (σ.set i x) r).set k none).set i none = ((wipe σ r).set k none).set i none
          by_cases hk : k = i
          · subst hk
            rw [List.set_set, List.set_set]
            exact ih σ
          · rw [List.set_comm _ _ hk, List.set_comm _ _ hk, ih σ]
      exact key r σ
def ownIn (vs : Option (List Nat)) (i : Nat) : Bool := match vs with
  | none => true
  | some l => l.contains i
theorem eg_name {vs : Option (List Nat)} {i : Nat} {d : D} {N : DS → Prop} (h : N (ds.set i (some d))) (hi : ownIn vs i = true := by rfl) : EvG K M vs (gName i) d ds N := fun M' σ G H v Q m s w r q =>
  q _ _ G H h (Same.refl G) (s.set i r) w fun l e ρ e2 => by
    subst e
    rw [wipe_set_in (List.contains_iff_mem.mp hi)]; exact e2
def EvGs (K : PySem.W.Frag) (M : Mt) (vs : Option (List Nat)) (g : TGs) (es : List D) (ds : DS) (N : DS → Prop) : Prop := ∀ (M' : Mt) (σ : L2.St) (G H : Hp) (xs : List V) (Q : L2.St → Hp → Prop), MSub M M' → Sg K G σ ds → Wd M' G H → RpAll K G xs es →
  (∀ ds' σ' G' H', N ds' → Same G G' → Sg K G' σ' ds' → Wd M' G' H' → (∀ l, vs = some l → ∀ ρ : L2.St, wipe σ l = wipe ρ l → wipe σ' l = wipe ρ l) → Q σ' H') → g xs σ H Q
theorem Rp.tupAt {H : Hp} {G : Hp} {v : V} {es : List D} (h : Rp K G v (.tup es)) (s : Same G H) : ∃ a xs, v = .ref a ∧ SqT K H a xs ∧ RpAll K G xs es := by
  obtain ⟨a, xs, e, h1, h2⟩ := h.tup_inv
  exact ⟨a, xs, e, same_t s h1, h2⟩
theorem eg_tup {vs : Option (List Nat)} {n : Nat} {g : TGs} {es : List D} {N : DS → Prop} (h : EvGs K M vs g es ds N) (hn : es.length = n := by rfl) : EvG K M vs (gTup K n g) (.tup es) ds N := fun M' σ G H v Q m s w r q => by
  obtain ⟨a, xs, e, h1, h2⟩ := r.tupAt w.sub
  exact ⟨a, xs, e, h1, by rw [h2.length, hn], h M' σ G H xs Q m s w h2 q⟩
theorem egs_nil {vs : Option (List Nat)} {N : DS → Prop} (h : N ds) : EvGs K M vs gNil [] ds N := fun M' σ G H xs Q m s w r q => by
  cases r
  exact ⟨rfl, q ds σ G H h (Same.refl G) s w fun _ _ _ e => e⟩
theorem egs_cons {vs : Option (List Nat)} {i : Nat} {g : TGs} {d : D} {es : List D} {N : DS → Prop} (h : EvGs K M vs g es (ds.set i (some d)) N) (hi : ownIn vs i = true := by rfl) : EvGs K M vs (gCons (gName i) g) (d :: es) ds N := fun M' σ G H xs Q m s w r q => by
  cases r with
  | cons p r =>
    refine ⟨_, _, rfl, ?_⟩
    refine h M' _ G H _ Q m (s.set i p) w r fun ds' σ' G' H' a b c d' f => q ds' σ' G' H' a b c d' fun l e ρ e2 => f l e ρ ?_
    subst e
    rw [wipe_set_in (List.contains_iff_mem.mp hi)]; exact e2
/-! ### what is walked -/
structure WalkD (K : PySem.W.Frag) (G : Hp) (J : It) (es : List D) : Prop where
  goes : ∀ i H G' M', i < es.length → Same G G' → Wd M' G' H → J.go i H
  stops : ∀ H G' M', Same G G' → Wd M' G' H → J.stop es.length H
  yields : ∀ i H x H' G' M', i < es.length → Same G G' → Wd M' G' H → J.yld i H x H' → ∃ G2 d, Same G' G2 ∧ Wd M' G2 H' ∧ es[i]? = some d ∧ Rp K G2 x d
def EvI (K : PySem.W.Frag) (M : Mt) (ds : DS) (wi : TI) (R : List D → Prop) : Prop := ∀ (M' : Mt) (σ : L2.St) (G H : Hp) (Z : It → Hp → Prop), MSub M M' → Sg K G σ ds → Wd M' G H →
  (∀ J es G' H', Same G G' → Wd M' G' H' → R es → WalkD K G' J es → Z J H') → wi σ H Z
theorem wd_list {G : Hp} {a : Addr} {xs : List V} {es : List D} (h : SqL K G a xs) (r : RpAll K G xs es) : WalkD K G (Itl K a) es := by
  have hl := r.length
  refine ⟨fun i H G' M' hi s w => ⟨xs, xs[i]'(by omega), w.sub.seq (s.seq h), by simp [show i < xs.length by omega]⟩, fun H G' M' s w => ⟨xs, w.sub.seq (s.seq h), by omega⟩, fun i H x H' G' M' hi s w y => ?_⟩
  obtain ⟨rfl, y⟩ := y
  obtain ⟨d, e, rd⟩ := (r.mono s).getV (y xs (w.sub.seq (s.seq h)))
  exact ⟨G', d, Same.refl _, w, e, rd⟩
theorem wd_tup {G : Hp} {a : Addr} {xs : List V} {es : List D} (h : SqT K G a xs) (r : RpAll K G xs es) : WalkD K G (Itt K a) es := by
  have hl := r.length
  refine ⟨fun i H G' M' hi s w => ⟨xs, xs[i]'(by omega), same_t w.sub (same_t s h), by simp [show i < xs.length by omega]⟩, fun H G' M' s w => ⟨xs, same_t w.sub (same_t s h), by omega⟩, fun i H x H' G' M' hi s w y => ?_⟩
  obtain ⟨rfl, y⟩ := y
  obtain ⟨d, e, rd⟩ := (r.mono s).getV (y xs (same_t w.sub (same_t s h)))
  exact ⟨G', d, Same.refl _, w, e, rd⟩
def rangeD (lo : Int) (n : Nat) : List D := (List.range n).map fun (i : Nat) => D.int (lo + i)
theorem wd_range {G : Hp} {lo : Int} {n : Nat} : WalkD K G (Itr lo n) (rangeD lo n) := by
  have hl : (rangeD lo n).length = n := by simp [rangeD]
  refine ⟨fun i H G' M' hi s w => by rw [hl] at hi; exact hi, fun H G' M' s w => by rw [hl]; exact Nat.le_refl _, fun i H x H' G' M' hi s w y => ?_⟩
  obtain ⟨rfl, rfl⟩ := y
  rw [hl] at hi
  exact ⟨G', .int (lo + i), Same.refl _, w, by simp [rangeD, hi], .int _⟩
/-- the signs of a text -/
def signsD (x : Str) : List D := x.cps.toList.map fun c => D.str ⟨#[c]⟩
theorem wd_str {G : Hp} {x : Str} : WalkD K G (Its x) (signsD x) := by
  have hl : (signsD x).length = x.cps.size := by simp [signsD]
  refine ⟨fun i H G' M' hi s w => by rw [hl] at hi; exact hi, fun H G' M' s w => by rw [hl]; exact Nat.le_refl _, fun i H v H' G' M' hi s w y => ?_⟩
  obtain ⟨rfl, c, hc, rfl⟩ := y
  refine ⟨G', .str ⟨#[c]⟩, Same.refl _, w, ?_, .str _⟩
  unfold signsD
  rw [List.getElem?_map, Array.getElem?_toList, hc]
  rfl
/-- the items of what is walked -/
def itemsD : D → Option (List D)
  | .list xs => some xs
  | .tup xs => some xs
  | .str x => some (signsD x)
  | .seq xs => some xs
  | _ => none
def iAny (K : PySem.W.Frag) (te : TE) : TI := fun σ H Z => te σ H fun v H1 => (∃ a, v = .ref a ∧ (∃ xs, SqL K H1 a xs) ∧ Z (Itl K a) H1) ∨ (∃ a, v = .ref a ∧ (∃ xs, SqT K H1 a xs) ∧ Z (Itt K a) H1) ∨ ∃ x, v = .str x ∧ Z (Its x) H1
theorem pi_any {X : Cx} {tg e : Expr} {te : TE} (he : PE X e te) : PI X tg e (iAny X.K te) := by
  refine ⟨fun pins s σ H Z J h => ?_⟩
  refine thn (he.run pins s σ H _ J h) fun v s2 ⟨x, H2, J2, rx, qx⟩ => ?_
  rcases qx with ⟨a, rfl, ⟨xs, hx⟩, q⟩ | ⟨a, rfl, ⟨xs, hx⟩, q⟩ | ⟨z, rfl, q⟩
  · cases rx
    obtain ⟨us, _, pl, _⟩ := J2.list hx
    exact wpAny_pyIter_list pl.isList (pi_one (tk := s2.toks) J2 _ (turn_list a _) ⟨_, Heap.get?_push_size _ rfl, rfl, rfl⟩ q)
  · cases rx
    obtain ⟨us, _, pl, _⟩ := J2.tuple hx
    exact wpAny_pyIter_tuple (show s2.heap.IsTuple a us.toArray from pl) (pi_one (tk := s2.toks) J2 _ (turn_tuple a _) ⟨_, Heap.get?_push_size _ rfl, rfl, rfl⟩ q)
  · obtain ⟨tz, rfl⟩ := rx
    cases hw : z.cps.all (· < 128)
    · exact wpAny_pyIter_wide hw (pi_one (tk := s2.toks) J2 _ (turn_str _ z tz "str_iterator" (.inr rfl)) ⟨_, Heap.get?_push_size _ rfl, rfl, rfl⟩ q)
    · exact wpAny_pyIter_ascii hw (pi_one (tk := s2.toks) J2 _ (turn_str _ z tz "str_ascii_iterator" (.inl rfl)) ⟨_, Heap.get?_push_size _ rfl, rfl, rfl⟩ q)
theorem ei_any {d : D} {es : List D} (h : Ev K M ds te (· = d)) (hi : itemsD d = some es) : EvI K M ds (iAny K te) (· = es) := fun M' σ G H Z m s w q =>
  h M' σ G H _ m s w fun v d' G1 H1 s1 w1 r1 e => by
    subst e
    cases r1 with
    | lst hx r => cases hi; exact .inl ⟨_, rfl, ⟨_, w1.sub.seq (sq hx)⟩, q _ _ G1 H1 s1 w1 rfl (wd_list (sq hx) r)⟩
    | tup hx r => cases hi; exact .inr (.inl ⟨_, rfl, ⟨_, same_t w1.sub hx⟩, q _ _ G1 H1 s1 w1 rfl (wd_tup hx r)⟩)
    | str x => cases hi; exact .inr (.inr ⟨_, rfl, q _ _ G1 H1 s1 w1 rfl wd_str⟩)
    | seq hx r => cases hi; exact .inl ⟨_, rfl, ⟨_, w1.sub.seq hx⟩, q _ _ G1 H1 s1 w1 rfl (wd_list hx r)⟩
    | _ => cases hi
theorem ei_anyR (h : Ev K M ds te R) {RI : List D → Prop} (hi : ∀ d, R d → ∃ es, itemsD d = some es ∧ RI es) : EvI K M ds (iAny K te) RI := fun M' σ G H Z m s w q =>
  h M' σ G H _ m s w fun v d' G1 H1 s1 w1 r1 e => by
    obtain ⟨es, hi, hes⟩ := hi d' e
    cases r1 with
    | lst hx r => cases hi; exact .inl ⟨_, rfl, ⟨_, w1.sub.seq (sq hx)⟩, q _ _ G1 H1 s1 w1 hes (wd_list (sq hx) r)⟩
    | tup hx r => cases hi; exact .inr (.inl ⟨_, rfl, ⟨_, same_t w1.sub hx⟩, q _ _ G1 H1 s1 w1 hes (wd_tup hx r)⟩)
    | str x => cases hi; exact .inr (.inr ⟨_, rfl, q _ _ G1 H1 s1 w1 hes wd_str⟩)
    | seq hx r => cases hi; exact .inl ⟨_, rfl, ⟨_, w1.sub.seq hx⟩, q _ _ G1 H1 s1 w1 hes (wd_list hx r)⟩
    | _ => cases hi
theorem ei_range1 {ta : TA} {RA : List D → Prop} (h : EvA K M ds ta RA) (hb : ∀ l, RA l → ∃ j : Int, l = [.int j] ∧ -(2 ^ 62) ≤ j ∧ j < 2 ^ 62) : EvI K M ds (iRng1 ta) (fun es => ∃ j : Int, RA [.int j] ∧ es = rangeD 0 j.toNat) := fun M' σ G H Z m s w q =>
  h M' σ G H _ m s w fun vs l G1 H1 s1 w1 r1 e => by
    obtain ⟨j, rfl, h1, h2⟩ := hb l e
    cases r1 with
    | cons p r =>
      cases r
      exact ⟨j, by rw [p.int_inv], h1, h2, q _ _ G1 H1 s1 w1 ⟨j, e, rfl⟩ wd_range⟩
theorem ei_range2 {ta : TA} {RA : List D → Prop} (h : EvA K M ds ta RA) (hb : ∀ l, RA l → ∃ i j : Int, l = [.int i, .int j] ∧ (-(2 ^ 62) ≤ i ∧ i < 2 ^ 62 ∧ -(2 ^ 62) ≤ j ∧ j < 2 ^ 62)) :
    EvI K M ds (iRng2 ta) (fun es => ∃ i j : Int, RA [.int i, .int j] ∧ es = rangeD i (j - i).toNat) := fun M' σ G H Z m s w q =>
  h M' σ G H _ m s w fun vs l G1 H1 s1 w1 r1 e => by
    obtain ⟨i, j, rfl, hb⟩ := hb l e
    cases r1 with
    | cons p r =>
      cases r with
      | cons p2 r =>
        cases r
        exact ⟨i, j, by rw [p.int_inv, p2.int_inv], hb, q _ _ G1 H1 s1 w1 ⟨i, j, e, rfl⟩ wd_range⟩
/-- zip of two lists or two tuples -/
def zipD (xs ys : List D) : List D := (xs.zip ys).map fun p => D.tup [p.1, p.2]
theorem zipD_get {xs ys : List D} {i : Nat} {x y : D} (hx : xs[i]? = some x) (hy : ys[i]? = some y) : (zipD xs ys)[i]? = some (.tup [x, y]) := by
  have hz : (xs.zip ys)[i]? = some (x, y) := List.getElem?_zip_eq_some.mpr ⟨hx, hy⟩
  unfold zipD
  rw [List.getElem?_map, hz]
  rfl
theorem wd_zipL {G : Hp} {a b : Addr} {xs ys : List V} {es fs : List D} (h : SqL K G a xs) (r : RpAll K G xs es) (h' : SqL K G b ys) (r' : RpAll K G ys fs) : WalkD K G (Itz K a b) (zipD es fs) := by
  have hl := r.length
  have hl' := r'.length
  have hz : (zipD es fs).length = min es.length fs.length := by simp [zipD]
  refine ⟨fun i H G' M' hi s w => ?_, fun H G' M' s w => ⟨xs, ys, w.sub.seq (s.seq h), w.sub.seq (s.seq h'), by omega⟩, fun i H x H' G' M' hi s w y => ?_⟩
  · exact ⟨xs, ys, xs[i]'(by omega), ys[i]'(by omega), w.sub.seq (s.seq h), w.sub.seq (s.seq h'), by simp [show i < xs.length by omega], by simp [show i < ys.length by omega]⟩
  · obtain ⟨T, v1, v2, rfl, nT, rfl, f1, f2⟩ := y
    obtain ⟨d1, e1, p1⟩ := (r.mono s).getV (f1 xs (w.sub.seq (s.seq h)))
    obtain ⟨d2, e2, p2⟩ := (r'.mono s).getV (f2 ys (w.sub.seq (s.seq h')))
    have sn := same_new (o := HO.tup [v1, v2]) (w.free nT)
    exact ⟨upd G' T (.tup [v1, v2]), .tup [d1, d2], sn, w.new nT, zipD_get e1 e2, .tup (.inl (.inl upd_same)) (.cons (p1.mono sn) (.cons (p2.mono sn) .nil))⟩
theorem wd_zipT {G : Hp} {a b : Addr} {xs ys : List V} {es fs : List D} (h : SqT K G a xs) (r : RpAll K G xs es) (h' : SqT K G b ys) (r' : RpAll K G ys fs) : WalkD K G (ItzT K a b) (zipD es fs) := by
  have hl := r.length
  have hl' := r'.length
  have hz : (zipD es fs).length = min es.length fs.length := by simp [zipD]
  refine ⟨fun i H G' M' hi s w => ?_, fun H G' M' s w => ⟨xs, ys, same_t w.sub (same_t s h), same_t w.sub (same_t s h'), by omega⟩, fun i H x H' G' M' hi s w y => ?_⟩
  · exact ⟨xs, ys, xs[i]'(by omega), ys[i]'(by omega), same_t w.sub (same_t s h), same_t w.sub (same_t s h'), by simp [show i < xs.length by omega], by simp [show i < ys.length by omega]⟩
  · obtain ⟨T, v1, v2, rfl, nT, rfl, f1, f2⟩ := y
    obtain ⟨d1, e1, p1⟩ := (r.mono s).getV (f1 xs (same_t w.sub (same_t s h)))
    obtain ⟨d2, e2, p2⟩ := (r'.mono s).getV (f2 ys (same_t w.sub (same_t s h')))
    have sn := same_new (o := HO.tup [v1, v2]) (w.free nT)
    exact ⟨upd G' T (.tup [v1, v2]), .tup [d1, d2], sn, w.new nT, zipD_get e1 e2, .tup (.inl (.inl upd_same)) (.cons (p1.mono sn) (.cons (p2.mono sn) .nil))⟩
theorem ei_zip {ta : TA} {x y : D} {es fs : List D} (h : EvA K M ds ta (· = [x, y])) (hxy : (x = .list es ∧ y = .list fs) ∨ (x = .tup es ∧ y = .tup fs)) : EvI K M ds (iZipA K ta) (· = zipD es fs) := fun M' σ G H Z m s w q =>
  h M' σ G H _ m s w fun vs l G1 H1 s1 w1 r1 e => by
    subst e
    cases r1 with
    | cons p r =>
      cases r with
      | cons p2 r =>
        cases r
        rcases hxy with ⟨rfl, rfl⟩ | ⟨rfl, rfl⟩
        · obtain ⟨a, xs, rfl, ha, ra⟩ := p.list_inv
          obtain ⟨b, ys, rfl, hb, rb⟩ := p2.list_inv
          exact ⟨a, b, xs, ys, rfl, .inl ⟨w1.sub.seq ha, w1.sub.seq hb, q _ _ G1 H1 s1 w1 rfl (wd_zipL ha ra hb rb)⟩⟩
        · obtain ⟨a, xs, rfl, ha, ra⟩ := p.tup_inv
          obtain ⟨b, ys, rfl, hb, rb⟩ := p2.tup_inv
          exact ⟨a, b, xs, ys, rfl, .inr ⟨same_t w1.sub ha, same_t w1.sub hb, q _ _ G1 H1 s1 w1 rfl (wd_zipT ha ra hb rb)⟩⟩
/-! ### for -/
theorem run_for {wi : TI} {g : TG} {tb : TS} {RI : List D → Prop} (hI : EvI K M ds wi RI) (h : ∀ es, RI es → ∃ Pv : Nat → DS → Prop, Pv 0 ds ∧
      (∀ i d ds', es[i]? = some d → Pv i ds' → EvG K M none g d ds' (fun ds2 => Run K M ds2 tb { nx := Pv (i + 1), ct := Pv (i + 1), bk := E.nx, rt := E.rt })) ∧ ∀ ds', Pv es.length ds' → E.nx ds') : Run K M ds (tFor wi g tb) E := fun M' σ G H Z m s w z =>
  hI M' σ G H _ m s w fun J es G1 H1 s1 w1 hes W => by
    obtain ⟨Pv, h0, hs, hd⟩ := h es hes
    refine for_it (n := es.length) (G := fun H => ∃ G2, Same G1 G2 ∧ Wd M' G2 H) (Y := fun i H x H' => J.yld i H x H') ⟨fun i H hi ⟨G2, s2, w2⟩ => W.goes i H G2 M' hi s2 w2, fun H ⟨G2, s2, w2⟩ => W.stops H G2 M' s2 w2, fun i H x H' _ _ y => y⟩
      (fun i σ' H' => ∃ ds' G2, Pv i ds' ∧ Same G1 G2 ∧ Sg K G2 σ' ds' ∧ Wd M' G2 H') ⟨ds, G1, h0, Same.refl _, s.mono s1, w1⟩ (fun i σ' H' _ ⟨_, G2, _, s2, _, w2⟩ => ⟨G2, s2, w2⟩) (fun i x σ' H2 H3 hi ⟨ds', G2, hp, s2, sg, w2⟩ y => ?_)
      (fun σ' H' ⟨ds', G2, hp, s2, sg, w2⟩ => z.nx ds' σ' G2 H' (hd ds' hp) (s1.trans s2) sg w2)
    obtain ⟨G3, d, s3, w3, hd', rd⟩ := W.yields i H2 x H3 G2 M' hi s2 w2 y
    refine hs i d ds' hd' hp M' σ' G3 H3 x _ m (sg.mono s3) w3 rd fun ds2 σ2 G4 H4 hr s4 sg4 w4 _ => ?_
    have s14 := (s2.trans s3).trans s4
    exact hr M' σ2 G4 H4 _ m sg4 w4 ⟨fun ds5 σ5 G5 H5 r5 s5 sg5 w5 => ⟨ds5, G5, r5, s14.trans s5, sg5, w5⟩, fun v d G5 H5 r5 s5 rp5 w5 => z.rt v d G5 H5 r5 (s1.trans (s14.trans s5)) rp5 w5,
      fun ds5 σ5 G5 H5 r5 s5 sg5 w5 => z.nx ds5 σ5 G5 H5 r5 (s1.trans (s14.trans s5)) sg5 w5, fun ds5 σ5 G5 H5 r5 s5 sg5 w5 => ⟨ds5, G5, r5, s14.trans s5, sg5, w5⟩⟩
/-! ### comprehensions -/
def wipeD (ds : DS) : List Nat → DS
  | [] => ds
  | v :: vs => (wipeD ds vs).set v none
theorem Sg.wipe {G : Hp} {σ : L2.St} (s : Sg K G σ ds) : ∀ vs : List Nat, Sg K G (wipe σ vs) (wipeD ds vs)
  | [] => s
  | v :: vs => (Sg.wipe s vs).drop
theorem Wd.put {G H : Hp} {p : Addr} {o : HO} {φ ψ : Hp → HO → Prop} (w : Wd (M.cons (p, φ)) G H) (f : ψ G o) (mo : ∀ G1 G2 o, Same G1 G2 → ψ G1 o → ψ G2 o) : Wd (M.cons (p, ψ)) G (upd H p o) := by
  have nd := w.nd
  rw [List.map_cons, List.nodup_cons] at nd
  refine ⟨⟨fun a u e => ?_, fun m hm => ?_, fun m hm => ?_, w.nd⟩, w.xk⟩
  · have ne : a ≠ p := fun z => by
      have := (w.mt _ List.mem_cons_self).1
      rw [z] at e; rw [e] at this; cases this
    rw [upd_ne ne]; exact w.sub a u e
  · rcases List.mem_cons.mp hm with rfl | hm
    · exact ⟨(w.mt _ List.mem_cons_self).1, o, upd_same, f⟩
    · have ne : m.1 ≠ p := fun z => nd.1 (List.mem_map.mpr ⟨m, hm, z⟩)
      obtain ⟨g, u, hu, f'⟩ := w.mt m (List.mem_cons_of_mem _ hm)
      exact ⟨g, u, by rw [upd_ne ne]; exact hu, f'⟩
  · rcases List.mem_cons.mp hm with rfl | hm
    · exact mo
    · exact w.mono m (List.mem_cons_of_mem _ hm)
def isL (xs : List V) : Hp → HO → Prop := fun _ o => o = .lst xs
theorem ev_lc {wi : TI} {g : TG} {tt : TT} {vs : List Nat} {RI : List D → Prop} (hI : EvI K M ds wi RI) (h : ∀ es, RI es → es.length ≤ 100000 ∧ ∃ Pv : Nat → List D → Prop, Pv 0 [] ∧
      (∀ i d acc, es[i]? = some d → acc.length ≤ i → Pv i acc → EvG K M (some vs) g d (wipeD ds vs) (fun ds2 => ∃ RT : Bool → Prop, EvT K M ds2 tt RT ∧ (RT true → Ev K M ds2 te (fun y => Pv (i + 1) (acc ++ [y]))) ∧ (RT false → Pv (i + 1) acc))) ∧
      ∀ acc, acc.length ≤ es.length → Pv es.length acc → R (.list acc)) : Ev K M ds (tLc wi g tt te vs) R := fun M' σ G H Q m s w q =>
  hI M' σ G H _ m s w fun J es G1 H1 s1 w1 hes W D hD => by
    obtain ⟨hl, Pv, h0, hs, hd⟩ := h es hes
    have mo : ∀ xs : List V, ∀ (G1 G2 : Hp) (o : HO), Same G1 G2 → isL xs G1 o → isL xs G2 o := fun _ _ _ _ _ e => e
    refine lc_it (n := es.length) (G := fun H => ∃ G2 M2, Same G1 G2 ∧ Wd M2 G2 H) (Y := fun i H x H' => J.yld i H x H') ⟨fun i H hi ⟨G2, M2, s2, w2⟩ => W.goes i H G2 M2 hi s2 w2, fun H ⟨G2, M2, s2, w2⟩ => W.stops H G2 M2 s2 w2, fun i H x H' _ _ y => y⟩
      (fun i H' => ∃ G2 xs acc, Same G1 G2 ∧ Wd (M'.cons (D, isL xs)) G2 H' ∧ RpAll K G2 xs acc ∧ Pv i acc ∧ acc.length ≤ i) ⟨G1, [], [], Same.refl _, w1.newM hD rfl (mo []), .nil, h0, Nat.le_refl _⟩
      (fun i H' _ ⟨G2, xs, acc, s2, w2, _⟩ => ⟨G2, _, s2, w2⟩) (fun i x H2 H3 hi ⟨G2, xs, acc, s2, w2, ra, hp, hla⟩ y => ?_) (fun H' ⟨G2, xs, acc, s2, w2, ra, hp, hla⟩ => ?_)
    · obtain ⟨G3, d, s3, w3, hd', rd⟩ := W.yields i H2 x H3 G2 _ hi s2 w2 y
      refine hs i d acc hd' hla hp _ (wipe σ vs) G3 H3 x _ (MSub.cons m) ((s.mono ((s1.trans s2).trans s3)).wipe vs) w3 rd fun ds2 σ2 G4 H4 ⟨RT, hT, hE, hN⟩ s4 sg4 w4 hw => ?_
      refine ⟨?_, ?_⟩
      · have e := hw vs rfl (wipe σ vs) rfl
        have e2 : wipe (wipe σ vs) vs = wipe σ vs := wipe_wipe σ vs
        rw [e, e2]
      · refine hT _ σ2 G4 H4 _ (MSub.cons m) sg4 w4 fun b G5 H5 s5 w5 hb => ?_
        cases b with
        | true =>
          rw [if_pos rfl]
          refine hE hb _ σ2 G5 H5 _ (MSub.cons m) (sg4.mono s5) w5 fun v d6 G6 H6 s6 w6 r6 p6 => ?_
          obtain ⟨_, o, ho, eo⟩ := w6.mt _ List.mem_cons_self
          have eo : o = .lst xs := eo
          subst eo
          have s26 := ((s3.trans s4).trans s5).trans s6
          refine ⟨xs, ho, ?_, G6, xs ++ [v], acc ++ [d6], s2.trans s26, w6.put rfl (mo _), (ra.mono s26).append (.cons r6 .nil), p6, ?_⟩
          · have := ra.length
            exact Nat.lt_of_le_of_lt (show xs.length ≤ 100000 by omega) (by decide)
          · simp only [List.length_append, List.length_singleton]; omega
        | false =>
          rw [if_neg Bool.false_ne_true]
          exact ⟨G5, xs, acc, s2.trans ((s3.trans s4).trans s5), w5, ra.mono ((s3.trans s4).trans s5), hN hb, Nat.le_succ_of_le hla⟩
    · obtain ⟨g0, o, ho, eo⟩ := w2.mt _ List.mem_cons_self
      have eo : o = .lst xs := eo
      subst eo
      have sn := same_new (o := HO.lst xs) g0
      exact q (.ref D) (.list acc) (upd G2 D (.lst xs)) H' ((s1.trans s2).trans sn) (w2.freeze ho) (.lst upd_same (ra.mono sn)) (hd acc hla hp)
end
end Rg
namespace Rg
open PySem L2 RZ PyProof.Rows
/-! ### a def's promise, told of the data -/
/-- pre: what it asks of what changes and of the arguments; post: what it gives; px: what it may raise -/
def spX (K : PySem.W.Frag) (pre : Ml → List D → Prop) (post px : List D → D → Prop) : Sp := fun vs H Q E => ∃ M G as, Wd0 M G H ∧ RpAll K G vs as ∧ pre M as ∧ (∀ v d G' H', Same G G' → Wd0 M G' H' → Rp K G' v d → post as d → Q v H') ∧
  ∀ c dx x G' H', Same G G' → Wd0 M G' H' → XRp K G' c dx x → px as x → E c dx H'
abbrev spF (K : PySem.W.Frag) (pre : Ml → List D → Prop) (post : List D → D → Prop) : Sp := spX K pre post fun _ _ => False
/-- M in the body of a def that may raise px -/
abbrev mfn (K : PySem.W.Frag) (M : Ml) (E : XK) (px : D → Prop) : Mt := { l := M, b := M, sub := List.Sublist.refl _, ex := fun G _ c d => ∃ x, px x ∧ XRp K G c d x, W := fun c d _ H => E c d H }
theorem exk_fn {K : PySem.W.Frag} {M : Ml} {E : XK} {px : D → Prop} {x : D} {ds : DS} (h : px x) : Exk K (mfn K M E px) x ds := fun _ _ _ _ hx _ => ⟨x, h, hx⟩
section
variable {P : Program} {w : World} {K : PySem.W.Frag} {mg : Str → Option Value} {base : Heap} {pre : Ml → List D → Prop} {post px : List D → D → Prop}
theorem spX_run {N : List Str} {t : TS} {vs : List V} {H : Hp} {Q : VK} {E : XK} (hrun : ∀ M as, pre M as → Run K (mfn K M E (px as)) (as.map some ++ List.replicate (N.length - as.length) none) t { nx := fun _ => post as .non, rt := post as }) (h : spX K pre post px vs H Q E) :
    t { nx := fun _ H' => Q .non H', rt := Q } (start N vs) H := by
  obtain ⟨M, G, as, wd, r, hp, q, qx⟩ := h
  exact hrun M as hp _ _ G H _ (MSub.refl _) (Sg.start r) ⟨wd, fun c d σ' G' H' ⟨x, px, hx⟩ s' w' => qx c d x G' H' s' w' hx px⟩ ⟨fun ds' σ' G' H' e s' _ w' => q _ _ G' H' s' w'.toWd0 .non e, fun v d G' H' e s' r' w' => q v d G' H' s' w'.toWd0 r' e, fun _ _ _ _ e => e.elim, fun _ _ _ _ e => e.elim⟩
theorem spX_len {vs : List V} {H : Hp} {Q : VK} {E : XK} {n : Nat} (hl : ∀ M as, pre M as → as.length = n) (h : spX K pre post px vs H Q E) : vs.length = n := by
  obtain ⟨M, G, as, _, r, hp, _⟩ := h
  rw [r.length]
  exact hl M as hp
theorem fn_run {x qual : Str} {st : Stmt} {f : Addr} {fd : FuncData} {N ps : List Str} {k : Nat} (F : Fun K x qual st f fd) (S : FnScope N ps (defScope st)) (hl : ∀ M as, pre M as → as.length = ps.length)
    (body : ∀ (cdv : Value) (A : Around) (outer : List Env) (s : Shared) (H : Hp) (E : XK), Room k (A.deeper (envOfC qual (defScope st) s.heap.objs.size f cdv)) →
      ∃ t, PSs (cxOf CX0 P w K mg base N qual (defScope st) f cdv A outer s H E).nox (defBody st) t ∧
        ∀ (M : Mt) as, pre M.l as → Run K M (as.map some ++ List.replicate (N.length - as.length) none) t { nx := fun _ => post as .non, rt := post as }) : FnOk P w K mg base CX0 (k + 1) f fd ps (spF K pre post) := by
  refine F.ok S (fun vs H Q E h => spX_len hl h) (fun cdv A outer s H vs Q E hr h => ?_)
  obtain ⟨t, ht, hrun⟩ := body cdv A outer s H E hr
  exact ⟨t, ht, spX_run (fun M as hp => hrun _ as hp) h⟩
/-- a def that may raise -/
theorem fn_runX {x qual : Str} {st : Stmt} {f : Addr} {fd : FuncData} {N ps : List Str} {k : Nat} (F : Fun K x qual st f fd) (S : FnScope N ps (defScope st)) (hl : ∀ M as, pre M as → as.length = ps.length)
    (body : ∀ (X : Cx) (cdv : Value) (A : Around) (outer : List Env) (s : Shared) (H : Hp) (E : XK), X = cxOf (L2.CX P w) P w K mg base N qual (defScope st) f cdv A outer s H E → Room k (A.deeper (envOfC qual (defScope st) s.heap.objs.size f cdv)) → Takes X (fun c d _ H => E c d H) →
      ∃ t, PSs (cxOf (L2.CX P w) P w K mg base N qual (defScope st) f cdv A outer s H E) (defBody st) t ∧
        ∀ (M : Ml) as, pre M as → Run K (mfn K M E (px as)) (as.map some ++ List.replicate (N.length - as.length) none) t { nx := fun _ => post as .non, rt := post as }) : FnOk P w K mg base (L2.CX P w) (k + 1) f fd ps (spX K pre post px) := by
  refine F.okX S (fun vs H Q E h => spX_len hl h) (fun cdv A outer s H vs Q E hr h => ?_)
  obtain ⟨t, ht, hrun⟩ := body _ cdv A outer s H E rfl hr (takes_of (X := cxOf (L2.CX P w) P w K mg base N qual (defScope st) f cdv A outer s H E) rfl rfl rfl rfl)
  exact ⟨t, ht, spX_run hrun h⟩
end
section
variable {K : PySem.W.Frag} {M M1 : Mt} {ds : DS} {te ta tb tc : TE} {t u : TT} {R R' : D → Prop} {RT RT' : Bool → Prop} {pre : Ml → List D → Prop} {post px : List D → D → Prop}
theorem ev_callD {ta : TA} {RA : List D → Prop} {dvs : List V} {dd : List D} {E : XK} (ha : EvA K M ds ta RA) (hd : ∀ G, RpAll K G dvs dd) (h : ∀ as, RA as → (∀ M', MSub M M' → pre M'.l (as ++ dd)) ∧ ∀ d, post (as ++ dd) d → R d) :
    Ev K M ds (tCall (spF K pre post) dvs E ta) R := fun M' σ G H Q m s w q =>
  ha M' σ G H _ m s w fun vs as G1 H1 s1 w1 r1 e => ⟨M'.l, G1, as ++ dd, w1.toWd0, r1.append (hd G1), (h as e).1 M' m, fun v d G2 H2 s2 w2 r2 p2 => q v d G2 H2 (s1.trans s2) (w1.to s2 w2) r2 ((h as e).2 d p2), fun _ _ _ _ _ _ _ _ z => z.elim⟩
theorem ev_call {ta : TA} {RA : List D → Prop} {E : XK} (ha : EvA K M ds ta RA) (h : ∀ as, RA as → (∀ M', MSub M M' → pre M'.l as) ∧ ∀ d, post as d → R d) :
    Ev K M ds (tCall (spF K pre post) [] E ta) R := ev_callD ha (fun _ => .nil) fun as e => by rw [List.append_nil]; exact h as e
theorem ev_call1 {ta : TA} {as : List D} {E : XK} (ha : EvA K M ds ta (· = as)) (h : ∀ M', MSub M M' → pre M'.l as) : Ev K M ds (tCall (spF K pre post) [] E ta) (post as) :=
  ev_call ha fun _ e => by rw [e]; exact ⟨h, fun _ q => q⟩
theorem ev_callK {ta tk : TA} {RA RK : List D → Prop} {E : XK} {gV : List V → List V → List V} {gD : List D → List D → List D} (ha : EvA K M ds ta RA) (hk : EvA K M ds tk RK)
    (hg : ∀ G vs zs as ks, RA as → RK ks → RpAll K G vs as → RpAll K G zs ks → RpAll K G (gV vs zs) (gD as ks)) (h : ∀ as ks, RA as → RK ks → (∀ M', MSub M M' → pre M'.l (gD as ks)) ∧ ∀ d, post (gD as ks) d → R d) :
    Ev K M ds (tCallK (spF K pre post) gV E ta tk) R := fun M' σ G H Q m s w q =>
  ha M' σ G H _ m s w fun vs as G1 H1 s1 w1 r1 e => hk M' σ G1 H1 _ m (s.mono s1) w1 fun zs ks G2 H2 s2 w2 r2 e2 =>
    ⟨M'.l, G2, gD as ks, w2.toWd0, hg G2 vs zs as ks e e2 (r1.mono s2) r2, (h as ks e e2).1 M' m, fun v d G3 H3 s3 w3 r3 p3 => q v d G3 H3 ((s1.trans s2).trans s3) (w2.to s3 w3) r3 ((h as ks e e2).2 d p3), fun _ _ _ _ _ _ _ _ z => z.elim⟩
/-- an exception is let on -/
theorem Wd.toW {M' : Mt} {W : WX} {G G1 H1 : Hp} {H : Hp} {σ : L2.St} {c : Value} {dx : Option Addr} {x : D} (w : Wd M' G H) (m : MSub M M') (hW : M.W = W) (s1 : Same G G1) (w1 : Wd0 M'.l G1 H1) (sg : Sg K G1 σ ds) (hx : XRp K G1 c dx x) (k : Exk K M x ds) : W c dx σ H1 := by
  have z := (w.to s1 w1).take (cls := c) (d := dx) (σ := σ) (by rw [m.ex]; exact k G1 σ c dx hx sg)
  rw [m.W, hW] at z
  exact z
/-- a call that may raise -/
theorem ev_callX {ta : TA} {RA : List D → Prop} {W : WX} (hW : M.W = W) (ha : EvA K M ds ta RA) (h : ∀ as, RA as → (∀ M', MSub M M' → pre M'.l as) ∧ (∀ d, post as d → R d) ∧ ∀ x, px as x → Exk K M x ds) :
    Ev K M ds (tCallS (spX K pre post px) (WE W) ta) R := fun M' σ G H Q m s w q =>
  ha M' σ G H _ m s w fun vs as G1 H1 s1 w1 r1 e => ⟨M'.l, G1, as, w1.toWd0, r1, (h as e).1 M' m, fun v d G2 H2 s2 w2 r2 p2 => q v d G2 H2 (s1.trans s2) (w1.to s2 w2) r2 ((h as e).2.1 d p2),
    fun c dx x G2 H2 s2 w2 hx p => w1.toW m hW s2 w2 (s.mono (s1.trans s2)) hx ((h as e).2.2 x p)⟩
/-! ### kinds -/
def tyD : D → Option String
  | .non => some "NoneType"
  | .bl _ => some "bool"
  | .int _ => some "int"
  | .str _ => some "str"
  | .list _ => some "list"
  | .tup _ => some "tuple"
  | _ => none
theorem ty_of {G H : Hp} {v : V} {d : D} {n : String} (h : Rp K G v d) (s : Same G H) (e : tyD d = some n) : TyX K H v (.type n) := by
  cases h with
  | non => cases e; exact .base .non
  | bl b => cases e; exact .base (.bl b)
  | int i => cases e; exact .base (.int i)
  | str x => cases e; exact .base (.str x)
  | lst h r =>
    cases e
    exact .base (.lst (s _ _ h))
  | tup h r =>
    cases e
    rcases h with (h | ⟨o, h⟩) | ⟨o, its, k, h1, h2, _⟩
    · exact .base (.tup (s _ _ h))
    · exact .fTuple (s _ _ h)
    · exact .kTuple h1 h2
  | obj _ _ => cases e
  | exc _ _ _ => cases e
  | cau _ _ => cases e
  | seq _ _ => cases e
  | raw _ => cases e
def isD (d : D) (n : String) : Option Bool := (tyD d).bind fun a => kitB a n
theorem isD_inv {d : D} {n : String} {b : Bool} (h : isD d n = some b) : ∃ a, tyD d = some a ∧ kitB a n = some b := by
  unfold isD at h
  cases e : tyD d with
  | none => rw [e] at h; cases h
  | some a => rw [e] at h; exact ⟨a, rfl, h⟩
theorem cd_isi {d : D} {n : String} {b : Bool} (h : isD d n = some b) : CallD K M (rIsi K) [d, .raw (.ty n)] (· = .bl b) := fun M' G H xs Q m r w q => by
  obtain ⟨a, e1, e2⟩ := isD_inv h
  cases r with
  | cons p r =>
    cases r with
    | cons p2 r =>
      cases r
      cases p2
      exact ⟨_, _, .type a, .type n, b, rfl, .ty n, ty_of p w.sub e1, kit_ty e2, q _ _ G H (Same.refl G) w (.bl b) rfl⟩
theorem ev_isiT2 {d : D} {n1 n2 : String} {b1 b2 : Bool} {tcs : TA} (ha : Ev K M ds ta (· = d)) (hc : EvA K M ds tcs (· = [.raw (.ty n1), .raw (.ty n2)])) (h1 : isD d n1 = some b1) (h2 : isD d n2 = some b2) :
    Ev K M ds (tCB (rIsiT K) (tCons ta (tCons (tTup tcs) tNil))) (· = .bl (b1 || b2)) := fun M' σ G H Q m s w q => by
  obtain ⟨a1, e1, e1'⟩ := isD_inv h1
  obtain ⟨a2, e2, e2'⟩ := isD_inv h2
  have ea : a1 = a2 := Option.some.inj (e1.symm.trans e2)
  subst ea
  refine ha M' σ G H _ m s w fun v d' G1 H1 s1 w1 r1 e => ?_
  subst e
  refine hc M' σ G1 H1 _ m (s.mono s1) w1 fun vs es G2 H2 s2 w2 r2 e3 => ?_
  subst e3
  cases r2 with
  | cons p r =>
    cases r with
    | cons p2 r =>
      cases r
      cases p; cases p2
      refine ⟨show 2 ≤ sizeLine by decide, fun tp hp => ?_⟩
      have sn := same_new (o := HO.tup [V.ty n1, V.ty n2]) (w2.free hp)
      have wn := w2.new (o := HO.tup [V.ty n1, V.ty n2]) hp
      refine ⟨v, tp, [.ty n1, .ty n2], .type a1, [.type n1, .type n2], b1 || b2, rfl, upd_same, .cons (.ty n1) (.cons (.ty n2) .nil), ty_of ((r1.mono s2).mono sn) wn.sub e1, ?_, q _ _ _ _ ((s1.trans s2).trans sn) wn (.bl _) rfl⟩
      refine kitAny_cons (kit_ty e1') (fun hb => kitAny_cons (kit_ty e2') (fun hb2 => ?_) fun hb2 => ?_) fun hb => ?_
      · rw [hb, hb2]; rfl
      · rw [hb, hb2]; rfl
      · rw [hb]; rfl
/-! ### sizes, items, slices -/
def lenD : D → Option Nat
  | .seq xs => some xs.length
  | .str x => if x.length ≤ 100000 then some x.length else none
  | .list xs => some xs.length
  | .tup xs => some xs.length
  | _ => none
theorem cd_len {d : D} {n : Nat} (h : lenD d = some n) : CallD K M (fun xs H Q => ∃ x n, xs = [x] ∧ LenV K x H n ∧ Q (.int (n : Nat)) H) [d] (· = .int n) := fun M' G H xs Q m r w q => by
  cases r with
  | cons p r =>
    cases r
    refine ⟨_, n, rfl, ?_, q _ _ G H (Same.refl G) w (.int _) rfl⟩
    cases p with
    | str x =>
      replace h : (if x.length ≤ 100000 then some x.length else none) = some n := h
      split at h
      · rename_i hx
        exact ⟨Nat.le_trans hx (by decide), (Option.some.inj h).symm⟩
      · cases h
    | lst hx r => exact .inl ⟨_, w.sub.seq (sq hx), by rw [r.length]; exact (Option.some.inj h).symm⟩
    | tup hx r => exact .inr ⟨_, same_t w.sub hx, by rw [r.length]; exact (Option.some.inj h).symm⟩
    | seq hx r => exact .inl ⟨_, w.sub.seq hx, by rw [r.length]; exact (Option.some.inj h).symm⟩
    | _ => cases h
/-- the item at i -/
def itemD : D → Int → Option D
  | .list xs, i => atI xs i
  | .tup xs, i => atI xs i
  | .str x, i => if x.length ≤ 100000 then (atI x.cps.toList i).map fun c => D.str ⟨#[c]⟩ else none
  | _, _ => none
theorem RpAll.atI {G : Hp} {xs : List V} {es : List D} {i : Int} {d : D} (r : RpAll K G xs es) (h : L2.atI es i = some d) : ∃ v, L2.atI xs i = some v ∧ Rp K G v d := by
  unfold L2.atI at h ⊢
  rw [r.length]
  cases e : ixN es.length i with
  | none => rw [e] at h; cases h
  | some j =>
    rw [e] at h
    obtain ⟨v, e1, r1⟩ := r.get (show es[j]? = some d from h)
    exact ⟨v, e1, r1⟩
theorem od_ix {d e : D} {i : Int} (h : itemD d i = some e) : OpD K M (rIx K) d (.int i) (· = e) := fun M' G H x y Q m rx ry w q => by
  obtain rfl := ry.int_inv
  cases rx with
  | lst hx r =>
    obtain ⟨v, e1, r1⟩ := r.atI h
    exact .inl ⟨_, _, i, v, rfl, rfl, w.sub.seq (sq hx), e1, q v e G H (Same.refl G) w r1 rfl⟩
  | tup hx r =>
    obtain ⟨v, e1, r1⟩ := r.atI h
    exact .inr (.inl ⟨_, _, i, v, rfl, rfl, same_t w.sub hx, e1, q v e G H (Same.refl G) w r1 rfl⟩)
  | str x =>
    replace h : (if x.length ≤ 100000 then (L2.atI x.cps.toList i).map fun c => D.str ⟨#[c]⟩ else none) = some e := h
    split at h
    · rename_i hx
      cases ec : L2.atI x.cps.toList i with
      | none => rw [ec] at h; cases h
      | some c =>
        rw [ec] at h
        cases h
        exact .inr (.inr ⟨x, i, c, rfl, rfl, Nat.le_trans hx (by decide), ec, q _ _ G H (Same.refl G) w (.str _) rfl⟩)
    · cases h
  | _ => cases h
def EvO (K : PySem.W.Frag) (M : Mt) (ds : DS) (to : TO) (o : Option Int) : Prop := ∀ (M' : Mt) (σ : L2.St) (G H : Hp) (Q : Option Int → Hp → Prop), MSub M M' → Sg K G σ ds → Wd M' G H → (∀ G' H', Same G G' → Wd M' G' H' → Q o H') → to σ H Q
theorem eo_none : EvO K M ds tNoPart none := fun M' σ G H Q m s w q => q G H (Same.refl G) w
theorem eo_some {i : Int} (h : Ev K M ds te (· = .int i)) : EvO K M ds (tPart te) (some i) := fun M' σ G H Q m s w q =>
  h M' σ G H _ m s w fun v d G1 H1 s1 w1 r1 e => by
    subst e
    exact ⟨i, r1.int_inv, q G1 H1 s1 w1⟩
def cutD (xs : List D) (lo hi : Option Int) : List D := (xs.drop (HT.sIx xs.length 0 lo)).take (HT.sIx xs.length xs.length hi - HT.sIx xs.length 0 lo)
theorem RpAll.cut {G : Hp} {xs : List V} {es : List D} (r : RpAll K G xs es) (lo hi : Option Int) : RpAll K G (cutV xs lo hi) (cutD es lo hi) := by
  unfold cutV cutD
  rw [r.length]
  exact (r.drop _).take _
/-- slices of texts and lists -/
def rSlU (K : PySem.W.Frag) : V → Option Int → Option Int → Hp → VK → Prop := fun x lo hi H Q => rSlS x lo hi H Q ∨ (rSlL K x lo hi H Q ∨ rSlA K x lo hi H Q)
theorem sl_any {X : Cx} : SlR X (rSlU X.K) := sl_str.or (sl_list.or sl_tupA)
theorem ev_slS {tl th : TO} {x : Str} {lo hi : Option Int} (h : Ev K M ds te (· = .str x)) (hl : EvO K M ds tl lo) (hh : EvO K M ds th hi) (hx : x.length ≤ 100000) : Ev K M ds (tSl (rSlU K) te tl th) (· = .str (cutS x lo hi)) := fun M' σ G H Q m s w q =>
  h M' σ G H _ m s w fun v d G1 H1 s1 w1 r1 e => hl M' σ G1 H1 _ m (s.mono s1) w1 fun G2 H2 s2 w2 => hh M' σ G2 H2 _ m (s.mono (s1.trans s2)) w2 fun G3 H3 s3 w3 => by
    subst e
    exact .inl ⟨x, r1.str_inv, Nat.le_trans hx (by decide), q _ _ G3 H3 ((s1.trans s2).trans s3) w3 (.str _) rfl⟩
theorem ev_slQ {tl th : TO} {xs : List D} {lo hi : Option Int} (h : Ev K M ds te (· = .seq xs)) (hl : EvO K M ds tl lo) (hh : EvO K M ds th hi) : Ev K M ds (tSl (rSlU K) te tl th) (· = .list (cutD xs lo hi)) := fun M' σ G H Q m s w q =>
  h M' σ G H _ m s w fun v d G1 H1 s1 w1 r1 e => hl M' σ G1 H1 _ m (s.mono s1) w1 fun G2 H2 s2 w2 => hh M' σ G2 H2 _ m (s.mono (s1.trans s2)) w2 fun G3 H3 s3 w3 => by
    subst e
    cases r1 with
    | @seq a us _ hx r =>
      refine .inr (.inl ⟨_, _, rfl, w3.sub.seq ((s2.trans s3).seq hx), fun p hp => ?_⟩)
      have sn := same_new (o := HO.lst (cutV us lo hi)) (w3.free hp)
      exact q (.ref p) _ _ _ (((s1.trans s2).trans s3).trans sn) (w3.new hp) (.lst upd_same ((r.cut lo hi).mono ((s2.trans s3).trans sn))) rfl
theorem ev_slL {tl th : TO} {xs : List D} {lo hi : Option Int} (h : Ev K M ds te (· = .list xs)) (hl : EvO K M ds tl lo) (hh : EvO K M ds th hi) : Ev K M ds (tSl (rSlU K) te tl th) (· = .list (cutD xs lo hi)) := fun M' σ G H Q m s w q =>
  h M' σ G H _ m s w fun v d G1 H1 s1 w1 r1 e => hl M' σ G1 H1 _ m (s.mono s1) w1 fun G2 H2 s2 w2 => hh M' σ G2 H2 _ m (s.mono (s1.trans s2)) w2 fun G3 H3 s3 w3 => by
    subst e
    obtain ⟨a, us, rfl, hx, r⟩ := r1.list_inv
    refine .inr (.inl ⟨a, us, rfl, w3.sub.seq ((s2.trans s3).seq hx), fun p hp => ?_⟩)
    have sn := same_new (o := HO.lst (cutV us lo hi)) (w3.free hp)
    exact q (.ref p) _ _ _ (((s1.trans s2).trans s3).trans sn) (w3.new hp) (.lst upd_same ((r.cut lo hi).mono ((s2.trans s3).trans sn))) rfl
theorem ev_slT {tl th : TO} {xs : List D} {lo hi : Option Int} (h : Ev K M ds te (· = .tup xs)) (hl : EvO K M ds tl lo) (hh : EvO K M ds th hi) : Ev K M ds (tSl (rSlU K) te tl th) (· = .tup (cutD xs lo hi)) := fun M' σ G H Q m s w q =>
  h M' σ G H _ m s w fun v d G1 H1 s1 w1 r1 e => hl M' σ G1 H1 _ m (s.mono s1) w1 fun G2 H2 s2 w2 => hh M' σ G2 H2 _ m (s.mono (s1.trans s2)) w2 fun G3 H3 s3 w3 => by
    subst e
    obtain ⟨a, us, rfl, hx, r⟩ := r1.tup_inv
    have hx3 := same_t (s2.trans s3) hx
    refine .inr (.inr ⟨a, us, rfl, same_t w3.sub hx3, fun hw => ?_, fun hw p hp => ?_⟩)
    · have e2 : cutD xs lo hi = xs := by
        unfold cutD
        rw [← r.length, hw.1, hw.2, List.drop_zero, Nat.sub_zero]
        exact List.take_of_length_le (by rw [r.length]; exact Nat.le_refl _)
      exact q (.ref a) _ G3 H3 ((s1.trans s2).trans s3) w3 (.tup hx3 (r.mono (s2.trans s3))) (by rw [e2])
    · have sn := same_new (o := HO.tup (cutV us lo hi)) (w3.free hp)
      exact q (.ref p) _ _ _ (((s1.trans s2).trans s3).trans sn) (w3.new hp) (.tup (.inl (.inl upd_same)) ((r.cut lo hi).mono ((s2.trans s3).trans sn))) rfl
/-! ### operators of several kinds -/
def rOr (r r' : R2) : R2 := fun x y H Q => r x y H Q ∨ r' x y H Q
theorem op_or {X : Cx} {f : Value → Value → Sem Value} {r r' : R2} (h : OpR X f r) (h' : OpR X f r') : OpR X f (rOr r r') := fun pins s σ H x y v u Q I rx ry q =>
  q.elim (fun q => h pins s σ H x y v u Q I rx ry q) fun q => h' pins s σ H x y v u Q I rx ry q
theorem od_l {r r' : R2} {a b : D} (h : OpD K M r a b R) : OpD K M (rOr r r') a b R := fun M' G H x y Q m rx ry w q => .inl (h M' G H x y Q m rx ry w q)
theorem od_r {r r' : R2} {a b : D} (h : OpD K M r' a b R) : OpD K M (rOr r r') a b R := fun M' G H x y Q m rx ry w q => .inr (h M' G H x y Q m rx ry w q)
abbrev rAddS : R2 := fun x y H Q => ∃ i j, x = .str i ∧ y = .str j ∧ i.length + j.length ≤ sizeLine ∧ Q (.str (i ++ j)) H
/-- + of two lists, wherever they stand -/
def rAddU (K : PySem.W.Frag) : R2 := rOr (rI0 fun i j => .int (i + j)) (rOr rAddS rCat)
theorem op_addU {X : Cx} : OpR X (binaryOp .Add) (rAddU X.K) := op_or op_add (op_or op_add_str op_cat)
theorem od_addI {i j : Int} : OpD K M (rAddU K) (.int i) (.int j) (· = .int (i + j)) := od_l (od_int (h := fun i j => .int (i + j)) fun _ => .int _)
theorem od_addS {x y : Str} (h : x.length + y.length ≤ 100000) : OpD K M (rAddU K) (.str x) (.str y) (· = .str (x ++ y)) := od_r (od_l fun M' G H v u Q m rx ry w q => ⟨x, y, rx.str_inv, ry.str_inv, Nat.le_trans h (by decide), q _ _ G H (Same.refl G) w (.str _) rfl⟩)
theorem od_eqI {i j : Int} : OpD K M rEq (.int i) (.int j) (· = .bl (decide (i = j))) := fun M' G H x y Q m rx ry w q => by
  cases rx; cases ry
  refine ⟨rfl, q _ _ G H (Same.refl G) w ?_ rfl⟩
  rw [show decide (V.int i = V.int j) = decide (i = j) by simp]
  exact .bl _
theorem od_eqS {i j : Str} : OpD K M rEq (.str i) (.str j) (· = .bl (decide (i = j))) := fun M' G H x y Q m rx ry w q => by
  cases rx; cases ry
  refine ⟨rfl, q _ _ G H (Same.refl G) w ?_ rfl⟩
  rw [show decide (V.str i = V.str j) = decide (i = j) by simp]
  exact .bl _
theorem od_eqB {i j : Bool} : OpD K M rEq (.bl i) (.bl j) (· = .bl (decide (i = j))) := fun M' G H x y Q m rx ry w q => by
  cases rx; cases ry
  refine ⟨rfl, q _ _ G H (Same.refl G) w ?_ rfl⟩
  rw [show decide (V.bl i = V.bl j) = decide (i = j) by simp]
  exact .bl _
theorem od_neI {i j : Int} : OpD K M rNe (.int i) (.int j) (· = .bl (!decide (i = j))) := fun M' G H x y Q m rx ry w q => by
  cases rx; cases ry
  refine ⟨rfl, q _ _ G H (Same.refl G) w ?_ rfl⟩
  rw [show decide (V.int i = V.int j) = decide (i = j) by simp]
  exact .bl _
theorem od_neB {i j : Bool} : OpD K M rNe (.bl i) (.bl j) (· = .bl (!decide (i = j))) := fun M' G H x y Q m rx ry w q => by
  cases rx; cases ry
  refine ⟨rfl, q _ _ G H (Same.refl G) w ?_ rfl⟩
  rw [show decide (V.bl i = V.bl j) = decide (i = j) by simp]
  exact .bl _
theorem od_inSign {c : Nat} {z : Str} : OpD K M (fun x y H Q => ∃ (c : Nat) (z : Str), x = .str ⟨#[c]⟩ ∧ y = .str z ∧ Q (.bl (decide (c ∈ z.cps.toList))) H) (.str ⟨#[c]⟩) (.str z) (· = .bl (decide (c ∈ z.cps.toList))) := fun M' G H x y Q m rx ry w q =>
  ⟨c, z, rx.str_inv, ry.str_inv, q _ _ G H (Same.refl G) w (.bl _) rfl⟩
/-- flat things -/
def flatD : D → Option V
  | .non => some .non
  | .bl b => some (.bl b)
  | .int i => some (.int i)
  | .str x => some (.str x)
  | _ => none
theorem flat_inv {G : Hp} {v x : V} {d : D} (r : Rp K G v d) (h : flatD d = some x) : v = x ∧ flatV v = true := by
  cases r <;> cases h <;> exact ⟨rfl, rfl⟩
theorem flats_inv {G : Hp} : ∀ {vs xs : List V} {es : List D}, RpAll K G vs es → es.map flatD = xs.map some → vs = xs ∧ vs.all flatV = true
  | _, [], _, .nil, _ => ⟨rfl, rfl⟩
  | _, x :: xs, _, .cons h r, e => by
    simp only [List.map_cons, List.cons.injEq] at e
    obtain ⟨rfl, f⟩ := flat_inv h e.1
    obtain ⟨rfl, g⟩ := flats_inv r e.2
    exact ⟨rfl, by rw [List.all_cons, f, g]; rfl⟩
  | _, _ :: _, _, .nil, e => by simp at e
theorem od_inSeq {d : D} {es : List D} {x : V} {xs : List V} {n : Bool} {c : D} (hc : c = .list es ∨ c = .tup es) (h : flatD d = some x) (hs : es.map flatD = xs.map some) : OpD K M (rIn K n) d c (· = .bl (if n then !inV x xs else inV x xs)) := fun M' G H v u Q m rx ry w q => by
  obtain ⟨rfl, f⟩ := flat_inv rx h
  rcases hc with rfl | rfl
  · obtain ⟨a, us, rfl, hx, r⟩ := ry.list_inv
    obtain ⟨rfl, g⟩ := flats_inv r hs
    exact ⟨a, _, rfl, .inl (w.sub.seq hx), f, g, q _ _ G H (Same.refl G) w (.bl _) rfl⟩
  · obtain ⟨a, us, rfl, hx, r⟩ := ry.tup_inv
    obtain ⟨rfl, g⟩ := flats_inv r hs
    exact ⟨a, _, rfl, .inr (same_t w.sub hx), f, g, q _ _ G H (Same.refl G) w (.bl _) rfl⟩
theorem od_isN {d : D} {b : Bool} (hb : ∀ G v, Rp K G v d → decide (v = .non) = b) : OpD K M (fun x y H Q => y = .non ∧ Q (.bl (decide (x = .non))) H) d .non (· = .bl b) := fun M' G H x y Q m rx ry w q =>
  ⟨ry.non_inv, by rw [hb G x rx]; exact q _ _ G H (Same.refl G) w (.bl _) rfl⟩
def noneD : D → Option Bool
  | .non => some true
  | .raw _ => none
  | .seq _ => none
  | _ => some false
theorem od_none {d : D} {b : Bool} (h : noneD d = some b) : OpD K M (fun x y H Q => y = .non ∧ Q (.bl (decide (x = .non))) H) d .non (· = .bl b) := od_isN fun G v r => by
  cases r <;> cases h <;> simp
/-! ### calls of built-ins -/
theorem cd_all {bs : List Bool} : CallD K M (rAll K) [.list (bs.map D.bl)] (· = .bl (bs.all id)) := fun M' G H xs Q m r w q => by
  cases r with
  | cons p r =>
    cases r
    obtain ⟨a, us, rfl, hx, r⟩ := p.list_inv
    have e := r.bl_inv
    subst e
    exact ⟨a, bs, rfl, w.sub.seq hx, q _ _ G H (Same.refl G) w (.bl _) rfl⟩
theorem cd_any {bs : List Bool} : CallD K M (rAny K) [.list (bs.map D.bl)] (· = .bl (bs.any id)) := fun M' G H xs Q m r w q => by
  cases r with
  | cons p r =>
    cases r
    obtain ⟨a, us, rfl, hx, r⟩ := p.list_inv
    have e := r.bl_inv
    subst e
    exact ⟨a, bs, rfl, w.sub.seq hx, q _ _ G H (Same.refl G) w (.bl _) rfl⟩
theorem cd_intI {i : Int} : CallD K M (fun xs H Q => (∃ i, xs = [.int i] ∧ Q (.int i) H) ∨ ∃ k, xs = [.bl k] ∧ Q (.int (if k = true then 1 else 0)) H) [.int i] (· = .int i) := fun M' G H xs Q m r w q => by
  cases r with
  | cons p r =>
    cases r
    exact .inl ⟨i, by rw [p.int_inv], q _ _ G H (Same.refl G) w (.int _) rfl⟩
theorem cd_listof {xs : List D} : CallD K M (fun xs H Q => ∃ p ys, xs = [.ref p] ∧ (SqL K H p ys ∨ SqT K H p ys) ∧ ∀ l, H l = none → Q (.ref l) (upd H l (.lst ys))) [.list xs] (· = .list xs) := fun M' G H vs Q m r w q => by
  cases r with
  | cons p r =>
    cases r
    obtain ⟨a, us, rfl, hx, r⟩ := p.list_inv
    refine ⟨a, us, rfl, .inl (w.sub.seq hx), fun l hl => ?_⟩
    have sn := same_new (o := HO.lst us) (w.free hl)
    exact q (.ref l) _ _ _ sn (w.new hl) (.lst upd_same (r.mono sn)) rfl
theorem cd_str {i : Int} (h : i.natAbs.log2 < 1920) : CallD K M (fun xs H Q => ∃ i : Int, xs = [.int i] ∧ i.natAbs.log2 < 1920 ∧ Q (.str (Str.ofString (toString i))) H) [.int i] (· = .str (Str.ofString (toString i))) := fun M' G H xs Q m r w q => by
  cases r with
  | cons p r =>
    cases r
    exact ⟨i, by rw [p.int_inv], h, q _ _ G H (Same.refl G) w (.str _) rfl⟩
theorem ev_join {x : Str} {xs : List Str} {R1 : D → Prop} (ha : Ev K M ds ta (· = .str x)) (hb : Ev K M ds tb (fun d => ∃ xs : List Str, d = .list (xs.map D.str) ∧ (xs.map (·.length)).sum + xs.length * x.length ≤ 100000 ∧ R (.str (Txt.join x xs)))) :
    Ev K M ds (tM1 (fun x xs H Q => ∃ a p, ∃ ys : List Str, x = .str a ∧ xs = [.ref p] ∧ (SqL K H p (ys.map V.str) ∨ SqT K H p (ys.map V.str)) ∧ (ys.map (·.length)).sum + ys.length * a.length ≤ 16777216 ∧ Q (.str (Txt.join a ys)) H) ta tb) R := fun M' σ G H Q m s w q =>
  ha M' σ G H _ m s w fun v d G1 H1 s1 w1 r1 e => by
    subst e
    refine ⟨⟨x, r1.str_inv⟩, hb M' σ G1 H1 _ m (s.mono s1) w1 fun v2 d2 G2 H2 s2 w2 r2 ⟨ys, e2, hl, hR⟩ => ?_⟩
    subst e2
    obtain ⟨a, us, rfl, hx, r⟩ := r2.list_inv
    have e3 := r.str_inv
    subst e3
    exact ⟨x, a, ys, r1.str_inv, rfl, .inl (w2.sub.seq hx), Nat.le_trans hl (by decide), q _ _ G2 H2 (s1.trans s2) w2 (.str _) hR⟩
end
/-! ### calls by keywords alone -/
section
variable {X : Cx} {CX : CXT} {k : Nat} {f : Addr} {fd : FuncData} {ps ks : List Str} {sp : Sp} {E : XK} {x : Str} {p pos : Pos} {kws : List Keyword} {tk : TA} {g : List Value → List Value → List Value} {gV : List V → List V → List V}
theorem pe_callKs (F : FnOk X.prog X.w X.K X.mg X.base CX k f fd ps sp) (hr : Room k X.A) (hg : Gl X x) (hm : X.mg x = some (.ref f)) (hk : PySem.W.keepIn X.K (.ref f) = true) (hb : KBinds X.K fd ps ks g gV) (hx : Passes CX X E)
    (hkw : PK X kws tk) (hall : (backToKw pos (keywordEach kws X.env)).all (·.1.isSome) = true := by rfl) (hks : (backToKw pos (keywordEach kws X.env)).filterMap (·.1) = ks := by rfl) (hdb : (x == ("__debug__" : Str)) = false := by decide)
    (hpl : ((backTo pos (starEach [] X.env)).any (·.1) || (backToKw pos (keywordEach kws X.env)).any (·.1.isNone)) = false := by rfl) : PE X (.Call (.Name x p) [] kws pos) (tCallK sp gV E tNil tk) := by
  refine ⟨fun pins s σ H Q J h => ?_⟩
  refine wpAny_Call_Name_kw (ld_glob J hg hm ?_ hdb)
  refine PySem.W.callWith_KW0 (h₀ := X.base) J.ok.mod.kin hk hall ?_ hpl
  refine thn (hkw.run pos pins s σ H _ J h) fun ws s2 ⟨zs, H2, J2, rz, q2⟩ => ⟨J2.kIn, ?_⟩
  rw [hks]
  exact run_fnk (us := []) (vs := []) F hr hb hx J2 .nil rz q2
end
/-- one keyword, one parameter -/
def kg1 {α : Type} : List α → List α → List α
  | [], [a] => [a]
  | _, _ => []
def kg2 {α : Type} : List α → List α → List α
  | [], [a, b] => [a, b]
  | _, _ => []
def kg2r {α : Type} : List α → List α → List α
  | [], [a, b] => [b, a]
  | _, _ => []
def kg3r {α : Type} : List α → List α → List α
  | [], [a, b, c] => [c, b, a]
  | _, _ => []
section
variable {K : PySem.W.Frag} {x qual : Str} {st : Stmt} {f : Addr} {fd : FuncData}
theorem kb1 {p : Str} (F : Fun K x qual st f fd) (h : ∀ (kV doc pm : Value) (an : Option Addr) (cdv ct : Value) (a : Value), bindArgs (PySem.W.fnOf x qual (defArgs st) (defBody st) (defScope st) .none kV doc pm an cdv ct) ⟨[], [(p, a)]⟩ = pure [(p, a)]) : KBinds K fd [p] [p] kg1 kg1 := by
  obtain ⟨oc, od, kV, doc, pm, an, cdv, ct, osl, rfl, lk, hcd⟩ := F.ex
  refine ⟨fun s us ws _ hl => ?_, fun r r' => ?_⟩
  · match us, ws, hl with
    | [], [a], _ => exact .of_eq (h kV doc pm an cdv ct a)
  · match r, r' with
    | .nil, .cons q .nil => exact .cons q .nil
    | .nil, .nil => exact .nil
    | .nil, .cons _ (.cons _ _) => exact .nil
    | .cons _ _, _ => exact .nil
theorem kb3r {p1 p2 p3 : Str} (F : Fun K x qual st f fd) (h : ∀ (kV doc pm : Value) (an : Option Addr) (cdv ct : Value) (a b c : Value), bindArgs (PySem.W.fnOf x qual (defArgs st) (defBody st) (defScope st) .none kV doc pm an cdv ct) ⟨[], [(p3, a), (p2, b), (p1, c)]⟩ = pure [(p1, c), (p2, b), (p3, a)]) : KBinds K fd [p1, p2, p3] [p3, p2, p1] kg3r kg3r := by
  obtain ⟨oc, od, kV, doc, pm, an, cdv, ct, osl, rfl, lk, hcd⟩ := F.ex
  refine ⟨fun s us ws _ hl => ?_, fun r r' => ?_⟩
  · match us, ws, hl with
    | [], [a, b, c], _ => exact .of_eq (h kV doc pm an cdv ct a b c)
  · match r, r' with
    | .nil, .cons q (.cons q2 (.cons q3 .nil)) => exact .cons q3 (.cons q2 (.cons q .nil))
    | .nil, .nil => exact .nil
    | .nil, .cons _ .nil => exact .nil
    | .nil, .cons _ (.cons _ .nil) => exact .nil
    | .nil, .cons _ (.cons _ (.cons _ (.cons _ _))) => exact .nil
    | .cons _ _, _ => exact .nil
end
/-! ### built-ins by name, in short -/
theorem bt_isinstance : bootBuiltins "isinstance" = some (.builtin "isinstance") := by decide +kernel
theorem bt_len : bootBuiltins "len" = some (.builtin "len") := by decide +kernel
theorem bt_all : bootBuiltins "all" = some (.builtin "all") := by decide +kernel
theorem bt_any : bootBuiltins "any" = some (.builtin "any") := by decide +kernel
theorem bt_abs : bootBuiltins "abs" = some (.builtin "abs") := by decide +kernel
theorem bt_int : bootBuiltins "int" = some (.type "int") := by decide +kernel
theorem bt_str : bootBuiltins "str" = some (.type "str") := by decide +kernel
theorem bt_list : bootBuiltins "list" = some (.type "list") := by decide +kernel
theorem bt_tuple : bootBuiltins "tuple" = some (.type "tuple") := by decide +kernel
theorem bt_bool : bootBuiltins "bool" = some (.type "bool") := by decide +kernel
section
variable {X : Cx} {pos p : Pos} {e : Expr} {te : TE}
theorem pe_ty {x : Str} {n : String} (hv : bootBuiltins x = some (.type n)) (hm : X.mg x = none) (hg : Gl X x := by rfl) (hn : x ≠ "__name__" := by decide) (hd : (x == ("__debug__" : Str)) = false := by decide) : PE X (.Name x pos) (tC (.ty n)) := pe_bltn hg hm hv rfl hn hd
end
/-- in: of a list or tuple of flat things, of one sign in a text -/
abbrev rInSign : R2 := fun x y H Q => ∃ (c : Nat) (z : Str), x = .str ⟨#[c]⟩ ∧ y = .str z ∧ Q (.bl (decide (c ∈ z.cps.toList))) H
def rInU (K : PySem.W.Frag) : R2 := rOr (rIn K false) rInSign
theorem op_inU {X : Cx} : OpR X (compareOp .In) (rInU X.K) := op_or op_in_seq op_in_sign
section
variable {K : PySem.W.Frag} {M : Mt}
theorem od_inS {c : Nat} {z : Str} : OpD K M (rInU K) (.str ⟨#[c]⟩) (.str z) (· = .bl (decide (c ∈ z.cps.toList))) := od_r od_inSign
theorem od_inQ {d : D} {es : List D} {x : V} {xs : List V} {c : D} (hc : c = .list es ∨ c = .tup es) (h : flatD d = some x) (hs : es.map flatD = xs.map some) : OpD K M (rInU K) d c (· = .bl (inV x xs)) := od_l (od_inSeq (n := false) hc h hs)
theorem od_catL {xs ys : List D} (h : xs.length + ys.length ≤ 100000) : OpD K M (rAddU K) (.list xs) (.list ys) (· = .list (xs ++ ys)) := od_r (od_r fun M' G H v u Q m rx ry w q => by
  obtain ⟨a, us, rfl, ha, ra⟩ := rx.list_ex
  obtain ⟨b, ws, rfl, hb, rb⟩ := ry.list_ex
  refine ⟨a, b, us, ws, rfl, rfl, w.sub _ _ ha, w.sub _ _ hb, by rw [ra.length, rb.length]; exact Nat.le_trans h (by decide), fun p hp => ?_⟩
  have sn := same_new (o := HO.lst (us ++ ws)) (w.free hp)
  exact q (.ref p) _ _ _ sn (w.new hp) (.lst upd_same ((ra.append rb).mono sn)) rfl)
end
/-! ### the same rules with the written part by its own name (within a comprehension's block) -/
section
variable {X : Cx} {K : PySem.W.Frag}
theorem q_len (h : X.K = K := by rfl) : CallR X (.builtin "len") (fun xs H Q => ∃ x n, xs = [x] ∧ LenV K x H n ∧ Q (.int (n : Nat)) H) := h ▸ call_len
theorem q_isi (h : X.K = K := by rfl) : CallR X (.builtin "isinstance") (rIsi K) := h ▸ call_isi
theorem q_isiT (h : X.K = K := by rfl) : CallR X (.builtin "isinstance") (rIsiT K) := h ▸ call_isiT
theorem q_all (hc : X.calm = true := by rfl) (h : X.K = K := by rfl) : CallR X (.builtin "all") (rAll K) := h ▸ cr_all hc
theorem q_any (hc : X.calm = true := by rfl) (h : X.K = K := by rfl) : CallR X (.builtin "any") (rAny K) := h ▸ cr_any hc
theorem q_ix (h : X.K = K := by rfl) : IxR X (rIx K) := h ▸ ix_seq
theorem q_sl (h : X.K = K := by rfl) : SlR X (rSlU K) := h ▸ sl_any
theorem q_add (h : X.K = K := by rfl) : OpR X (binaryOp .Add) (rAddU K) := h ▸ op_addU
theorem q_in (h : X.K = K := by rfl) : OpR X (compareOp .In) (rInU K) := h ▸ op_inU
theorem q_notIn (h : X.K = K := by rfl) : OpR X (compareOp .NotIn) (rIn K true) := h ▸ op_notIn_seq
theorem q_listof (h : X.K = K := by rfl) : CallR X (.type "list") (fun xs H Q => ∃ p ys, xs = [.ref p] ∧ (SqL K H p ys ∨ SqT K H p ys) ∧ ∀ l, H l = none → Q (.ref l) (upd H l (.lst ys))) := h ▸ call_list_of
theorem q_itany {tg e : Expr} {te : TE} (he : PE X e te) (h : X.K = K := by rfl) : PI X tg e (iAny K te) := h ▸ pi_any he
theorem q_zip {e e2 : Expr} {ta : TA} {p pos tpos : Pos} {elts : List Expr} {kk : Nat} (hm : X.mg "zip" = none) (ha : PA X [e, e2] ta) (h : X.K = K := by rfl) (hg : Gl X "zip" := by rfl)
    (hs : starEach [e, e2] X.env = (false, eval e X.env) :: starEach [e2] X.env := by rfl) (hpl : (backTo pos (starEach [e2] X.env)).any (·.1) = false := by rfl) :
    PI X (.Tuple elts kk tpos) (.Call (.Name "zip" p) [e, e2] [] pos) (iZipA K ta) := h ▸ pi_zipA hg hm ha hs hpl
theorem q_join {o e : Expr} {to te : TE} {apos pos : Pos} (ho : PE X o to) (he : PE X e te) (h : X.K = K := by rfl) (hs : starEach [e] X.env = [(false, eval e X.env)] := by rfl) (hb : attributeBase o "join" X.env (eval o X.env) = eval o X.env := by rfl)
    (hl : (apos.endLine == pos.line) = true := by rfl) : PE X (.Call (.Attribute o "join" apos) [e] [] pos)
      (tM1 (fun x xs H Q => ∃ a p, ∃ ys : List Str, x = .str a ∧ xs = [.ref p] ∧ (SqL K H p (ys.map V.str) ∨ SqT K H p (ys.map V.str)) ∧ (ys.map (·.length)).sum + ys.length * a.length ≤ 16777216 ∧ Q (.str (Txt.join a ys)) H) to te) := h ▸ pe_join ho he hs hb hl
theorem q_tup {es : List Expr} {k : Nat} {t : TGs} {n : Nat} {pos : Pos} (hc : X.calm = true) (h : PGs X es t) (hK : X.K = K := by rfl) (hn : (assignEach es X.env).length = n := by rfl) (hst : (assignEach es X.env).findIdx? (·.1) = none := by rfl) : PG X (.Tuple es k pos) (gTup K n t) := hK ▸ pg_tup hc h hn hst
end
end Rg
namespace Rg
open PySem L2 RZ PyProof.Rows
section
variable {K : PySem.W.Frag} {M M1 : Mt} {ds : DS} {te ta tb tc : TE} {t u : TT} {R R' : D → Prop} {RT RT' : Bool → Prop}
theorem et_orT {a : Bool} (h : EvT K M ds t (· = a)) (ha : a = true) : EvT K M ds (tOr t u) (· = true) := by subst ha; exact (et_or (b := true) h fun e => nomatch e)
theorem et_orF {a b : Bool} (h : EvT K M ds t (· = a)) (ha : a = false) (h2 : EvT K M ds u (· = b)) : EvT K M ds (tOr t u) (· = b) := by subst ha; exact et_or h fun _ => h2
theorem et_andF {a : Bool} (h : EvT K M ds t (· = a)) (ha : a = false) : EvT K M ds (tAnd t u) (· = false) := by subst ha; exact (et_and (b := false) h fun e => nomatch e)
theorem et_andT {a b : Bool} (h : EvT K M ds t (· = a)) (ha : a = true) (h2 : EvT K M ds u (· = b)) : EvT K M ds (tAnd t u) (· = b) := by subst ha; exact et_and h fun _ => h2
theorem ev_orT {a : Bool} (h : Ev K M ds ta (· = .bl a)) (ha : a = true) : Ev K M ds (tOrV ta tb) (· = .bl true) := by subst ha; exact ev_orV h (fun e => nomatch e) fun _ => rfl
theorem ev_orF {a : Bool} {d : D} (h : Ev K M ds ta (· = .bl a)) (ha : a = false) (h2 : Ev K M ds tb (· = d)) : Ev K M ds (tOrV ta tb) (· = d) := by subst ha; exact ev_orV h (fun _ => h2) fun e => nomatch e
theorem ev_andF {a : Bool} (h : Ev K M ds ta (· = .bl a)) (ha : a = false) : Ev K M ds (tAndV ta tb) (· = .bl false) := by subst ha; exact ev_andV h (fun e => nomatch e) fun _ => rfl
theorem ev_andT {a : Bool} {d : D} (h : Ev K M ds ta (· = .bl a)) (ha : a = true) (h2 : Ev K M ds tb (· = d)) : Ev K M ds (tAndV ta tb) (· = d) := by subst ha; exact ev_andV h (fun _ => h2) fun e => nomatch e
theorem ev_ifT {a : Bool} {d : D} (h : EvT K M ds t (· = a)) (ha : a = true) (h1 : Ev K M ds ta (· = d)) : Ev K M ds (tIf t ta tb) (· = d) := by subst ha; exact ev_ifR h (fun _ => h1) fun e => nomatch e
theorem ev_ifF {a : Bool} {d : D} (h : EvT K M ds t (· = a)) (ha : a = false) (h1 : Ev K M ds tb (· = d)) : Ev K M ds (tIf t ta tb) (· = d) := by subst ha; exact ev_ifR h (fun e => nomatch e) fun _ => h1
theorem ev_chainB {r r' : R2} {x y z : D} {k k' : Bool} (ha : Ev K M ds ta (· = x)) (hb : Ev K M ds tb (· = y)) (hr : OpD K M r x y (· = .bl k)) (hc : Ev K M ds tc (· = z)) (hr' : OpD K M r' y z (· = .bl k')) :
    Ev K M ds (tChain r r' ta tb tc) (· = .bl (k && k')) := ev_chain ha hb hr (fun _ => hc) (fun e => by subst e; exact hr') fun e => by subst e; rfl
theorem od_leI {i j : Int} : OpD K M (rI0 fun i j => V.bl (decide (i ≤ j))) (.int i) (.int j) (· = .bl (decide (i ≤ j))) := od_int (h := fun i j => .bl (decide (i ≤ j))) fun _ => .bl _
theorem od_ltI {i j : Int} : OpD K M (rI0 fun i j => V.bl (decide (i < j))) (.int i) (.int j) (· = .bl (decide (i < j))) := od_int (h := fun i j => .bl (decide (i < j))) fun _ => .bl _
theorem od_gtI {i j : Int} : OpD K M (rI0 fun i j => V.bl (decide (j < i))) (.int i) (.int j) (· = .bl (decide (j < i))) := od_int (h := fun i j => .bl (decide (j < i))) fun _ => .bl _
theorem od_geI {i j : Int} : OpD K M (rI0 fun i j => V.bl (decide (j ≤ i))) (.int i) (.int j) (· = .bl (decide (j ≤ i))) := od_int (h := fun i j => .bl (decide (j ≤ i))) fun _ => .bl _
theorem od_subI {i j : Int} : OpD K M (rI0 fun i j => V.int (i - j)) (.int i) (.int j) (· = .int (i - j)) := od_int (h := fun i j => .int (i - j)) fun _ => .int _
theorem od_mulI {i j : Int} (h : CMul i j) : OpD K M (rI CMul fun i j => V.int (i * j)) (.int i) (.int j) (· = .int (i * j)) := od_intC (h := fun i j => .int (i * j)) h fun _ => .int _
theorem od_modI {i j : Int} (h : j ≠ 0) : OpD K M (rI (fun _ j => j ≠ 0) fun i j => V.int (i.fmod j)) (.int i) (.int j) (· = .int (i.fmod j)) := od_intC (h := fun i j => .int (i.fmod j)) h fun _ => .int _
theorem od_divI {i j : Int} (h : CDivN i j) : OpD K M (rI CDivN fun i j => V.int (i.fdiv j)) (.int i) (.int j) (· = .int (i.fdiv j)) := od_intC (h := fun i j => .int (i.fdiv j)) h fun _ => .int _
theorem od_powI {i j : Int} (h : CPow i j) : OpD K M (rI CPow fun i j => V.int (i ^ j.toNat)) (.int i) (.int j) (· = .int (i ^ j.toNat)) := od_intC (h := fun i j => .int (i ^ j.toNat)) h fun _ => .int _
theorem ud_neg {i : Int} : UnD K M (rU fun i => .int (-i)) (.int i) (· = .int (-i)) := fun M' G H x Q m rx w q => ⟨i, rx.int_inv, q _ _ G H (Same.refl G) w (.int _) rfl⟩
/-- a comprehension without a test, all known -/
theorem ev_lc1 {wi : TI} {g : TG} {vs : List Nat} {es : List D} {f : D → D} (hI : EvI K M ds wi (· = es)) (hl : es.length ≤ 100000) (h : ∀ (i : Nat) d, es[i]? = some d → EvG K M (some vs) g d (wipeD ds vs) (fun ds2 => Ev K M ds2 te (· = f d))) :
    Ev K M ds (tLc wi g tYes te vs) (· = .list (es.map f)) := by
  refine ev_lc hI fun es' e => ?_
  subst e
  refine ⟨hl, fun i acc => acc = (es'.take i).map f, rfl, fun i d acc hd _ ha => ?_, fun acc _ ha => ?_⟩
  · intro M' σ G H v Q m s w r q
    refine h i d hd M' σ G H v Q m s w r fun ds' σ' G' H' hE => q ds' σ' G' H' ⟨(· = true), et_yes, fun _ => hE.weak fun y ey => ?_, fun e => nomatch e⟩
    show acc ++ [y] = List.map f (List.take (i + 1) es')
    rw [ey, show acc = _ from ha, List.take_add_one, hd, List.map_append]
    rfl
  · rw [show acc = _ from ha, List.take_length]
/-- the same, each item told by a word -/
theorem ev_lcR {wi : TI} {g : TG} {vs : List Nat} {RI : List D → Prop} {Pi : List D → Nat → D → Prop} (hI : EvI K M ds wi RI) (hl : ∀ es, RI es → es.length ≤ 100000)
    (h : ∀ es (i : Nat) d, RI es → es[i]? = some d → EvG K M (some vs) g d (wipeD ds vs) (fun ds2 => Ev K M ds2 te (Pi es i))) :
    Ev K M ds (tLc wi g tYes te vs) (fun d => ∃ es acc, RI es ∧ d = .list acc ∧ acc.length = es.length ∧ ∀ (i : Nat) y, acc[i]? = some y → Pi es i y) := by
  refine ev_lc hI fun es e => ⟨hl es e, fun i acc => acc.length = i ∧ ∀ (j : Nat) y, acc[j]? = some y → Pi es j y, ⟨rfl, fun j y hy => by simp at hy⟩, fun i d acc hd _ ⟨ha, hb⟩ => ?_, fun acc _ ⟨ha, hb⟩ => ⟨es, acc, e, rfl, ha, hb⟩⟩
  intro M' σ G H v Q m s w r q
  refine h es i d e hd M' σ G H v Q m s w r fun ds' σ' G' H' hE => q ds' σ' G' H' ⟨(· = true), et_yes, fun _ => hE.weak fun y ey => ⟨by simp [ha], fun j z hz => ?_⟩, fun e => nomatch e⟩
  by_cases hj : j < acc.length
  · rw [List.getElem?_append_left hj] at hz
    exact hb j z hz
  · have ej : j = acc.length := by
      have := (List.getElem?_eq_some_iff.mp hz).1
      simp at this
      omega
    subst ej
    rw [List.getElem?_append_right (Nat.le_refl _)] at hz
    simp at hz
    subst hz
    rw [ha]
    exact ey
def isStrD : D → Option Bool
  | .non => some false
  | .bl _ => some false
  | .int _ => some false
  | .str _ => some true
  | .list _ => some false
  | .tup _ => some false
  | _ => none
theorem isStr_of {d : D} {b : Bool} (h : isStrD d = some b) : isD d "str" = some b := by
  cases d with
  | non => cases h; exact (show kitB "NoneType" "str" = some false by decide +kernel)
  | bl _ => cases h; exact (show kitB "bool" "str" = some false by decide +kernel)
  | int _ => cases h; exact (show kitB "int" "str" = some false by decide +kernel)
  | str _ => cases h; exact (show kitB "str" "str" = some true by decide +kernel)
  | list _ => cases h; exact (show kitB "list" "str" = some false by decide +kernel)
  | tup _ => cases h; exact (show kitB "tuple" "str" = some false by decide +kernel)
  | _ => cases h
theorem cd_isStr {d : D} {b : Bool} (h : isStrD d = some b) : CallD K M (rIsi K) [d, .raw (.ty "str")] (· = .bl b) := cd_isi (isStr_of h)
def isIntD : D → Option Bool
  | .non => some false
  | .bl _ => some true
  | .int _ => some true
  | .str _ => some false
  | .list _ => some false
  | .tup _ => some false
  | _ => none
theorem isInt_of {d : D} {b : Bool} (h : isIntD d = some b) : isD d "int" = some b := by
  cases d with
  | non => cases h; exact (show kitB "NoneType" "int" = some false by decide +kernel)
  | bl _ => cases h; exact (show kitB "bool" "int" = some true by decide +kernel)
  | int _ => cases h; exact (show kitB "int" "int" = some true by decide +kernel)
  | str _ => cases h; exact (show kitB "str" "int" = some false by decide +kernel)
  | list _ => cases h; exact (show kitB "list" "int" = some false by decide +kernel)
  | tup _ => cases h; exact (show kitB "tuple" "int" = some false by decide +kernel)
  | _ => cases h
theorem cd_isInt {d : D} {b : Bool} (h : isIntD d = some b) : CallD K M (rIsi K) [d, .raw (.ty "int")] (· = .bl b) := cd_isi (isInt_of h)
def isBoolD : D → Option Bool
  | .non => some false
  | .bl _ => some true
  | .int _ => some false
  | .str _ => some false
  | .list _ => some false
  | .tup _ => some false
  | _ => none
theorem isBool_of {d : D} {b : Bool} (h : isBoolD d = some b) : isD d "bool" = some b := by
  cases d with
  | non => cases h; exact (show kitB "NoneType" "bool" = some false by decide +kernel)
  | bl _ => cases h; exact (show kitB "bool" "bool" = some true by decide +kernel)
  | int _ => cases h; exact (show kitB "int" "bool" = some false by decide +kernel)
  | str _ => cases h; exact (show kitB "str" "bool" = some false by decide +kernel)
  | list _ => cases h; exact (show kitB "list" "bool" = some false by decide +kernel)
  | tup _ => cases h; exact (show kitB "tuple" "bool" = some false by decide +kernel)
  | _ => cases h
theorem cd_isBool {d : D} {b : Bool} (h : isBoolD d = some b) : CallD K M (rIsi K) [d, .raw (.ty "bool")] (· = .bl b) := cd_isi (isBool_of h)
def isListD : D → Option Bool
  | .non => some false
  | .bl _ => some false
  | .int _ => some false
  | .str _ => some false
  | .list _ => some true
  | .tup _ => some false
  | _ => none
theorem isList_of {d : D} {b : Bool} (h : isListD d = some b) : isD d "list" = some b := by
  cases d with
  | non => cases h; exact (show kitB "NoneType" "list" = some false by decide +kernel)
  | bl _ => cases h; exact (show kitB "bool" "list" = some false by decide +kernel)
  | int _ => cases h; exact (show kitB "int" "list" = some false by decide +kernel)
  | str _ => cases h; exact (show kitB "str" "list" = some false by decide +kernel)
  | list _ => cases h; exact (show kitB "list" "list" = some true by decide +kernel)
  | tup _ => cases h; exact (show kitB "tuple" "list" = some false by decide +kernel)
  | _ => cases h
theorem cd_isList {d : D} {b : Bool} (h : isListD d = some b) : CallD K M (rIsi K) [d, .raw (.ty "list")] (· = .bl b) := cd_isi (isList_of h)
def isTupleD : D → Option Bool
  | .non => some false
  | .bl _ => some false
  | .int _ => some false
  | .str _ => some false
  | .list _ => some false
  | .tup _ => some true
  | _ => none
theorem isTuple_of {d : D} {b : Bool} (h : isTupleD d = some b) : isD d "tuple" = some b := by
  cases d with
  | non => cases h; exact (show kitB "NoneType" "tuple" = some false by decide +kernel)
  | bl _ => cases h; exact (show kitB "bool" "tuple" = some false by decide +kernel)
  | int _ => cases h; exact (show kitB "int" "tuple" = some false by decide +kernel)
  | str _ => cases h; exact (show kitB "str" "tuple" = some false by decide +kernel)
  | list _ => cases h; exact (show kitB "list" "tuple" = some false by decide +kernel)
  | tup _ => cases h; exact (show kitB "tuple" "tuple" = some true by decide +kernel)
  | _ => cases h
theorem cd_isTuple {d : D} {b : Bool} (h : isTupleD d = some b) : CallD K M (rIsi K) [d, .raw (.ty "tuple")] (· = .bl b) := cd_isi (isTuple_of h)
theorem ev_isSeq {d : D} {b1 b2 : Bool} {tcs : TA} (ha : Ev K M ds ta (· = d)) (hc : EvA K M ds tcs (· = [.raw (.ty "list"), .raw (.ty "tuple")])) (h1 : isListD d = some b1) (h2 : isTupleD d = some b2) :
    Ev K M ds (tCB (rIsiT K) (tCons ta (tCons (tTup tcs) tNil))) (· = .bl (b1 || b2)) := ev_isiT2 ha hc (isList_of h1) (isTuple_of h2)
theorem run_if1 {tc : TT} {a b : TS} {E : AE} {c : Bool} (h : EvT K M ds tc (· = c)) (h1 : c = true → Run K M ds a E) (h2 : c = false → Run K M ds b E) : Run K M ds (tIfS tc a b) E := run_if h (fun e => h1 e.symm) fun e => h2 e.symm
theorem run_ifT {tc : TT} {a b : TS} {E : AE} {c : Bool} (h : EvT K M ds tc (· = c)) (hc : c = true) (h1 : Run K M ds a E) : Run K M ds (tIfS tc a b) E := by subst hc; exact run_if1 h (fun _ => h1) fun e => nomatch e
theorem run_ifF {tc : TT} {a b : TS} {E : AE} {c : Bool} (h : EvT K M ds tc (· = c)) (hc : c = false) (h1 : Run K M ds b E) : Run K M ds (tIfS tc a b) E := by subst hc; exact run_if1 h (fun e => nomatch e) fun _ => h1
theorem run_ret1 {E : AE} {d : D} (h : Ev K M ds te (· = d)) (hr : E.rt d) : Run K M ds (tRet te) E := run_ret (h.weak fun _ e => by rw [e]; exact hr)
theorem ev_lcM {α : Type} {wi : TI} {g : TG} {vs : List Nat} {cs : List α} {inj f : α → D} (hI : EvI K M ds wi (· = cs.map inj)) (hl : cs.length ≤ 100000) (h : ∀ c, c ∈ cs → EvG K M (some vs) g (inj c) (wipeD ds vs) (fun ds2 => Ev K M ds2 te (· = f c))) :
    Ev K M ds (tLc wi g tYes te vs) (· = .list (cs.map f)) := by
  refine ev_lc hI fun es' e => ?_
  subst e
  refine ⟨by rw [List.length_map]; exact hl, fun i acc => acc = (cs.take i).map f, rfl, fun i d acc hd _ ha => ?_, fun acc _ ha => ?_⟩
  · rw [List.getElem?_map] at hd
    cases hc : cs[i]? with
    | none => rw [hc] at hd; cases hd
    | some c =>
      rw [hc] at hd
      have ed : inj c = d := Option.some.inj hd
      subst ed
      intro M' σ G H v Q m s w r q
      refine h c (List.mem_of_getElem? hc) M' σ G H v Q m s w r fun ds' σ' G' H' hE => q ds' σ' G' H' ⟨(· = true), et_yes, fun _ => hE.weak fun y ey => ?_, fun e => nomatch e⟩
      show acc ++ [y] = List.map f (List.take (i + 1) cs)
      rw [ey, show acc = _ from ha, List.take_add_one, hc, List.map_append]
      rfl
  · rw [show acc = _ from ha, List.length_map, List.take_length]
theorem ev_intP {φ : Int → Prop} (h : ∃ k, Ev K M ds te (· = .int k) ∧ φ k) : Ev K M ds te (fun d => ∃ k, φ k ∧ d = .int k) := let ⟨k, h1, h2⟩ := h; h1.weak fun _ e => ⟨k, h2, e⟩
end
end Rg
namespace Rg
open PySem L2 RZ PyProof.Rows
abbrev rLenR (K : PySem.W.Frag) : List V → Hp → VK → Prop := fun xs H Q => ∃ x n, xs = [x] ∧ LenV K x H n ∧ Q (.int (n : Nat)) H
abbrev rIntR : List V → Hp → VK → Prop := fun xs H Q => (∃ i, xs = [.int i] ∧ Q (.int i) H) ∨ ∃ k, xs = [.bl k] ∧ Q (.int (if k = true then 1 else 0)) H
abbrev rAbsR : List V → Hp → VK → Prop := fun xs H Q => ∃ i : Int, xs = [.int i] ∧ Q (.int (if i < 0 then -i else i)) H
/-! ### expressions that lay nothing, over the heap as it stands -/
def Px (te : TE) (σ : L2.St) (H : Hp) (v : V) : Prop := ∀ Q : VK, Q v H → te σ H Q
def PxA (ta : TA) (σ : L2.St) (H : Hp) (vs : List V) : Prop := ∀ Q : List V → Hp → Prop, Q vs H → ta σ H Q
def PxT (t : TT) (σ : L2.St) (H : Hp) (b : Bool) : Prop := ∀ Q : Bool → Hp → Prop, Q b H → t σ H Q
section
variable {K : PySem.W.Frag} {σ : L2.St} {H : Hp} {ta tb te : TE} {t u : TT} {x y z v : V}
theorem px_var {i : Nat} (h : σ[i]? = some (some v)) : Px (tVar i) σ H v := fun Q q => ⟨v, h, q⟩
theorem px_c : Px (tC v) σ H v := fun Q q => q
theorem px_op {r : R2} (ha : Px ta σ H x) (hb : Px tb σ H y) (hr : ∀ Q : VK, Q z H → r x y H Q) : Px (tOp r ta tb) σ H z := fun Q q => ha _ (hb _ (hr Q q))
theorem px_nil : PxA tNil σ H [] := fun Q q => q
theorem px_cons {vs : List V} {tr : TA} (ha : Px ta σ H v) (hr : PxA tr σ H vs) : PxA (tCons ta tr) σ H (v :: vs) := fun Q q => ha _ (hr _ q)
theorem px_cb {r : List V → Hp → VK → Prop} {vs : List V} {ta : TA} (ha : PxA ta σ H vs) (hr : ∀ Q : VK, Q z H → r vs H Q) : Px (tCB r ta) σ H z := fun Q q => ha _ (hr Q q)
theorem px_addI {i j : Int} : ∀ Q : VK, Q (.int (i + j)) H → rAddU K (.int i) (.int j) H Q := fun Q q => .inl ⟨i, j, rfl, rfl, q⟩
theorem px_I0 {g : Int → Int → V} {i j : Int} : ∀ Q : VK, Q (g i j) H → rI0 g (.int i) (.int j) H Q := fun Q q => ⟨i, j, rfl, rfl, q⟩
theorem px_IC {C : Int → Int → Prop} {g : Int → Int → V} {i j : Int} (h : C i j) : ∀ Q : VK, Q (g i j) H → rI C g (.int i) (.int j) H Q := fun Q q => ⟨i, j, rfl, rfl, h, q⟩
theorem px_eqI {i j : Int} : ∀ Q : VK, Q (.bl (decide (i = j))) H → rEq (.int i) (.int j) H Q := fun Q q => ⟨rfl, by rw [show decide (V.int i = V.int j) = decide (i = j) by simp]; exact q⟩
theorem px_ix {p : Addr} {xs : List V} {i : Int} (h : H p = some (.lst xs)) (e : atI xs i = some v) : ∀ Q : VK, Q v H → rIx K (.ref p) (.int i) H Q := fun Q q => .inl ⟨p, xs, i, v, rfl, rfl, sq h, e, q⟩
theorem px_len {p : Addr} {xs : List V} (h : H p = some (.lst xs)) : ∀ Q : VK, Q (.int (xs.length : Nat)) H → rLenR K [.ref p] H Q := fun Q q => ⟨_, xs.length, rfl, .inl ⟨xs, sq h, rfl⟩, q⟩
theorem px_intI {i : Int} : ∀ Q : VK, Q (.int i) H → rIntR [.int i] H Q := fun Q q => .inl ⟨i, rfl, q⟩
theorem px_abs {i : Int} : ∀ Q : VK, Q (.int (if i < 0 then -i else i)) H → rAbsR [.int i] H Q := fun Q q => ⟨i, rfl, q⟩
theorem px_test {b : Bool} (h : Px te σ H (.bl b)) : PxT (tTest te) σ H b := fun Q q => h _ ⟨b, rfl, q⟩
theorem px_B {b : Bool} (h : Px te σ H (.bl b)) : PxT (tB te) σ H b := fun Q q => h _ ⟨b, rfl, q⟩
theorem px_and {a b : Bool} (h1 : PxT t σ H a) (h2 : PxT u σ H b) : PxT (tAnd t u) σ H (a && b) := fun Q q => h1 _ (by
  cases a with
  | true => exact h2 Q q
  | false => exact q)
/-- statements -/
theorem st_set {Z : Ends} {i : Nat} {b : TS} (h : Px te σ H v) (hn : b Z (σ.set i (some v)) H) : tSeq (tAsg te (gName i)) b Z σ H := h _ hn
theorem st_putN {Z : Ends} {p : Addr} {k : Int} {j : Nat} {xs : List V} (h : Px te σ H v) (ho : Px ta σ H (.ref p)) (hi : Px tb σ H (.int k)) (hp : H p = some (.lst xs)) (hj : ixN xs.length k = some j) (hn : Z.nx σ (upd H p (.lst (xs.set j v)))) :
    tAsg te (gSub ta tb rSetL) Z σ H := h _ (ho _ (hi _ ⟨p, xs, k, j, rfl, rfl, hp, hj, hn⟩))
theorem st_put {Z : Ends} {p : Addr} {k : Int} {j : Nat} {xs : List V} {b : TS} (h : Px te σ H v) (ho : Px ta σ H (.ref p)) (hi : Px tb σ H (.int k)) (hp : H p = some (.lst xs)) (hj : ixN xs.length k = some j) (hn : b Z σ (upd H p (.lst (xs.set j v)))) :
    tSeq (tAsg te (gSub ta tb rSetL)) b Z σ H := st_putN h ho hi hp hj hn
theorem upd_self {H : Hp} {p : Addr} {o : HO} (h : H p = some o) : upd H p o = H := by
  funext a
  unfold upd
  split
  · rename_i e; rw [e, h]
  · rfl
theorem at_upd {t : TS} {Z : Ends} {p : Addr} {o : HO} (h : H p = some o) (q : t Z σ (upd H p o)) : t Z σ H := by rw [upd_self h] at q; exact q
theorem st_bag {Z : Ends} {p : Addr} {k : Int} {j : Nat} {xs ys : List V} {b : TS} (h : Px te σ (upd H p (.lst xs)) v) (ho : Px ta σ (upd H p (.lst xs)) (.ref p)) (hi : Px tb σ (upd H p (.lst xs)) (.int k)) (hj : ixN xs.length k = some j) (hy : xs.set j v = ys)
    (hn : b Z σ (upd H p (.lst ys))) : tSeq (tAsg te (gSub ta tb rSetL)) b Z σ (upd H p (.lst xs)) := st_put h ho hi upd_same hj (by rw [upd_upd, hy]; exact hn)
theorem st_bagN {Z : Ends} {p : Addr} {k : Int} {j : Nat} {xs ys : List V} (h : Px te σ (upd H p (.lst xs)) v) (ho : Px ta σ (upd H p (.lst xs)) (.ref p)) (hi : Px tb σ (upd H p (.lst xs)) (.int k)) (hj : ixN xs.length k = some j) (hy : xs.set j v = ys)
    (hn : Z.nx σ (upd H p (.lst ys))) : tAsg te (gSub ta tb rSetL) Z σ (upd H p (.lst xs)) := st_putN h ho hi upd_same hj (by rw [upd_upd, hy]; exact hn)
theorem st_ret {Z : Ends} (h : Px te σ H v) (hr : Z.rt v H) : tRet te Z σ H := h _ hr
theorem st_setE {Z : Ends} {i : Nat} {b : TS} {φ : Int → Prop} (h : ∃ k, Px te σ H (.int k) ∧ φ k) (hn : ∀ k, φ k → b Z (σ.set i (some (.int k))) H) : tSeq (tAsg te (gName i)) b Z σ H := let ⟨k, h1, h2⟩ := h; st_set h1 (hn k h2)
theorem st_bagE {Z : Ends} {p : Addr} {k : Int} {j : Nat} {xs : List V} {b : TS} {φ : Int → Prop} {f : Int → List V} (h : ∃ k, Px te σ (upd H p (.lst xs)) (.int k) ∧ φ k) (ho : Px ta σ (upd H p (.lst xs)) (.ref p)) (hi : Px tb σ (upd H p (.lst xs)) (.int k))
    (hj : ixN xs.length k = some j) (hy : ∀ k, xs.set j (.int k) = f k) (hn : ∀ k, φ k → b Z σ (upd H p (.lst (f k)))) : tSeq (tAsg te (gSub ta tb rSetL)) b Z σ (upd H p (.lst xs)) := let ⟨k, h1, h2⟩ := h; st_bag h1 ho hi hj (hy k) (hn k h2)
theorem st_bagNE {Z : Ends} {p : Addr} {k : Int} {j : Nat} {xs : List V} {φ : Int → Prop} {f : Int → List V} (h : ∃ k, Px te σ (upd H p (.lst xs)) (.int k) ∧ φ k) (ho : Px ta σ (upd H p (.lst xs)) (.ref p)) (hi : Px tb σ (upd H p (.lst xs)) (.int k))
    (hj : ixN xs.length k = some j) (hy : ∀ k, xs.set j (.int k) = f k) (hn : ∀ k, φ k → Z.nx σ (upd H p (.lst (f k)))) : tAsg te (gSub ta tb rSetL) Z σ (upd H p (.lst xs)) := let ⟨k, h1, h2⟩ := h; st_bagN h1 ho hi hj (hy k) (hn k h2)
theorem st_retE {Z : Ends} {φ : Int → Prop} (h : ∃ k, Px te σ H (.int k) ∧ φ k) (hr : ∀ k, φ k → Z.rt (.int k) H) : tRet te Z σ H := let ⟨k, h1, h2⟩ := h; st_ret h1 (hr k h2)
theorem st_next {Z : Ends} (h : Z.nx σ H) : tNext Z σ H := h
theorem st_if {Z : Ends} {a b : TS} {c : Bool} (h : PxT t σ H c) (h1 : c = true → a Z σ H) (h2 : c = false → b Z σ H) : tIfS t a b Z σ H := h _ (by
  cases c with
  | true => exact h1 rfl
  | false => exact h2 rfl)
end
theorem run_at {K : PySem.W.Frag} {M : Mt} {G H : Hp} {σ : L2.St} {ds : DS} {t : TS} {E : AE} {Z : Ends} (h : Run K M ds t E) (s : Sg K G σ ds) (w : Wd M G H) (z : EndsOk K M G E Z) : t Z σ H := h M σ G H Z (MSub.refl M) s w z
theorem fmod_bd {i k : Int} (h : 0 < k) : 0 ≤ i.fmod k ∧ i.fmod k < k := ⟨Int.fmod_nonneg_of_pos i h, Int.fmod_lt_of_pos i h⟩
theorem fmod_lt {i k : Int} {m : Int} (h : 0 < k) (hm : k ≤ m) : 0 ≤ i.fmod k ∧ i.fmod k < m := ⟨(fmod_bd h).1, Int.lt_of_lt_of_le (fmod_bd h).2 hm⟩
theorem fdiv_nn {i k : Int} (hi : 0 ≤ i) (h : 0 < k) : 0 ≤ i.fdiv k := Int.fdiv_nonneg hi (Int.le_of_lt h)
/-! ### the bag of the law's draws -/
structure Bg (K : PySem.W.Frag) (G : Hp) (c : Addr) (ns : List Int) (i r m n : Int) : Prop where
  cells : G c = some (.lst (ns.map V.int))
  len : ns.length ≤ 63
  i0 : 0 ≤ i
  r0 : 0 ≤ r
  m0 : 0 ≤ m
  m1 : m < 2147483648
abbrev bagL (c : Addr) (i r m n : Int) : HO := .lst [.ref c, .int i, .int r, .int m, .int n]
def IsBag (K : PySem.W.Frag) (G : Hp) (o : HO) : Prop := ∃ c ns i r m n, o = bagL c i r m n ∧ Bg K G c ns i r m n
theorem Bg.mono {K : PySem.W.Frag} {G G' : Hp} {c : Addr} {ns : List Int} {i r m n : Int} (s : Same G G') (h : Bg K G c ns i r m n) : Bg K G' c ns i r m n := ⟨s _ _ h.cells, h.len, h.i0, h.r0, h.m0, h.m1⟩
theorem IsBag.mono {K : PySem.W.Frag} : ∀ G1 G2 o, Same G1 G2 → IsBag K G1 o → IsBag K G2 o := fun _ _ _ s ⟨c, ns, i, r, m, n, e, h⟩ => ⟨c, ns, i, r, m, n, e, h.mono s⟩
def preDraw (K : PySem.W.Frag) (M : Ml) (as : List D) : Prop := ∃ b m, as = [.raw (.ref b), .int m] ∧ (b, IsBag K) ∈ M ∧ 0 < m ∧ m < 1073741824
def postDraw (as : List D) (d : D) : Prop := ∃ i : Int, d = .int i ∧ 0 ≤ i ∧ ∀ b m, as = [.raw (.ref b), .int m] → i < m
/-- what the walk of a draw must show -/
theorem draw_of {K : PySem.W.Frag} {vs : List V} {H : Hp} {Q : VK} {E : XK} (h : spF K (preDraw K) postDraw vs H Q E) : ∃ (b : Addr) (m : Int) (c : Addr) (ns : List Int) (i r mx n : Int), vs = [.ref b, .int m] ∧ 0 < m ∧ m < 1073741824 ∧ H b = some (bagL c i r mx n) ∧ H c = some (.lst (ns.map V.int)) ∧ c ≠ b ∧
    ns.length ≤ 63 ∧ 0 ≤ i ∧ 0 ≤ r ∧ 0 ≤ mx ∧ mx < 2147483648 ∧
    ∀ (d i' r' mx' n' : Int), 0 ≤ d → d < m → 0 ≤ i' → 0 ≤ r' → 0 ≤ mx' → mx' < 2147483648 → Q (.int d) (upd H b (bagL c i' r' mx' n')) := by
  obtain ⟨M, G, as, wd, ra, ⟨b, m, rfl, hb, h0, h1⟩, q, _⟩ := h
  obtain ⟨gb, o, ho, c, ns, i, r, mx, n, rfl, B⟩ := wd.mt _ hb
  cases ra with
  | cons p ra =>
    cases ra with
    | cons p2 ra =>
      cases ra
      have e1 := p.raw_inv
      have e2 := p2.int_inv
      subst e1; subst e2
      have gb' : G b = none := gb
      refine ⟨b, m, c, ns, i, r, mx, n, rfl, h0, h1, ho, wd.sub _ _ B.cells, fun e => ?_, B.len, B.i0, B.r0, B.m0, B.m1, fun d i' r' mx' n' hd0 hd1 a1 a2 a3 a4 => ?_⟩
      · have := B.cells
        rw [e, gb'] at this
        cases this
      · exact q (.int d) (.int d) G _ (Same.refl G) (wd.write hb ⟨c, ns, i', r', mx', n', rfl, B.cells, B.len, a1, a2, a3, a4⟩) (.int d) ⟨d, rfl, hd0, fun b' m' e => by cases e; exact hd1⟩
end Rg
namespace Rg
open PySem L2 RZ PyProof.Rows
theorem atI_in {α : Type} {xs : List α} {i : Int} (h0 : 0 ≤ i) (h1 : i < (xs.length : Int)) : ∃ x, L2.atI xs i = some x ∧ xs[i.toNat]? = some x ∧ x ∈ xs := by
  have hl : i.toNat < xs.length := by omega
  refine ⟨xs[i.toNat], ?_, List.getElem?_eq_getElem hl, List.getElem_mem hl⟩
  unfold L2.atI ixN
  rw [if_pos h0, if_pos h1]
  exact List.getElem?_eq_getElem hl
theorem item_in {d : D} {es : List D} {i : Int} (h : itemsD d = some es) (hl : lenD d = some es.length) (hq : ∀ xs, d ≠ .seq xs) (h0 : 0 ≤ i) (h1 : i < (es.length : Int)) : ∃ e, itemD d i = some e ∧ es[i.toNat]? = some e ∧ e ∈ es := by
  cases d with
  | list xs => cases h; exact atI_in h0 h1
  | tup xs => cases h; exact atI_in h0 h1
  | seq xs => exact absurd rfl (hq xs)
  | str x =>
    cases h
    replace hl : (if x.length ≤ 100000 then some x.length else none) = some (signsD x).length := hl
    split at hl
    · rename_i hx
      have e1 : (signsD x).length = x.cps.toList.length := by unfold signsD; rw [List.length_map]
      obtain ⟨c, h3, h4, h5⟩ := atI_in (xs := x.cps.toList) h0 (by rw [← e1]; exact h1)
      refine ⟨.str ⟨#[c]⟩, ?_, ?_, ?_⟩
      · show (if x.length ≤ 100000 then (L2.atI x.cps.toList i).map fun c => D.str ⟨#[c]⟩ else none) = _
        rw [if_pos hx, h3]; rfl
      · unfold signsD; rw [List.getElem?_map, h4]; rfl
      · unfold signsD; exact List.mem_map.mpr ⟨c, h5, rfl⟩
    · cases hl
  | _ => cases h
def preOf (K : PySem.W.Frag) (M : Ml) (as : List D) : Prop := ∃ b d es, as = [.raw (.ref b), d] ∧ (b, IsBag K) ∈ M ∧ itemsD d = some es ∧ lenD d = some es.length ∧ (∀ xs, d ≠ .seq xs) ∧ 0 < es.length ∧ es.length ≤ 100000
def postOf (as : List D) (r : D) : Prop := ∀ b d es, as = [.raw (.ref b), d] → itemsD d = some es → r ∈ es
section
variable {K : PySem.W.Frag} {M : Mt} {ds : DS} {ta tb : TE} {b : Addr} {E : XK}
theorem ev_draw {m : Int} (ha : Ev K M ds ta (· = .raw (.ref b))) (hb : Ev K M ds tb (· = .int m)) (hm : (b, IsBag K) ∈ M) (h0 : 0 < m) (h1 : m < 1073741824) :
    Ev K M ds (tCall (spF K (preDraw K) postDraw) [] E (tCons ta (tCons tb tNil))) (fun d => ∃ i : Int, (0 ≤ i ∧ i < m) ∧ d = .int i) :=
  (ev_call1 (ea1 ha (ea1 hb ea_nil)) fun M' ms => ⟨b, m, rfl, ms.l _ hm, h0, h1⟩).weak fun d ⟨i, e, i0, i1⟩ => ⟨i, ⟨i0, i1 b m rfl⟩, e⟩
theorem run_of_body {E2 : AE} {d : D} {es : List D} (hm : (b, IsBag K) ∈ M) (h : itemsD d = some es) (hl : lenD d = some es.length) (hq : ∀ xs, d ≠ .seq xs) (h0 : 0 < es.length) (h1 : es.length ≤ 100000) (hr : ∀ e ∈ es, E2.rt e) :
    Run K M [some (.raw (.ref b)), some d] (tRet (tOp (rIx K) (tVar 1) (tCall (spF K (preDraw K) postDraw) [] E (tCons (tVar 0) (tCons (tCB (rLenR K) (tCons (tVar 1) tNil)) tNil))))) E2 := by
  refine run_ret (ev_op (ev_var rfl) (ev_draw (m := (es.length : Int)) (ev_var rfl) (ev_cb1 (ea1 (ev_var rfl) ea_nil) (cd_len hl)) hm (by omega) (by omega)) fun a c ea ⟨i, ⟨i0, i1⟩, ec⟩ => ?_)
  rw [ea, ec]
  obtain ⟨e, e1, _, e2⟩ := item_in h hl hq i0 i1
  intro M' G H x y Q m rx ry w q
  exact od_ix (M := M) e1 M' G H x y Q m rx ry w fun v d G' H' s' w' r' ed => q v d G' H' s' w' r' (by rw [ed]; exact hr e e2)
theorem ev_of {d : D} {es : List D} (ha : Ev K M ds ta (· = .raw (.ref b))) (hb : Ev K M ds tb (· = d)) (hm : (b, IsBag K) ∈ M) (h : itemsD d = some es) (hl : lenD d = some es.length) (h0 : 0 < es.length := by exact Nat.le_of_ble_eq_true rfl) (h1 : es.length ≤ 100000 := by exact Nat.le_of_ble_eq_true rfl) (hq : ∀ xs, d ≠ .seq xs := by intro _ h; cases h) :
    Ev K M ds (tCall (spF K (preOf K) postOf) [] E (tCons ta (tCons tb tNil))) (· ∈ es) :=
  (ev_call1 (ea1 ha (ea1 hb ea_nil)) fun M' ms => ⟨b, d, es, rfl, ms.l _ hm, h, hl, hq, h0, h1⟩).weak fun r q => q b d es rfl h
theorem ev_kw1 {tk : TA} {d : D} {pre : Ml → List D → Prop} {post : List D → D → Prop} (hk : EvA K M ds tk (· = [d])) (hp : ∀ M', MSub M M' → pre M'.l [d]) : Ev K M ds (tCallK (spF K pre post) kg1 E tNil tk) (post [d]) :=
  ev_callK (gD := kg1) ea_nil hk (fun G vs zs as ks e1 e2 r1 r2 => by
    subst e1; subst e2
    cases r1
    cases r2 with
    | cons p r => cases r; exact .cons p .nil) fun as ks e1 e2 => by subst e1; subst e2; exact ⟨hp, fun _ q => q⟩
theorem ev_kw3r {tk : TA} {a b c : D} {pre : Ml → List D → Prop} {post : List D → D → Prop} (hk : EvA K M ds tk (· = [a, b, c])) (hp : ∀ M', MSub M M' → pre M'.l [c, b, a]) : Ev K M ds (tCallK (spF K pre post) kg3r E tNil tk) (post [c, b, a]) :=
  ev_callK (gD := kg3r) ea_nil hk (fun G vs zs as ks e1 e2 r1 r2 => by
    subst e1; subst e2
    cases r1
    cases r2 with
    | cons p r =>
      cases r with
      | cons p2 r =>
        cases r with
        | cons p3 r => cases r; exact .cons p3 (.cons p2 (.cons p .nil))) fun as ks e1 e2 => by subst e1; subst e2; exact ⟨hp, fun _ q => q⟩
theorem ev_eq {te : TE} {d d' : D} (h : Ev K M ds te (· = d)) (e : d = d') : Ev K M ds te (· = d') := e ▸ h
end
end Rg
namespace Rg
open PySem L2 RZ PyProof.Rows
section
variable {K : PySem.W.Frag} {M : Mt} {G : Hp} {σ : L2.St} {ds : DS} {v : V} {d : D}
/-! ### slots one by one; slots forgotten -/
theorem sg_nil : Sg K G [] [] := ⟨rfl, fun i d e => by simp at e⟩
theorem sg_some (r : Rp K G v d) (s : Sg K G σ ds) : Sg K G (some v :: σ) (some d :: ds) := ⟨by simp [s.len], fun i d' e => by
  match i, e with
  | 0, e => cases e; exact ⟨v, rfl, r⟩
  | i + 1, e => exact s.at_ i d' e⟩
theorem sg_none {x : Option V} (s : Sg K G σ ds) : Sg K G (x :: σ) (none :: ds) := ⟨by simp [s.len], fun i d' e => by
  match i, e with
  | 0, e => cases e
  | i + 1, e => exact s.at_ i d' e⟩
inductive Fg : DS → DS → Prop where
  | nil : Fg [] []
  | keep {x : Option D} {a b : DS} : Fg a b → Fg (x :: a) (x :: b)
  | drop {x : Option D} {a b : DS} : Fg a b → Fg (x :: a) (none :: b)
theorem Fg.refl : ∀ a : DS, Fg a a
  | [] => .nil
  | _ :: r => .keep (Fg.refl r)
theorem Fg.get : ∀ {a b : DS}, Fg a b → ∀ (i : Nat) (d : D), b[i]? = some (some d) → a[i]? = some (some d)
  | _, _, .nil, i, d, e => e
  | _, _, .keep h, 0, d, e => e
  | _, _, .keep h, i + 1, d, e => Fg.get h i d e
  | _, _, .drop h, 0, d, e => by cases e
  | _, _, .drop h, i + 1, d, e => Fg.get h i d e
theorem Fg.length : ∀ {a b : DS}, Fg a b → a.length = b.length
  | _, _, .nil => rfl
  | _, _, .keep h => by rw [List.length_cons, List.length_cons, h.length]
  | _, _, .drop h => by rw [List.length_cons, List.length_cons, h.length]
theorem Sg.forget {b : DS} (s : Sg K G σ ds) (f : Fg ds b) : Sg K G σ b := ⟨by rw [s.len, f.length], fun i d e => s.at_ i d (f.get i d e)⟩
theorem run_forget {b : DS} {t : TS} {E : AE} (f : Fg ds b) (h : Run K M b t E) : Run K M ds t E := fun M' σ G H Z m s w z => h M' σ G H Z m (s.forget f) w z
/-- a for whose turns begin alike: what they store is forgotten -/
theorem run_forF {wi : TI} {g : TG} {tb : TS} {RI : List D → Prop} {E : AE} (b0 : DS) (hI : EvI K M ds wi RI) (h0 : Fg ds b0)
    (hs : ∀ es (i : Nat) d, RI es → es[i]? = some d → EvG K M none g d b0 (fun ds2 => Run K M ds2 tb { nx := fun ds' => Fg ds' b0, ct := fun ds' => Fg ds' b0, bk := E.nx, rt := E.rt })) (hd : E.nx b0) : Run K M ds (tFor wi g tb) E := fun M' σ G H Z m s w z =>
  hI M' σ G H _ m s w fun J es G1 H1 s1 w1 hes W => by
    refine for_it (n := es.length) (G := fun H => ∃ G2, Same G1 G2 ∧ Wd M' G2 H) (Y := fun i H x H' => J.yld i H x H') ⟨fun i H hi ⟨G2, s2, w2⟩ => W.goes i H G2 M' hi s2 w2, fun H ⟨G2, s2, w2⟩ => W.stops H G2 M' s2 w2, fun i H x H' _ _ y => y⟩
      (fun i σ' H' => ∃ G2, Same G1 G2 ∧ Sg K G2 σ' b0 ∧ Wd M' G2 H') ⟨G1, Same.refl _, (s.mono s1).forget h0, w1⟩ (fun i σ' H' _ ⟨G2, s2, _, w2⟩ => ⟨G2, s2, w2⟩) (fun i x σ' H2 H3 hi ⟨G2, s2, sg, w2⟩ y => ?_)
      (fun σ' H' ⟨G2, s2, sg, w2⟩ => z.nx b0 σ' G2 H' hd (s1.trans s2) sg w2)
    obtain ⟨G3, d, s3, w3, hd', rd⟩ := W.yields i H2 x H3 G2 M' hi s2 w2 y
    refine hs es i d hes hd' M' σ' G3 H3 x _ m (sg.mono s3) w3 rd fun ds2 σ2 G4 H4 hr s4 sg4 w4 _ => ?_
    have s14 := (s2.trans s3).trans s4
    exact hr M' σ2 G4 H4 _ m sg4 w4 ⟨fun ds5 σ5 G5 H5 r5 s5 sg5 w5 => ⟨G5, s14.trans s5, sg5.forget r5, w5⟩, fun v d G5 H5 r5 s5 rp5 w5 => z.rt v d G5 H5 r5 (s1.trans (s14.trans s5)) rp5 w5,
      fun ds5 σ5 G5 H5 r5 s5 sg5 w5 => z.nx ds5 σ5 G5 H5 r5 (s1.trans (s14.trans s5)) sg5 w5, fun ds5 σ5 G5 H5 r5 s5 sg5 w5 => ⟨G5, s14.trans s5, sg5.forget r5, w5⟩⟩
theorem ei_range {ta : TA} {n : Int} (h : EvA K M ds ta (· = [.int n])) (hn : -(2 ^ 62) ≤ n ∧ n < 2 ^ 62) : EvI K M ds (iRng1 ta) (· = rangeD 0 n.toNat) := fun M' σ G H Z m s w q =>
  ei_range1 h (fun l e => ⟨n, e, hn.1, hn.2⟩) M' σ G H Z m s w fun J es G' H' a b ⟨j, ej, e2⟩ => q J es G' H' a b (by cases ej; exact e2)
variable {ta tb : TE} {b : Addr} {E : XK} {R : D → Prop}
/-- a draw out of a list that was drawn itself -/
theorem ev_ofR {Rb : D → Prop} (ha : Ev K M ds ta (· = .raw (.ref b))) (hb : Ev K M ds tb Rb) (hm : (b, IsBag K) ∈ M) (h : ∀ d, Rb d → ∃ es, itemsD d = some es ∧ lenD d = some es.length ∧ (∀ xs, d ≠ .seq xs) ∧ 0 < es.length ∧ es.length ≤ 100000 ∧ ∀ e ∈ es, R e) :
    Ev K M ds (tCall (spF K (preOf K) postOf) [] E (tCons ta (tCons tb tNil))) R :=
  ev_call (ea_cons ha (ea_cons hb ea_nil)) fun as ⟨a, r, e, e1, c, r2, e2, hc, e3⟩ => by
    subst e3; subst e2; subst e1; subst e
    obtain ⟨es, h1, h2, h3, h4, h5, h6⟩ := h c hc
    exact ⟨fun M' ms => ⟨b, c, es, rfl, ms.l _ hm, h1, h2, h3, h4, h5⟩, fun r q => h6 r (q b c es rfl h1)⟩
end
section
variable {K : PySem.W.Frag} {M : Mt} {ds : DS} {ta tb : TE}
theorem od_weak {r : R2} {a b : D} {R R' : D → Prop} (h : OpD K M r a b R) (f : ∀ d, R d → R' d) : OpD K M r a b R' := fun M' G H x y Q m rx ry w q => h M' G H x y Q m rx ry w fun v d G' H' s' w' r' e => q v d G' H' s' w' r' (f d e)
theorem EvI.weak {wi : TI} {R R' : List D → Prop} (h : EvI K M ds wi R) (f : ∀ es, R es → R' es) : EvI K M ds wi R' := fun M' σ G H Z m s w q => h M' σ G H Z m s w fun J es G' H' s' w' e W => q J es G' H' s' w' (f es e) W
/-- whole numbers that are drawn -/
abbrev anyInt : D → Prop := fun d => ∃ i : Int, d = .int i
theorem ev_subAny (ha : Ev K M ds ta anyInt) (hb : Ev K M ds tb anyInt) : Ev K M ds (tOp (rI0 fun i j => V.int (i - j)) ta tb) anyInt := ev_op ha hb fun a b ⟨i, e1⟩ ⟨j, e2⟩ => by rw [e1, e2]; exact od_weak od_subI fun d e => ⟨_, e⟩
theorem ev_addAny (ha : Ev K M ds ta anyInt) (hb : Ev K M ds tb anyInt) : Ev K M ds (tOp (rAddU K) ta tb) anyInt := ev_op ha hb fun a b ⟨i, e1⟩ ⟨j, e2⟩ => by rw [e1, e2]; exact od_weak od_addI fun d e => ⟨_, e⟩
theorem ev_any {te : TE} {R : D → Prop} (h : Ev K M ds te R) (f : ∀ d, R d → anyInt d) : Ev K M ds te anyInt := h.weak f
end
/-! ### texts of signs -/
theorem foldl_ones : ∀ (cs : List Nat) (acc : Array Nat), ((cs.map fun c => (⟨#[c]⟩ : Str)).foldl (fun acc p => acc ++ (Str.ofString "").cps ++ p.cps) acc) = acc ++ cs.toArray
  | [], acc => by simp
  | c :: r, acc => by
    rw [List.map_cons, List.foldl_cons, foldl_ones r]
    have e : (Str.ofString "").cps = #[] := by decide +kernel
    rw [e]
    simp
theorem join0 (cs : List Nat) : Txt.join (Str.ofString "") (cs.map fun c => (⟨#[c]⟩ : Str)) = ⟨cs.toArray⟩ := by
  show Builtin.Str.glued (Str.ofString "") _ = _
  cases cs with
  | nil => rfl
  | cons c r =>
    show (⟨((r.map fun c => (⟨#[c]⟩ : Str)).foldl (fun acc p => acc ++ (Str.ofString "").cps ++ p.cps) #[c])⟩ : Str) = _
    rw [foldl_ones]
    simp
theorem sum_ones (cs : List Nat) : ((cs.map fun c => (⟨#[c]⟩ : Str)).map (·.length)).sum = cs.length := by
  induction cs with
  | nil => rfl
  | cons c r ih =>
    rw [List.map_cons, List.map_cons, List.sum_cons, ih]
    show 1 + r.length = r.length + 1
    omega
/-- signs that were drawn -/
theorem signs_all {x : Str} : ∀ {acc : List D}, (∀ (i : Nat) y, acc[i]? = some y → y ∈ signsD x) → ∃ cs : List Nat, acc = (cs.map fun c => (⟨#[c]⟩ : Str)).map D.str ∧ ∀ c ∈ cs, c ∈ x.cps.toList
  | [], _ => ⟨[], rfl, fun _ h => by cases h⟩
  | y :: r, h => by
    obtain ⟨cs, e, hc⟩ := signs_all (acc := r) fun i z hz => h (i + 1) z hz
    obtain ⟨c, hc1, rfl⟩ := List.mem_map.mp (h 0 y rfl)
    refine ⟨c :: cs, by rw [e]; rfl, fun d hd => ?_⟩
    rcases List.mem_cons.mp hd with rfl | hd
    · exact hc1
    · exact hc d hd
theorem cutS_len (z : Str) (lo hi : Option Int) : (cutS z lo hi).length ≤ z.length := by
  show (((z.cps.toList.drop _).take _).toArray).size ≤ z.cps.size
  simp
  omega
end Rg
namespace Rg
open PySem L2 RZ PyProof.Rows PySem.Builtin PySem.Builtin.ObjectAttr
/-- an own class of errors over a built-in one, with an __init__ of its own -/
structure Xc (K : PySem.W.Frag) (C : Addr) : Prop where
  base : ∃ (B newId initId : String) (bmB : List Value), ExcBaseFacts B newId initId bmB ∧ StoreFacts B bmB "object.__setattr__" "object" ∧ PySem.W.excInitIn K C bmB newId = true ∧ PySem.W.excOver K C bmB = true
  dct : PySem.W.hasDictIn K C = true
  sa : PySem.W.findIn K (.ref C) "__setattr__" = some (some (.builtin "object.__setattr__"))
  exC : PySem.W.subIn K (.ref C) (.type "BaseException") = some true
  tyC : PySem.W.typeIn K (.ref C) = some (.type "type")
  kC : PySem.W.keepIn K (.ref C) = true
section
variable {prog : Program} {w : World} {A : Around} {R : Result → Shared → Prop} {hp : Heap} {g : Array GenState} {d : Drawn} {t : Nat} {os : OsState}
variable {K : PySem.W.Frag} {x C dx : Addr} {f : Str} {tk : Tok} {v : Value} {fv : Array Value} {m0 : Str → Option Value} {nl : List Str}
theorem xdict (T : Xc K C) : ∃ cd : ClassData, PySem.W.clsIn K C = some cd ∧ cd.hasDict = true := by
  have h := T.dct
  unfold PySem.W.hasDictIn at h
  cases e : PySem.W.clsIn K C with
  | none => rw [e] at h; cases h
  | some cd => rw [e] at h; exact ⟨cd, rfl, h⟩
/-- the first field: the object gets its dict -/
theorem xstore_new (T : Xc K C) (X : K.In hp) (hx : hp.get? x = some { cls := .ref C, data := .fields fv }) (ha : PySem.W.findIn K (.ref C) f = some none)
    (hq : ∀ h' tk' dx, (∀ b o, b ≠ x → hp.get? b = some o → h'.get? b = some o) → hp.objs.size ≤ dx → dx ≠ x → h'.get? x = some { cls := .ref C, dict := some dx, data := .fields fv } → h'.Ns1 dx (fun y => if y = f then some v else none) → R (.ok (.ret .none)) ⟨h', g, d, tk', os⟩) :
    codeAny (model prog w) A (.call (.builtin "object.__setattr__") ⟨[.ref x, .str f tk, v], []⟩) R ⟨hp, g, d, t, os⟩ := by
  obtain ⟨B, newId, initId, bmB, FB, SF, _, hov⟩ := T.base
  obtain ⟨cd, hcd, hh⟩ := xdict T
  have I : PySem.W.InstAt hp x { cls := .ref C, data := .fields fv } C none := ⟨hx, rfl, rfl, trivial⟩
  have apart : x ≠ hp.objs.size := Nat.ne_of_lt (Heap.lt_size hx)
  refine PySem.W.osa_openX (s := ⟨hp, g, d, t, os⟩) SF X I hov (r := none) (by unfold PySem.W.takerIn; rw [ha]; rfl) fun b => ?_
  have lk : PySem.W.Looks (model prog w) hp (classData C) cd := PySem.W.looks_clsIn X hcd
  obtain ⟨c1, c2, c3, c4, c5, c6, c7, c8, c9, c10, c11⟩ := cd
  dsimp only at hh ⊢
  subst hh
  unfold storeInOwnDict ownDictForStores
  repeat (first | (with_reducible refine PySem.HandSPX.store_in_new ?_ ?_) | (with_reducible refine lk.at ?_) | (with_reducible refine wpAny_loadPart_at hx ?_) | wp_step)
  · refine ⟨_, #[], _, (Heap.get?_update_ne _ _ _ _ apart.symm).trans (Heap.get?_push_at rfl rfl), rfl, fun z hz => ?_, fun _ => rfl⟩
    simp at hz
  · intro h2 tk2 ns sb
    have up : (hp.push { cls := .type "dict", data := .dict #[] }).get? x = some { cls := .ref C, data := .fields fv } := Heap.get?_push_of_some _ hx
    refine hq h2 tk2 hp.objs.size (fun c o hc ho => ?_) (Nat.le_refl _) apart.symm ?_ ns
    · have e1 := sb.2 c (Nat.ne_of_lt (Heap.lt_size ho))
      exact e1.trans ((Heap.get?_update_ne _ _ _ _ hc).trans (Heap.get?_push_of_some _ ho))
    · have e1 := sb.2 x apart
      exact e1.trans (Heap.get?_update_self _ up rfl)
/-- a further field -/
theorem xstore_old (T : Xc K C) (X : K.In hp) (hx : hp.get? x = some { cls := .ref C, dict := some dx, data := .fields fv }) (hn : hp.Ns1 dx m0) (hw : Within m0 nl) (hz : nl.length ≤ 1000) (ha : PySem.W.findIn K (.ref C) f = some none)
    (hq : ∀ h' tk', (∀ b o, b ≠ dx → hp.get? b = some o → h'.get? b = some o) → h'.Ns1 dx (fun y => if y = f then some v else m0 y) → R (.ok (.ret .none)) ⟨h', g, d, tk', os⟩) :
    codeAny (model prog w) A (.call (.builtin "object.__setattr__") ⟨[.ref x, .str f tk, v], []⟩) R ⟨hp, g, d, t, os⟩ := by
  obtain ⟨B, newId, initId, bmB, FB, SF, _, hov⟩ := T.base
  obtain ⟨cd, hcd, hh⟩ := xdict T
  obtain ⟨oD, _, _, hoD, _, _⟩ := hn.count hw
  have I : PySem.W.InstAt hp x { cls := .ref C, dict := some dx, data := .fields fv } C (some oD) := ⟨hx, rfl, rfl, hoD⟩
  refine PySem.W.osa_openX (s := ⟨hp, g, d, t, os⟩) SF X I hov (r := none) (by unfold PySem.W.takerIn; rw [ha]; rfl) fun b => ?_
  have lk : PySem.W.Looks (model prog w) hp (classData C) cd := PySem.W.looks_clsIn X hcd
  obtain ⟨c1, c2, c3, c4, c5, c6, c7, c8, c9, c10, c11⟩ := cd
  dsimp only at hh ⊢
  subst hh
  unfold storeInOwnDict ownDictForStores
  repeat (first | (with_reducible refine PySem.OEX.store_in_old hn hw hz ?_) | (with_reducible refine lk.at ?_) | (with_reducible refine wpAny_loadPart_at hx ?_) | wp_step)
  intro h2 tk2 ns sb
  exact hq h2 tk2 (fun c o hc ho => (sb.2 c hc).trans ho) ns
end
section
variable {X : Cx} {pins : List (Addr × Obj)} {σ : L2.St} {H : Hp} {s : Shared} {a C dx : Addr} {f : Str} {y : V} {u : Value} {fs : List (Str × V)} {Q : Unit → Shared → Prop} {E : Value → Shared → Prop} {A : Around}
/-- self.f = y on an error that is being made, over the layer's state -/
theorem xset_new (T : Xc X.K C) (J : Inv X pins σ H s) (e : H a = some (exo a C none)) (hno : PySem.W.findIn X.K (.ref C) f = some none) (ry : RelV y u)
    (h : ∀ dx s', H dx = none → dx ≠ a → Inv X pins σ (upd (upd H dx (exd dx [(f, y)])) a (exo a C (some dx))) s' → Q () s') : wpAny (model X.prog X.w) A (setAttr (.ref a) f u) Q E s := by
  obtain ⟨t1, ho⟩ := exo_at J.hok e
  obtain ⟨hp, g, d, t, os⟩ := s
  refine PySem.W.set_plain J.kIn (od := none) ⟨ho, rfl, rfl, trivial⟩ T.sa ?_
  refine xstore_new T J.kIn ho hno fun h2 tk2 dx k dn dne hx hn => ?_
  have fresh : H dx = none := J.hok.fresh dn
  have ltd : ∀ {b : Addr} {o : Obj}, hp.get? b = some o → b ≠ dx := fun {b o} q => Nat.ne_of_lt (Nat.lt_of_lt_of_le (Heap.lt_size q) dn)
  have nea : ∀ {b : Addr}, H b = none → b ≠ a := fun {b} n z => by
    subst z
    rw [n] at e
    cases e
  have at2 : ∀ b u, H b = some u → u ≠ exo a C none → upd (upd H dx (exd dx [(f, y)])) a (exo a C (some dx)) b = some u := fun b u q ne => by
    have b1 : b ≠ a := fun z => by
      subst z
      rw [e] at q
      exact ne (Option.some.inj q).symm
    rw [upd_ne b1, upd_ne (ne_of_none q fresh)]
    exact q
  refine h dx _ fresh dne (J.un (t' := tk2) ⟨fun b o q n _ _ => k b o (nea n) q, fun b o q n _ _ => ⟨o.slots, k b o (nea n) q⟩, fun b o q n _ => ?_, fun b o q _ => ?_, fun b xs q => at2 b _ q fun z => exo_tup z.symm, fun b o v q => at2 b _ q fun z => exo_frz z.symm, fun b ps q => ⟨#[], ?_⟩⟩ fun b o q => ?_)
  · rw [upd_ne (nea n), upd_ne (ltd q)]
    exact n
  · by_cases hb : b = a
    · subst hb; exact ⟨_, hx⟩
    · exact ⟨o, k b o hb q⟩
  · rw [at2 b _ q fun z => exo_tbl z.symm]
    simp
  · by_cases hb : b = a
    · subst hb
      rw [upd_same] at q
      cases q
      exact exo_ok hx
    · rw [upd_ne hb] at q
      by_cases hd : b = dx
      · subst hd
        rw [upd_same] at q
        cases q
        exact exd_ok hn (relO_put (fs := []) ry fun _ => True.intro)
      · rw [upd_ne hd] at q
        refine (J.hok b o q).stay (fun c v hc z => k c v (fun w' => ?_) z) (fun c hc => at2 c _ hc fun z => exo_own z.symm) fun c xs hc => at2 c _ hc fun z => exo_tup z.symm
        subst w'
        rcases hc with hc | hc
        · exact hb hc.symm
        · rw [e] at hc
          exact exo_own (Option.some.inj hc)
theorem xset_old (T : Xc X.K C) (J : Inv X pins σ H s) (e : H a = some (exo a C (some dx))) (ed : H dx = some (exd dx fs)) (hl : fs.length ≤ 900) (hno : PySem.W.findIn X.K (.ref C) f = some none) (ry : RelV y u)
    (h : ∀ s', Inv X pins σ (upd H dx (exd dx ((f, y) :: fs))) s' → Q () s') : wpAny (model X.prog X.w) A (setAttr (.ref a) f u) Q E s := by
  obtain ⟨t1, ho⟩ := exo_at J.hok e
  obtain ⟨mA, ns, rel⟩ := exd_at J.hok ed
  have wi := within_of rel
  obtain ⟨hp, g, d, t, os⟩ := s
  obtain ⟨oD, _, _, hoD, _, _⟩ := ns.count wi
  refine PySem.W.set_plain J.kIn (od := some oD) ⟨ho, rfl, rfl, hoD⟩ T.sa ?_
  refine xstore_old T J.kIn ho ns wi (by rw [List.length_map]; omega) hno fun h2 tk2 k hn => ?_
  refine h _ (J.write (t' := tk2) (x := dx) (e := dx) (o := exd dx ((f, y) :: fs)) (by rw [ed]; exact True.intro) (.inl rfl) k ?_ (exd_ok hn (relO_put ry rel)))
  obtain ⟨o, _, _, e2, _⟩ := hn
  exact ⟨o, e2⟩
end
end Rg
namespace Rg
open PySem L2 RZ PyProof.Rows
/-- self.f = e, self an error that is being made -/
def tXst (K : PySem.W.Frag) (f : Str) (to te : TE) : TS := fun Z σ H => te σ H fun y H1 => to σ H1 fun x H2 => ∃ a C : Addr, x = .ref a ∧ Xc K C ∧ PySem.W.findIn K (.ref C) f = some none ∧
  ((H2 a = some (exo a C none) ∧ ∀ dx, H2 dx = none → dx ≠ a → Z.nx σ (upd (upd H2 dx (exd dx [(f, y)])) a (exo a C (some dx)))) ∨
    ∃ (dx : Addr) (fs : List (Str × V)), H2 a = some (exo a C (some dx)) ∧ H2 dx = some (exd dx fs) ∧ fs.length ≤ 900 ∧ Z.nx σ (upd H2 dx (exd dx ((f, y) :: fs))))
/-- C(e, ..) of an own error as a value -/
def tXmk (C : Addr) (sp : Sp) (dvs : List V) (ta : TA) : TE := fun σ H Q => ta σ H fun vs H1 => vs.length ≤ 1000 ∧ ∀ a, H1 a = none → sp (.ref a :: (vs ++ dvs)) (upd H1 a (exo a C none)) (fun v H2 => v = .non ∧ Q (.ref a) H2) (fun _ _ _ => False)
section
variable {X : Cx} {o e : Expr} {es : List Expr} {to te : TE} {ta : TA} {f : Str} {p p' pos : Pos}
theorem ps_xset (ho : PE X o to) (he : PE X e te) (hs : swapsWith e (some (.Attribute o f p')) pos.line X.env = pure false := by rfl) : PS X (.Assign [.Attribute o f p'] e pos) (tXst X.K f to te) :=
  ⟨fun pins s σ H Z J h => plainObj_wpAny_Assign_Attribute (thn (he.run pins s σ H _ J h) fun v s1 ⟨y, H1, J1, r1, q1⟩ => thn (ho.run pins s1 σ H1 _ J1 q1) fun u s2 ⟨x, H2, J2, r2, a, C, ex, T, hno, q⟩ => by
    subst ex
    obtain rfl : u = Value.ref a := r2
    rcases q with ⟨ea, q⟩ | ⟨dx, fs, ea, ed, hl, q⟩
    · exact xset_new T J2 ea hno r1 fun dx s3 n ne J3 => ⟨σ, _, J3, q dx n ne⟩
    · exact xset_old T J2 ea ed hl hno r1 fun s3 J3 => ⟨σ, _, J3, q⟩) hs⟩
theorem pe_xmk {CX : CXT} {x : Str} {C fI : Addr} {k : Nat} {fd : FuncData} {ps : List Str} {sp : Sp} {ds : List Value} {dvs : List V} (T : Xc X.K C) (iC : PySem.W.findIn X.K (.ref C) "__init__" = some (some (.ref fI))) (tI : PySem.W.typeIn X.K (.ref fI) = some (.type "function"))
    (FI : FnOk X.prog X.w X.K X.mg X.base CX k fI fd ps sp) (hr : Room (k + 1) X.A) (hb : Binds X.K fd ps ds) (hd : Vals dvs ds) (hx : Passes CX X (fun _ _ _ => False)) (hg : Gl X x) (hm : X.mg x = some (.ref C)) (ha : PA X (e :: es) ta)
    (hdb : (x == ("__debug__" : Str)) = false := by decide) (he : starEach (e :: es) X.env = (false, eval e X.env) :: starEach es X.env := by rfl) (hpl : (backTo pos (starEach es X.env)).any (·.1) = false := by rfl) :
    PE X (.Call (.Name x p) (e :: es) [] pos) (tXmk C sp dvs ta) := by
  refine ⟨fun pins s σ H Q J h => ?_⟩
  obtain ⟨B, newId, initId, bmB, FB, SF, hin, hov⟩ := T.base
  refine wpAny_Call_Name_kw (ld_glob J hg hm ?_ hdb)
  refine PySem.W.callWith_K (h₀ := X.base) J.ok.mod.kin T.kC (thn (ha.run pos pins s σ H _ J h) fun us s1 ⟨vs, H1, J1, r1, hz, q1⟩ => ⟨J1.kIn, ?_⟩) he hpl
  obtain ⟨hp, g, dr, tk, os⟩ := s1
  obtain ⟨nm, N, q, bs, bm, hdct, sn, sub, ab, col, dd, k0, k1, k2, k3, k5, hC, hT⟩ := PySem.W.excInit_of J1.kIn hin
  show wpAny _ _ (call (.ref C) us) _ _ _
  have up : hp.objs.size ≤ hp.objs.size + 1 := Nat.le_succ _
  have fr : H1 (hp.objs.size + 1) = none := J1.hok.fresh up
  have got : ((hp.push (PySem.W.kdv_tup us)).push (PySem.HandSPX.excO C hp.objs.size)).get? (hp.objs.size + 1) = some (PySem.HandSPX.excO C hp.objs.size) := by heap_get
  have J2 := J1.laid (t' := tk) (a := hp.objs.size + 1) (o := exo (hp.objs.size + 1) C none) (h' := (hp.push (PySem.W.kdv_tup us)).push (PySem.HandSPX.excO C hp.objs.size)) (fun b o z => Heap.get?_push_of_some _ (Heap.get?_push_of_some _ z)) up (exo_ok got)
  have want := q1 (hp.objs.size + 1) fr
  have rel : Vals (V.ref (hp.objs.size + 1) :: (vs ++ dvs)) (Value.ref (hp.objs.size + 1) :: (us ++ ds)) := .cons rfl (r1.append hd)
  have len : (Value.ref (hp.objs.size + 1) :: us ++ ds).length = ps.length := (rel.length.symm).trans (FI.len _ _ _ _ want)
  have small : us.length ≤ sizeLine := Nat.le_trans (show us.length ≤ 1000 by rw [← r1.length]; exact hz) (by decide)
  refine wpAny_call (PySem.HandSPX.call_own FB hT hC (PySem.W.looks_findIn J1.kIn iC) (fun self => PySem.W.bind_fn J1.kIn self tI) small
    (codeAny_mono (FI.run _ X.stack _ _ ⟨Value.ref (hp.objs.size + 1) :: us, []⟩ (Value.ref (hp.objs.size + 1) :: (us ++ ds)) _ _ (fun _ _ _ => False) (hr.make C us []) (J2.env0.make C us []) (hb _ (Value.ref (hp.objs.size + 1) :: us) J2.kIn len) rel want) fun r s2 got2 => ?_))
  cases r with
  | error er => exact hx pins σ _ _ er s2 J2 got2
  | ok fl =>
    cases fl with
    | ret u =>
      obtain ⟨v, H', J3, rv, ev, q3⟩ := J2.after got2
      subst ev
      exact ⟨rv, V.ref (hp.objs.size + 1), H', J3, rfl, q3⟩
    | next => exact False.elim got2
    | brk => exact False.elim got2
    | cont => exact False.elim got2
end
end Rg
namespace PySem
namespace XKw
open PySem.HandSPX
/-! the making of an own error by keywords -/
section
variable {M : Model} {prog : Program} {w : World} {A : Around} {E : Value → Shared → Prop} {R : Result → Shared → Prop} {h : Heap} {g : Array GenState} {d : Drawn} {t : Nat} {os : OsState}
variable {nm q : Str} {C N : Addr} {bs bm bmB : List Value} {hdct : Bool} {sn : List Str} {sub : List Value} {ab : Bool} {col : Option Bool} {dd : Option Addr} {k0 k1 k2 k3 k5 : Option Value} {B newId initId : String} {rest : List Value} {kw : List (Str × Value)}
theorem passes_new (FB : ExcBaseFacts B newId initId bmB) (tl : ∀ Y : String, bm.contains (.type Y) = bmB.contains (.type Y)) {Q : Unit → Shared → Prop} (at_ : h.get? C = some (excClassObj nm q C N bs bm hdct sn sub ab col dd k0 k1 k2 k3 k5 newId)) (hq : Q () ⟨h, g, d, t, os⟩) :
    wpAny M A (checkBuiltinCall newId ⟨.ref C :: rest, kw⟩) Q E ⟨h, g, d, t, os⟩ := by
  have inB : (Value.ref C :: bm).contains (.type B) = true := by rw [List.contains_cons, tl B, FB.hasB]; exact Bool.or_true _
  have nst := FB.noStar
  simp only [checkBuiltinCall, FB.newRow, FB.newKind, FB.newSplit]
  repeat (first | refine wpAny_staticBase_exc at_ ?_ | refine wpAny_madeBy_exc at_ ?_ | refine wpAny_loadPart_at at_ ?_ | (refine wpAny_isSubtype_exc at_ ?_; rw [inB]) | simp only [bne_self_eq_false, Bool.false_eq_true, if_false] | wp_step)
  exact hq
theorem lays_new (FB : ExcBaseFacts B newId initId bmB) (tl : ∀ Y : String, bm.contains (.type Y) = bmB.contains (.type Y)) (at_ : h.get? C = some (excClassObj nm q C N bs bm hdct sn sub ab col dd k0 k1 k2 k3 k5 newId)) (few : rest.length ≤ sizeLine)
    (hq : R (.ok (.ret (.ref (h.objs.size + 1)))) ⟨(h.push { cls := .type "tuple", data := .seq rest.toArray }).push { cls := .ref C, data := .fields #[.ref h.objs.size, .none, .none, .none, .bool false, .none] }, g, d, t, os⟩) :
    codeAny (model prog w) A (.builtin newId ⟨.ref C :: rest, kw⟩) R ⟨h, g, d, t, os⟩ := by
  have ends := FB.ends
  have inN : (Value.ref C :: bm).contains (.type "NameError") = false := by rw [List.contains_cons, tl, FB.noName]; rfl
  have inA : (Value.ref C :: bm).contains (.type "AttributeError") = false := by rw [List.contains_cons, tl, FB.noAttr]; rfl
  have inB : (Value.ref C :: bm).contains (.type B) = true := by rw [List.contains_cons, tl B, FB.hasB]; exact Bool.or_true _
  refine codeAny_builtinAt FB.entry ?_
  unfold Builtin.«BaseException.__new__»
  refine wpAt_bind ?_
  show wpAt _ _ _ (stack >>= _) _ _ _
  refine wpAt_bind (wpAt_stack fun p0 b0 => wpAt_of_wpAny ?_)
  wp_walk
  refine wpAt_of_wpAny ?_
  rw [FB.owner]
  repeat (first | with_reducible refine wpAny_madeHere_exc FB.canon at_ ?_ | with_reducible refine wpAny_loadPart_at at_ ?_ | (with_reducible refine wpAny_isSubtype_exc at_ ?_; first | rw [inB] | rw [inA] | rw [inN]) | wp_step)
  show R _ _
  rw [Heap.size_push]
  exact hq
theorem looks_call {Q : Unit → Shared → Prop} (at_ : h.get? C = some (excClassObj nm q C N bs bm hdct sn sub ab col dd k0 k1 k2 k3 k5 newId)) (hq : Q () ⟨h, g, d, t, os⟩) : wpAny M A (checkBuiltinCall "type.__call__" ⟨.ref C :: rest, kw⟩) Q E ⟨h, g, d, t, os⟩ := by
  have ts := tc_sub
  have ty : (⟨h, g, d, t, os⟩ : Shared).TypeIs (.ref C) "type" := ⟨_, at_, rfl⟩
  simp only [checkBuiltinCall, tc_split, tc_kind]
  repeat (any_goals (first | assumption | (with_reducible refine wpAny_loadPart_at at_ ?_) | (with_reducible refine wpAny_onRaise ?_) | (with_reducible refine wpAny_map ?_) | wp_step))
theorem makes_kw (FB : ExcBaseFacts B newId initId bmB) (tl : ∀ Y : String, bm.contains (.type Y) = bmB.contains (.type Y)) {fI : Addr} {Q : Fin → Shared → Prop} (at_ : h.get? C = some (excClassObj nm q C N bs bm hdct sn sub ab col dd k0 k1 k2 k3 k5 newId))
    (hi : W.Looks (model prog w) h (typeLookup (.ref C) "__init__") (some (.ref fI))) (hb : ∀ self, W.Looks (model prog w) h (bindSpecial (.ref fI) self) (.ref fI, [self])) (few : rest.length ≤ sizeLine)
    (hq : codeAny (model prog w) A (.call (.ref fI) ⟨.ref (h.objs.size + 1) :: rest, kw⟩) (fun r s' => match r with | .ok (.ret v) => v = .none ∧ Q (.done (.ret (.ref (h.objs.size + 1)))) s' | .ok _ => False | .error e => E e s') ⟨(h.push (W.kdv_tup rest)).push (excO C h.objs.size), g, d, t, os⟩) :
    wpAny (model prog w) A (Builtin.«type.__call__» ⟨.ref C :: rest, kw⟩) Q E ⟨h, g, d, t, os⟩ := by
  repeat (first | (with_reducible refine wpAny_madeBy_exc at_ ?_) | (with_reducible refine wpAny_loadPart_at at_ ?_) | wp_step)
  refine codeAny_call_builtin_code (Code.quiet_builtin _ FB.quiet) (passes_new FB tl at_ (lays_new FB tl at_ few ?_))
  show wpAny _ _ _ _ _ _
  have st : ∀ b o, h.get? b = some o → ((h.push (W.kdv_tup rest)).push (excO C h.objs.size)).get? b = some o := fun b o z => Heap.get?_push_of_some _ (Heap.get?_push_of_some _ z)
  have got : ((h.push (W.kdv_tup rest)).push (excO C h.objs.size)).get? (h.objs.size + 1) = some (excO C h.objs.size) := by heap_get
  have at2 := st _ _ at_
  have inC : (Value.ref C :: bm).contains (.ref C) = true := by simp
  have i2 := hi.keeps st
  have b2 := (hb (.ref (h.objs.size + 1))).keeps st
  unfold isInstance
  repeat (first | (with_reducible refine wpAny_loadPart_at got ?_) | (with_reducible refine wpAny_isSubtype_exc at2 ?_; rw [inC]) | wp_step)
  show wpAny _ _ (typeLookup (.ref C) _) _ _ _
  refine i2.at (wpAny_holding (wpAny_bind (b2.at (wpAny_bind (wpAny_call (codeAny_mono hq fun r s2 z => ?_))))))
  cases r with
  | error er => exact z
  | ok fl =>
    cases fl with
    | ret v =>
      obtain ⟨ev, z⟩ := z
      subst ev
      first
      | exact wpAny_pure (wpAny_pure z)
      | (wp_walk; exact z)
    | next => exact z.elim
    | brk => exact z.elim
    | cont => exact z.elim
theorem call_kw (FB : ExcBaseFacts B newId initId bmB) (tl : ∀ Y : String, bm.contains (.type Y) = bmB.contains (.type Y)) {fI : Addr} (at_ : h.get? C = some (excClassObj nm q C N bs bm hdct sn sub ab col dd k0 k1 k2 k3 k5 newId))
    (hi : W.Looks (model prog w) h (typeLookup (.ref C) "__init__") (some (.ref fI))) (hb : ∀ self, W.Looks (model prog w) h (bindSpecial (.ref fI) self) (.ref fI, [self])) (few : rest.length ≤ sizeLine)
    (hq : codeAny (model prog w) (A.under (.builtin "type.__call__" ⟨.ref C :: rest, kw⟩)) (.call (.ref fI) ⟨.ref (h.objs.size + 1) :: rest, kw⟩) (W.InitBack (h.objs.size + 1) R) ⟨(h.push (W.kdv_tup rest)).push (excO C h.objs.size), g, d, t, os⟩) :
    codeAny (model prog w) A (.call (.ref C) ⟨rest, kw⟩) R ⟨h, g, d, t, os⟩ := by
  have t1 := tc_lookup
  have t2 := tc_bind (.ref C)
  have ty : (⟨h, g, d, t, os⟩ : Shared).TypeIs (.ref C) "type" := ⟨_, at_, rfl⟩
  refine codeAny_of_tree ?_
  show wpAny _ _ (callAny (.ref C) _) _ _ _
  repeat (any_goals (first | assumption | (with_reducible refine wpAny_loadPart_at at_ ?_) | wp_step))
  refine ⟨rfl, codeAny_call_builtin_at (Code.quiet_builtin _ (by decide +kernel)) entry_typeCall (looks_call at_ (makes_kw FB tl at_ hi hb few (codeAny_mono hq fun r s2 z => ?_)))⟩
  rcases r with e | (v | _ | _ | _) <;> exact z
end
end XKw
end PySem
namespace Rg
open PySem L2 RZ PyProof.Rows
/-- what else such a class must say, for its errors to be asked -/
structure Xg (K : PySem.W.Frag) (C : Addr) : Prop extends Xc K C where
  ga : PySem.W.findIn K (.ref C) "__getattribute__" = some (some (.builtin "BaseException.__getattribute__"))
  gg : PySem.W.findIn K (.ref C) "__getattr__" = some none
  cl : PySem.W.findIn K (.ref C) "__class__" = some (some (.builtin "object.__class__"))
  gs : PySem.W.specialIn K (.builtin "object.__class__") "__get__" = some (some (.builtin "getset_descriptor.__get__"))
  tk : PySem.W.takesIn K (.builtin "object.__class__") = some true
  ob : PySem.W.mroIn K C (.type "object") = some true
/-- C(k = v, ..) of an own error, the keywords from behind; C() -/
def tXmkK (C : Addr) (n : Nat) (sp : Sp) (tk : TA) : TE := fun σ H Q => tk σ H fun zs H1 => zs.length = n ∧ ∀ a, H1 a = none → sp (.ref a :: zs.reverse) (upd H1 a (exo a C none)) (fun v H2 => v = .non ∧ Q (.ref a) H2) (fun _ _ _ => False)
/-- e.f of an own error -/
def tXget (K : PySem.W.Frag) (f : Str) (te : TE) : TE := fun σ H Q => te σ H fun x H1 => ∃ (a C dx : Addr) (fs : List (Str × V)) (v : V), x = .ref a ∧ H1 a = some (exo a C (some dx)) ∧ H1 dx = some (exd dx fs) ∧ Xg K C ∧ PySem.W.findIn K (.ref C) f = some none ∧ fs.lookup f = some v ∧ Q v H1
/-- isinstance(e, c) of an own error -/
def rIsX (K : PySem.W.Frag) : List V → Hp → VK → Prop := fun xs H Q => ∃ (a C dx : Addr) (c : V) (cv : Value) (b : Bool), xs = [.ref a, c] ∧ H a = some (exo a C (some dx)) ∧ (∃ fs, H dx = some (exd dx fs)) ∧ Xg K C ∧ ClsV c cv ∧ PySem.W.kitOne K (.ref C) cv = some b ∧ Q (.bl b) H
def rOrC (r r' : List V → Hp → VK → Prop) : List V → Hp → VK → Prop := fun xs H Q => r xs H Q ∨ r' xs H Q
section
variable {X : Cx} {e : Expr} {te : TE} {f : Str} {p pos : Pos} {a C dx : Addr} {fs : List (Str × V)} {H : Hp} {s : Shared} {σ : L2.St} {pins : List (Addr × Obj)}
theorem xinst (J : Inv X pins σ H s) (ea : H a = some (exo a C (some dx))) (ed : H dx = some (exd dx fs)) : ∃ (ox od : Obj) (mA : Str → Option Value), PySem.W.InstAt s.heap a ox C (some od) ∧ (∀ g, RelO (fs.lookup g) (mA g)) ∧ ∀ g, PySem.W.lookIn g od = some (mA g) := by
  obtain ⟨t1, ho⟩ := exo_at J.hok ea
  obtain ⟨mA, ns, rel⟩ := exd_at J.hok ed
  obtain ⟨od, hod, hl⟩ := lookIn_ns ns
  exact ⟨_, od, mA, ⟨ho, rfl, rfl, hod⟩, rel, fun g => hl g⟩
theorem pe_xget (he : PE X e te) (hb : attributeBase e f X.env (eval e X.env) = eval e X.env := by rfl) : PE X (.Attribute e f pos) (tXget X.K f te) := by
  refine ⟨fun pins s σ H Q J h => attr_of hb (thn (he.run pins s σ H _ J h) fun u s1 ⟨x, H1, J1, rx, a, C, dx, fs, v, ex, ea, ed, T, hno, l, q⟩ => ?_)⟩
  subst ex
  obtain rfl : u = Value.ref a := rx
  obtain ⟨ox, od, mA, I, rel, hl⟩ := xinst J1 ea ed
  obtain ⟨u2, hu, ru⟩ := RelO.some_of (v := v) (o := mA f) (by rw [← l]; exact rel f)
  exact PySem.HandSPX.exc_get J1.kIn I T.ga T.gg T.exC (PySem.W.findObj_own T.dct hno rfl (by rw [hl, hu])) (handed_of ru) ⟨v, H1, J1.tok _, ru, q⟩
theorem call_isX : CallR X (.builtin "isinstance") (rIsX X.K) := by
  intro pins s σ H xs us Q J r h
  obtain ⟨a, C, dx, c, cv, b, rfl, ea, ⟨fs, ed⟩, T, hc, hk, q⟩ := h
  obtain ⟨u1, u2, rfl, r1, r2⟩ := vals2 r
  obtain rfl : u1 = Value.ref a := r1
  have e2 := hc.eq r2
  subst e2
  obtain ⟨ox, od, mA, I, _, _⟩ := xinst J ea ed
  obtain ⟨cd, hcd, _⟩ := xdict T.toXc
  exact PySem.W.kia_one (PySem.W.kitx_exc (by rw [hcd]; rfl) T.ga T.gg T.exC T.cl T.gs T.tk T.ob) J.kIn I hk (fun z => nomatch z) fun t2 => ⟨.bl b, H, J.tok t2, rfl, q⟩
theorem call_or {g : Value} {r r' : List V → Hp → VK → Prop} (h : CallR X g r) (h' : CallR X g r') : CallR X g (rOrC r r') := fun pins s σ H xs us Q J rv q => q.elim (fun q => h pins s σ H xs us Q J rv q) fun q => h' pins s σ H xs us Q J rv q
theorem q_isiU {K : PySem.W.Frag} (h : X.K = K := by rfl) : CallR X (.builtin "isinstance") (rOrC (rIsi K) (rIsX K)) := h ▸ call_or call_isi call_isX
theorem q_xget {K : PySem.W.Frag} (he : PE X e te) (h : X.K = K := by rfl) (hb : attributeBase e f X.env (eval e X.env) = eval e X.env := by rfl) : PE X (.Attribute e f pos) (tXget K f te) := h ▸ pe_xget he hb
theorem pe_xmkK {CX : CXT} {x : Str} {C fI : Addr} {k : Nat} {fd : FuncData} {ps ks : List Str} {sp : Sp} {kws : List Keyword} {tk : TA} (T : Xc X.K C) (iC : PySem.W.findIn X.K (.ref C) "__init__" = some (some (.ref fI))) (tI : PySem.W.typeIn X.K (.ref fI) = some (.type "function"))
    (FI : FnOk X.prog X.w X.K X.mg X.base CX k fI fd ps sp) (hr : Room (k + 1) X.A) (hb : ∀ (s : Shared) (v : Value) (ws : List Value), ws.length = ks.length → BindsTo s fd ⟨[v], ks.zip ws⟩ (ps.zip (v :: ws.reverse))) (hx : Passes CX X (fun _ _ _ => False)) (hg : Gl X x) (hm : X.mg x = some (.ref C)) (hkw : PK X kws tk)
    (hall : (backToKw pos (keywordEach kws X.env)).all (·.1.isSome) = true := by rfl) (hks : (backToKw pos (keywordEach kws X.env)).filterMap (·.1) = ks := by rfl) (hdb : (x == ("__debug__" : Str)) = false := by decide)
    (hpl : ((backTo pos (starEach [] X.env)).any (·.1) || (backToKw pos (keywordEach kws X.env)).any (·.1.isNone)) = false := by rfl) : PE X (.Call (.Name x p) [] kws pos) (tXmkK C ks.length sp tk) := by
  refine ⟨fun pins s σ H Q J h => ?_⟩
  obtain ⟨B, newId, initId, bmB, FB, SF, hin, hov⟩ := T.base
  refine wpAny_Call_Name_kw (ld_glob J hg hm ?_ hdb)
  refine PySem.W.callWith_KW0 (h₀ := X.base) J.ok.mod.kin T.kC hall ?_ hpl
  refine thn (hkw.run pos pins s σ H _ J h) fun ws s1 ⟨zs, H1, J1, rz, lz, q1⟩ => ⟨J1.kIn, ?_⟩
  rw [hks]
  obtain ⟨hp, g, dr, tk, os⟩ := s1
  obtain ⟨nm, N, q, bs, bm, hdct, sn, sub, ab, col, dd, k0, k1, k2, k3, k5, hC, hT⟩ := PySem.W.excInit_of J1.kIn hin
  have up : hp.objs.size ≤ hp.objs.size + 1 := Nat.le_succ _
  have fr : H1 (hp.objs.size + 1) = none := J1.hok.fresh up
  have got : ((hp.push (PySem.W.kdv_tup [])).push (PySem.HandSPX.excO C hp.objs.size)).get? (hp.objs.size + 1) = some (PySem.HandSPX.excO C hp.objs.size) := by heap_get
  have J2 := J1.laid (t' := tk) (a := hp.objs.size + 1) (o := exo (hp.objs.size + 1) C none) (h' := (hp.push (PySem.W.kdv_tup [])).push (PySem.HandSPX.excO C hp.objs.size)) (fun b o z => Heap.get?_push_of_some _ (Heap.get?_push_of_some _ z)) up (exo_ok got)
  have want := q1 (hp.objs.size + 1) fr
  have rev : ∀ {zs : List V} {ws : List Value}, Vals zs ws → Vals zs.reverse ws.reverse := by
    intro zs ws r
    induction r with
    | nil => exact .nil
    | cons r0 _ ih => rw [List.reverse_cons, List.reverse_cons]; exact ih.append (.cons r0 .nil)
  have rel : Vals (V.ref (hp.objs.size + 1) :: zs.reverse) (Value.ref (hp.objs.size + 1) :: ws.reverse) := .cons rfl (rev rz)
  refine wpAny_call (PySem.XKw.call_kw (rest := []) FB hT hC (PySem.W.looks_findIn J1.kIn iC) (fun self => PySem.W.bind_fn J1.kIn self tI) (Nat.zero_le _)
    (codeAny_mono (FI.run _ X.stack _ _ ⟨[Value.ref (hp.objs.size + 1)], ks.zip ws⟩ (Value.ref (hp.objs.size + 1) :: ws.reverse) _ _ (fun _ _ _ => False) (hr.make C [] (ks.zip ws)) (J2.env0.make C [] (ks.zip ws)) (hb _ _ ws (by rw [← rz.length]; exact lz)) rel want) fun r s2 got2 => ?_))
  cases r with
  | error er => exact hx pins σ _ _ er s2 J2 got2
  | ok fl =>
    cases fl with
    | ret u =>
      obtain ⟨v, H', J3, rv, ev, q3⟩ := J2.after got2
      subst ev
      exact ⟨rv, V.ref (hp.objs.size + 1), H', J3, rfl, q3⟩
    | next => exact False.elim got2
    | brk => exact False.elim got2
    | cont => exact False.elim got2
end
end Rg
namespace Rg
open PySem L2 RZ PyProof.Rows
/-! ### clauses of a try: each by a test, with or without a name -/
theorem fly_on {h h' B : Heap} {fr : List Env} {a : Addr} {Z : Obj → Prop} (k : ∀ b o, h.get? b = some o → h'.get? b = some o) (x : HandSPX.FlyingZ B fr a Z h) : HandSPX.FlyingZ B fr a Z h' := by
  obtain ⟨x1, x2, x3, oe, vs, T, oT, ts, y1, y2, y3, y4, y5, y6, y7, y8⟩ := x
  exact ⟨fun b o e => k b o (x1 b o e), x2, Heap.FunFrames.of_keeps (fun b o e _ => ⟨o, k b o e, rfl⟩) x3, oe, vs, T, oT, ts, k _ _ y1, y2, y3, y4, y5, y6, k _ _ y7, y8⟩
/-- m tells whether an exception of a class is taken by the clause with the expression t -/
def HTest (X : Cx) (t : Expr) (m : Value → Option Bool) : Prop := ∀ (a : Addr) (oe : Obj) (pn : List (Addr × Obj)) (s : Shared) (σ : L2.St) (H : Hp) (b : Bool) (Q : Value → Shared → Prop) (E : Value → Shared → Prop),
  Inv (X.suite a ((a, oe) :: pn)) [] σ H s → m oe.cls = some b →
  (∀ h' u, (∀ c o, s.heap.get? c = some o → h'.get? c = some o) → PySem.W.Looks (model X.prog X.w) h' (excMatches (.ref a) u) b → Q u { s with heap := h' }) →
  wpAny (model X.prog X.w) (X.A.mark (some (.ref a))) (eval t X.env) Q E s
structure Hd where
  m : Value → Option Bool
  i : Option Nat
  ts : Addr × Obj → TS
def hdE (i : Option Nat) (Z : Ends) : Ends := match i with
  | none => Z
  | some i => { nx := fun σ' H' => Z.nx (σ'.set i none) H', rt := Z.rt, bk := fun σ' H' => Z.bk (σ'.set i none) H', ct := fun σ' H' => Z.ct (σ'.set i none) H' }
def hdS (i : Option Nat) (a : Addr) (σ : L2.St) : L2.St := match i with
  | none => σ
  | some i => σ.set i (some (.ref a))
/-- what the clauses wish of an exception of the body -/
def wHs (W0 : WX) (Z : Ends) : List Hd → WX
  | [] => W0
  | h :: r => fun cls d σ H => ∃ b, h.m cls = some b ∧ (b = true → ∀ p : Addr × Obj, Zc cls d p.2 → H p.1 = none → h.ts p (hdE h.i Z) (hdS h.i p.1 σ) H) ∧ (b = false → wHs W0 Z r cls d σ H)
def tTry (tb : WX → TS) (W0 : WX) (l : List Hd) : TS := fun Z σ H => tb (wHs W0 Z l) Z σ H
inductive HdOk (X : Cx) : List ExceptHandler → List Hd → Prop
  | nil : HdOk X [] []
  | only {t : Expr} {m : Value → Option Bool} {ts : Addr × Obj → TS} {st : Stmt} {sts : List Stmt} {q : Pos} {hs : List ExceptHandler} {l : List Hd} (ht : HTest X t m)
      (hb : ∀ (p : Addr × Obj) (pn : List (Addr × Obj)), (∃ vs, p.2.data = .fields vs) → PSs (X.suite p.1 (p :: pn)) (st :: sts) (ts p)) (r : HdOk X hs l) : HdOk X (.ExceptHandler (some t) none (st :: sts) q :: hs) (⟨m, none, ts⟩ :: l)
  | name {t : Expr} {m : Value → Option Bool} {ts : Addr × Obj → TS} {st : Stmt} {sts : List Stmt} {q : Pos} {hs : List ExceptHandler} {l : List Hd} {n : Str} {i : Nat} (ht : HTest X t m) (hi : X.N[i]? = some n) (hn : X.env.kindOf n = some .local)
      (hb : ∀ (p : Addr × Obj) (pn : List (Addr × Obj)), (∃ vs, p.2.data = .fields vs) → PSs (X.suite p.1 (p :: pn)) (st :: sts) (ts p)) (r : HdOk X hs l) : HdOk X (.ExceptHandler (some t) (some n) (st :: sts) q :: hs) (⟨m, some i, ts⟩ :: l)
section
variable {X : Cx} {body : List Stmt} {h₀ : ExceptHandler} {hds : List ExceptHandler} {l : List Hd} {pos : Pos} {tb : WX → TS} {W0 : WX}
theorem ps_tryH (stk : X.stack = X.env :: X.outer) (frm : X.env.frame = some X.env.locals) (nd : X.N.Nodup) (tk : Takes X W0)
    (hb : ∀ (W : WX) (pn : List (Addr × Obj)) (xe : Value → Shared → Prop), Takes (X.tr pn xe) W → PassesOwn (model X.prog X.w) X.A X.env xe → PSs (X.tr pn xe) body (tb W))
    (hh : HdOk X (h₀ :: hds) l) : PS X (.Try body (h₀ :: hds) [] [] pos) (tTry tb W0 l) := by
  refine ⟨fun pins s σ H Z J h0 => ?_⟩
  have h : tb (wHs W0 Z l) Z σ H := h0
  have okX := J.ok
  have frs' : X.A.frames = some (X.env :: X.outer) := by rw [okX.frames, stk]
  refine wpAny_Try_except ?_
  refine wpAny_mono ((hb (wHs W0 Z l) (X.pn ++ pins) (fun e s₁ => wpAny (model X.prog X.w) X.A (noteFrame e X.env) (fun _ s₂ => wpAny (model X.prog X.w) X.A (setFlight e none) (fun _ s₃ =>
    wpAny (model X.prog X.w) X.A (handleBy e X.env (h₀ :: hds)) (SP X pins Z) X.xe s₃) X.xe s₂) X.xe s₁) (fun u s' xx => ?_) PassesOwn.looking).run [] s σ H Z (J.toTry _) h) (fun f s1 got => ?_) (fun e s1 z => z)
  · obtain ⟨a, B, sI, pins', σ', H', cls, d, rfl, J', nb, up, sky, na, eos, ag, wish⟩ := xx
    have JI : Inv X pins σ' H' sI := J'.ofTry okX
    have sky2 : Sky B (X.env :: X.outer) a (Zc cls d) X.env.locals s'.heap := by rw [← stk]; exact sky
    show wpAny (model X.prog X.w) X.A (noteFrame (.ref a) X.env) _ _ _
    refine Sky.land Zc.steady frs' frm sky2 fun h3 fl3 up3 => ?_
    have onward : ∀ {hs' : List ExceptHandler} {l' : List Hd}, HdOk X hs' l' → ∀ (h4 : Heap), HandSPX.FlyingZ B (X.env :: X.outer) a (Zc cls d) h4 → sI.heap.UpToSlots h4 → wHs W0 Z l' cls d σ' H' →
        wpAny (model X.prog X.w) X.A (handleBy (.ref a) X.env hs') (SP X pins Z) X.xe { s' with heap := h4 } := by
      intro hs' l' hk
      -- what a clause has, whatever its name
      have have4 : ∀ (h4 : Heap), HandSPX.FlyingZ B (X.env :: X.outer) a (Zc cls d) h4 → sI.heap.UpToSlots h4 → ∃ oe : Obj, Zc cls d oe ∧ (∃ vs, oe.data = .fields vs) ∧ Inv (X.suite a ((a, oe) :: (X.pn ++ pins))) [] σ' H' { s' with heap := h4 } := fun h4 fl4 up4 => by
        have J4 : Inv X pins σ' H' { s' with heap := h4 } := JI.landed nb fl4.1 up4 eos ag
        obtain ⟨oe, vs, e1, z1, d1⟩ := fl4.there
        have off : a ∉ frs (X.env :: X.outer) := fun hm => by
          obtain ⟨_, o', e', hnf⟩ := fl4.2.2.1.mem hm
          have z := e1.symm.trans e'
          cases z
          exact hnf _ d1
        have offL : a ≠ X.env.locals := fun z => off (List.mem_filterMap.mpr ⟨X.env, List.mem_cons_self, by rw [frm, z]⟩)
        have offF : a ∉ X.fs := fun hm => by
          obtain ⟨e, he, q⟩ := List.mem_filterMap.mp hm
          exact off (List.mem_filterMap.mpr ⟨e, List.mem_cons_of_mem _ he, q⟩)
        exact ⟨oe, z1, ⟨vs, d1⟩, J4.suite e1 d1 na offL offF⟩
      induction hk with
      | nil =>
        intro h4 fl4 up4 w4
        refine wpAny_handleBy_nil ?_
        obtain ⟨k1, k2, k3, oe, vs, T, oT, ts', e1, z1, d1, v1, rest⟩ := id fl4
        unfold PySem.passOn
        refine wpAny_bind (wpAny_field e1 d1 v1 ?_)
        rw [if_neg (show ¬ ((Value.ref T == Value.none) = true) by simp)]
        have out : wpAny (model X.prog X.w) X.A (setFlight (.ref a) X.env.frame) (fun _ s5 => wpAny (model X.prog X.w) X.A (throw (.ref a) : Sem Flow) (SP X pins Z) X.xe s5) X.xe { s' with heap := h4 } := by
          rw [frm]
          refine HandSPX.setFlight_upZ fl4 fun h5 hh5 up5 => wpAny_throw (tk _ _ ?_)
          exact ⟨a, B, sI, pins, σ', H', cls, d, rfl, JI, nb, up4.trans up5, .inr (.inr (by rw [stk]; exact hh5)), na, eos, ag, w4⟩
        first
          | exact wpAny_bind (wpAny_pure (wpAny_bind out))
          | exact wpAny_bind out
      | @only t m ts st sts q hs2 l2 ht hb2 r ih =>
        intro h4 fl4 up4 ⟨b, hb1, yes, no⟩
        refine wpAny_handleBy_cons (codeAny_handlers_test ?_) (by intro z; cases z)
        obtain ⟨oe, z1, d1, S4⟩ := have4 h4 fl4 up4
        refine ht a oe _ _ σ' H' b _ _ S4 (by rw [z1.1]; exact hb1) fun h5 u k5 lk => lk.here ?_
        have fl5 := fly_on k5 fl4
        have up5 := up4.trans (Heap.UpToSlots.of_keeps k5)
        cases b with
        | true =>
          refine codeAny_handlers_suite (HandSPX.lands_againZ fl5 fun h6 fl6 up6 => ?_)
          obtain ⟨oe6, z6, d6, S6⟩ := have4 h6 fl6 (up5.trans up6)
          refine wpAny_mono ((hb2 (a, oe6) (X.pn ++ pins) d6).run [] _ _ H' _ S6 (yes rfl (a, oe6) z6 na)) (fun f s7 got => ?_) (fun _ _ z => False.elim z)
          cases f with
          | next =>
            obtain ⟨σ7, H7, S7, q7⟩ := got
            exact ⟨_, _, S7.unsuite okX, q7⟩
          | brk =>
            obtain ⟨σ7, H7, S7, q7⟩ := got
            exact ⟨_, _, S7.unsuite okX, q7⟩
          | cont =>
            obtain ⟨σ7, H7, S7, q7⟩ := got
            exact ⟨_, _, S7.unsuite okX, q7⟩
          | ret u =>
            obtain ⟨v7, σ7, H7, S7, r7, q7⟩ := got
            exact ⟨_, _, _, S7.unsuite okX, r7, q7⟩
        | false =>
          show wpAny _ X.A (handleBy (.ref a) X.env hs2) _ _ _
          exact ih h5 fl5 up5 (no rfl)
      | @name t m ts st sts q hs2 l2 n i ht hi hn hb2 r ih =>
        intro h4 fl4 up4 ⟨b, hb1, yes, no⟩
        refine wpAny_handleBy_cons (codeAny_handlers_test ?_) (by intro z; cases z)
        obtain ⟨oe, z1, d1, S4⟩ := have4 h4 fl4 up4
        refine ht a oe _ _ σ' H' b _ _ S4 (by rw [z1.1]; exact hb1) fun h5 u k5 lk => lk.here ?_
        have fl5 := fly_on k5 fl4
        have up5 := up4.trans (Heap.UpToSlots.of_keeps k5)
        cases b with
        | true =>
          refine codeAny_handlers_suite_as (HandSPX.lands_againZ fl5 fun h6 fl6 up6 => ?_)
          obtain ⟨oe6, z6, d6, S6⟩ := have4 h6 fl6 (up5.trans up6)
          refine store_ok (X := X.suite a ((a, oe6) :: (X.pn ++ pins))) (v := .ref a) S6 nd hi (.inl hn) rfl (fun s7 S7 => ?_) (.inr hn)
          refine wpAny_mono ((hb2 (a, oe6) (X.pn ++ pins) d6).run [] s7 _ H' _ S7 (yes rfl (a, oe6) z6 na)) (fun f s8 got => ?_) (fun _ _ z => False.elim z)
          have leave : ∀ {σ8 : L2.St} {H8 : Hp} {Q : Shared → Prop}, Inv (X.suite a ((a, oe6) :: (X.pn ++ pins))) [] σ8 H8 s8 → (∀ s9, Inv X pins (σ8.set i none) H8 s9 → Q s9) →
              wpAny (model X.prog X.w) X.A (do bindName X.env n .none; unbindBehindTheSuite X.env n q) (fun _ s9 => Q s9) X.xe s8 := fun {σ8 H8 Q} S8 hq => gone_ok (S8.unsuite okX) nd hi hn hq
          cases f with
          | next =>
            obtain ⟨σ8, H8, S8, q8⟩ := got
            exact leave S8 fun s9 J9 => ⟨_, _, J9, q8⟩
          | brk =>
            obtain ⟨σ8, H8, S8, q8⟩ := got
            exact leave S8 fun s9 J9 => ⟨_, _, J9, q8⟩
          | cont =>
            obtain ⟨σ8, H8, S8, q8⟩ := got
            exact leave S8 fun s9 J9 => ⟨_, _, J9, q8⟩
          | ret u =>
            obtain ⟨v8, σ8, H8, S8, r8, q8⟩ := got
            exact leave S8 fun s9 J9 => ⟨_, _, _, J9, r8, q8⟩
        | false =>
          show wpAny _ X.A (handleBy (.ref a) X.env hs2) _ _ _
          exact ih h5 fl5 up5 (no rfl)
    exact onward hh h3 fl3 (up.trans up3) wish
  · cases f with
    | next =>
      obtain ⟨σ', H', J', q⟩ := got
      exact wpAny_execs_nil ⟨σ', H', J'.ofTry okX, q⟩
    | brk =>
      obtain ⟨σ', H', J', q⟩ := got
      exact ⟨σ', H', J'.ofTry okX, q⟩
    | cont =>
      obtain ⟨σ', H', J', q⟩ := got
      exact ⟨σ', H', J'.ofTry okX, q⟩
    | ret u =>
      obtain ⟨v, σ', H', J', r, q⟩ := got
      exact ⟨v, σ', H', J'.ofTry okX, r, q⟩
theorem name_at {X : Cx} {x : Str} {c : Value} {np : Pos} {a : Addr} {oe : Obj} {pn : List (Addr × Obj)} {s : Shared} {σ : L2.St} {H : Hp} {Q E : Value → Shared → Prop} (hc : Names X x c) (J : Inv (X.suite a ((a, oe) :: pn)) [] σ H s) (q : Q c s) :
    wpAny (model X.prog X.w) (X.A.mark (some (.ref a))) (eval (.Name x np) X.env) Q E s := by
  obtain ⟨hg, hdbg, hm | ⟨hm, hv, hnn⟩⟩ := hc
  · exact ld_glob (X := X.suite a ((a, oe) :: pn)) J hg hm q hdbg
  · exact ld_blt (X := X.suite a ((a, oe) :: pn)) J hg hm hv q hnn hdbg
theorem looks_ty {X : Cx} {a : Addr} {oe : Obj} {pn : List (Addr × Obj)} {s : Shared} {σ : L2.St} {H : Hp} (J : Inv (X.suite a ((a, oe) :: pn)) [] σ H s) : PySem.W.Looks (model X.prog X.w) s.heap (typeOf (.ref a)) oe.cls :=
  fun A Q E s2 k q => wpAny_typeOf_ref (k _ _ (J.pin (a, oe) (List.mem_append_left _ List.mem_cons_self)).1) q
theorem ht_name {X : Cx} {x : Str} {c : Value} {np : Pos} (hc : Names X x c) : HTest X (.Name x np) (fun cls => PySem.W.exmOne X.K cls c) := fun a oe pn s σ H b Q E J hm q =>
  name_at hc J (q s.heap c (fun _ _ e => e) (PySem.W.exm_one J.kIn (looks_ty J) hm))
theorem ht_tup3 {X : Cx} {x1 x2 x3 : Str} {c1 c2 c3 : Value} {p1 p2 p3 pos : Pos} {ctx : Nat} (h1 : Names X x1 c1) (h2 : Names X x2 c2) (h3 : Names X x3 c3) : HTest X (.Tuple [.Name x1 p1, .Name x2 p2, .Name x3 p3] ctx pos) (fun cls => PySem.W.exmAny X.K cls [c1, c2, c3]) := fun a oe pn s σ H b Q E J hm q => by
  have k : ∀ c o, s.heap.get? c = some o → (s.heap.push { cls := .type "tuple", data := .seq [c1, c2, c3].toArray }).get? c = some o := fun c o e => Heap.get?_push_of_some _ e
  refine wpAny_Tuple_spliced (wpAny_items_cons (name_at h1 J (wpAny_items_cons (name_at h2 J (wpAny_items_cons (name_at h3 J (wpAny_items_nil ⟨show 3 ≤ sizeLine by decide, q _ _ k ?_⟩)))))))
  exact PySem.W.exm_tup3 (J.kIn.keeps k) ((looks_ty J).keeps k) (Heap.get?_push_size _ rfl) hm
end
end Rg
namespace Rg
open PySem L2 RZ PyProof.Rows
/-! ### raise C(..) of an own class -/
/-- C(k = v, ..), the keywords from behind, to be raised; C() -/
def tRmk (C : Addr) (n : Nat) (sp : Sp) (tk : TA) : L2.St → Hp → XK → Prop := fun σ H Q => tk σ H fun zs H1 => zs.length = n ∧ ∀ a, H1 a = none → sp (.ref a :: zs.reverse) (upd H1 a (exo a C none))
  (fun v H2 => v = .non ∧ ∃ (d : Addr) (fs : List (Str × V)), H2 a = some (exo a C (some d)) ∧ H2 d = some (exd d fs) ∧ H1 d = none ∧ Q (.ref C) (some d) (upd (del H2 a) d (.xd fs))) (fun _ _ _ => False)
section
variable {X : Cx} {e : Expr} {es : List Expr} {ta tk : TA} {p pos : Pos} {CX : CXT} {x : Str} {C fI : Addr} {k : Nat} {fd : FuncData} {ps ks : List Str} {sp : Sp} {kws : List Keyword}
theorem pmk_x {ds : List Value} {dvs : List V} (T : Xc X.K C) (iC : PySem.W.findIn X.K (.ref C) "__init__" = some (some (.ref fI))) (tI : PySem.W.typeIn X.K (.ref fI) = some (.type "function"))
    (FI : FnOk X.prog X.w X.K X.mg X.base CX k fI fd ps sp) (hr : Room (k + 1) X.A) (hb : Binds X.K fd ps ds) (hd : Vals dvs ds) (hx : Passes CX X (fun _ _ _ => False)) (hg : Gl X x) (hm : X.mg x = some (.ref C)) (ha : PA X (e :: es) ta)
    (hdb : (x == ("__debug__" : Str)) = false := by decide) (he : starEach (e :: es) X.env = (false, eval e X.env) :: starEach es X.env := by rfl) (hpl : (backTo pos (starEach es X.env)).any (·.1) = false := by rfl) :
    PMk X (.Call (.Name x p) (e :: es) [] pos) (tMkO C sp dvs ta) := by
  intro pins s σ H Q J h
  obtain ⟨B, newId, initId, bmB, FB, SF, hin, hov⟩ := T.base
  refine wpAny_Call_Name_kw (ld_glob J hg hm ?_ hdb)
  refine PySem.W.callWith_K (h₀ := X.base) J.ok.mod.kin T.kC (thn (ha.run pos pins s σ H _ J h) fun us s1 ⟨vs, H1, J1, r1, hz, q1⟩ => ⟨J1.kIn, ?_⟩) he hpl
  obtain ⟨hp, g, dr, tk, os⟩ := s1
  obtain ⟨nm, N, q, bs, bm, hdct, sn, sub, ab, col, dd, k0, k1, k2, k3, k5, hC, hT⟩ := PySem.W.excInit_of J1.kIn hin
  show wpAny _ _ (call (.ref C) us) _ _ _
  have up : hp.objs.size ≤ hp.objs.size + 1 := Nat.le_succ _
  have kk : ∀ b o, hp.get? b = some o → ((hp.push (PySem.W.kdv_tup us)).push (PySem.HandSPX.excO C hp.objs.size)).get? b = some o := fun b o z => Heap.get?_push_of_some _ (Heap.get?_push_of_some _ z)
  have fr : H1 (hp.objs.size + 1) = none := J1.hok.fresh up
  have got : ((hp.push (PySem.W.kdv_tup us)).push (PySem.HandSPX.excO C hp.objs.size)).get? (hp.objs.size + 1) = some (PySem.HandSPX.excO C hp.objs.size) := by heap_get
  have J2 := J1.laid (t' := tk) (a := hp.objs.size + 1) (o := exo (hp.objs.size + 1) C none) (h' := (hp.push (PySem.W.kdv_tup us)).push (PySem.HandSPX.excO C hp.objs.size)) kk up (exo_ok got)
  have want := q1 (hp.objs.size + 1) fr
  have rel : Vals (V.ref (hp.objs.size + 1) :: (vs ++ dvs)) (Value.ref (hp.objs.size + 1) :: (us ++ ds)) := .cons rfl (r1.append hd)
  have len : (Value.ref (hp.objs.size + 1) :: us ++ ds).length = ps.length := (rel.length.symm).trans (FI.len _ _ _ _ want)
  have small : us.length ≤ sizeLine := Nat.le_trans (show us.length ≤ 1000 by rw [← r1.length]; exact hz) (by decide)
  refine wpAny_call (PySem.HandSPX.call_own FB hT hC (PySem.W.looks_findIn J1.kIn iC) (fun self => PySem.W.bind_fn J1.kIn self tI) small
    (codeAny_mono (FI.run _ X.stack _ _ ⟨Value.ref (hp.objs.size + 1) :: us, []⟩ (Value.ref (hp.objs.size + 1) :: (us ++ ds)) _ _ (fun _ _ _ => False) (hr.make C us []) (J2.env0.make C us []) (hb _ (Value.ref (hp.objs.size + 1) :: us) J2.kIn len) rel want) fun r s2 got2 => ?_))
  cases r with
  | error er => exact hx pins σ _ _ er s2 J2 got2
  | ok fl =>
    cases fl with
    | ret u =>
      obtain ⟨v, H2, eo2, ba2, un2, ok2, rv, ev, dx, fs, ea, ed, hd1, q2⟩ := got2
      subst ev
      obtain ⟨h2, g2, d2, t2, os'⟩ := s2
      exact ⟨rv, mk_end (raises_own T.exC T.tyC) J1 up kk un2 ok2 eo2 ba2 ea ed hd1 q2⟩
    | next => exact False.elim got2
    | brk => exact False.elim got2
    | cont => exact False.elim got2
theorem pmk_xK (T : Xc X.K C) (iC : PySem.W.findIn X.K (.ref C) "__init__" = some (some (.ref fI))) (tI : PySem.W.typeIn X.K (.ref fI) = some (.type "function"))
    (FI : FnOk X.prog X.w X.K X.mg X.base CX k fI fd ps sp) (hr : Room (k + 1) X.A) (hb : ∀ (s : Shared) (v : Value) (ws : List Value), ws.length = ks.length → BindsTo s fd ⟨[v], ks.zip ws⟩ (ps.zip (v :: ws.reverse))) (hx : Passes CX X (fun _ _ _ => False)) (hg : Gl X x) (hm : X.mg x = some (.ref C)) (hkw : PK X kws tk)
    (hall : (backToKw pos (keywordEach kws X.env)).all (·.1.isSome) = true := by rfl) (hks : (backToKw pos (keywordEach kws X.env)).filterMap (·.1) = ks := by rfl) (hdb : (x == ("__debug__" : Str)) = false := by decide)
    (hpl : ((backTo pos (starEach [] X.env)).any (·.1) || (backToKw pos (keywordEach kws X.env)).any (·.1.isNone)) = false := by rfl) : PMk X (.Call (.Name x p) [] kws pos) (tRmk C ks.length sp tk) := by
  intro pins s σ H Q J h
  obtain ⟨B, newId, initId, bmB, FB, SF, hin, hov⟩ := T.base
  refine wpAny_Call_Name_kw (ld_glob J hg hm ?_ hdb)
  refine PySem.W.callWith_KW0 (h₀ := X.base) J.ok.mod.kin T.kC hall ?_ hpl
  refine thn (hkw.run pos pins s σ H _ J h) fun ws s1 ⟨zs, H1, J1, rz, lz, q1⟩ => ⟨J1.kIn, ?_⟩
  rw [hks]
  obtain ⟨hp, g, dr, tk, os⟩ := s1
  obtain ⟨nm, N, q, bs, bm, hdct, sn, sub, ab, col, dd, k0, k1, k2, k3, k5, hC, hT⟩ := PySem.W.excInit_of J1.kIn hin
  have up : hp.objs.size ≤ hp.objs.size + 1 := Nat.le_succ _
  have kk : ∀ b o, hp.get? b = some o → ((hp.push (PySem.W.kdv_tup [])).push (PySem.HandSPX.excO C hp.objs.size)).get? b = some o := fun b o z => Heap.get?_push_of_some _ (Heap.get?_push_of_some _ z)
  have fr : H1 (hp.objs.size + 1) = none := J1.hok.fresh up
  have got : ((hp.push (PySem.W.kdv_tup [])).push (PySem.HandSPX.excO C hp.objs.size)).get? (hp.objs.size + 1) = some (PySem.HandSPX.excO C hp.objs.size) := by heap_get
  have J2 := J1.laid (t' := tk) (a := hp.objs.size + 1) (o := exo (hp.objs.size + 1) C none) (h' := (hp.push (PySem.W.kdv_tup [])).push (PySem.HandSPX.excO C hp.objs.size)) kk up (exo_ok got)
  have want := q1 (hp.objs.size + 1) fr
  have rev : ∀ {zs : List V} {ws : List Value}, Vals zs ws → Vals zs.reverse ws.reverse := by
    intro zs ws r
    induction r with
    | nil => exact .nil
    | cons r0 _ ih => rw [List.reverse_cons, List.reverse_cons]; exact ih.append (.cons r0 .nil)
  have rel : Vals (V.ref (hp.objs.size + 1) :: zs.reverse) (Value.ref (hp.objs.size + 1) :: ws.reverse) := .cons rfl (rev rz)
  refine wpAny_call (PySem.XKw.call_kw (rest := []) FB hT hC (PySem.W.looks_findIn J1.kIn iC) (fun self => PySem.W.bind_fn J1.kIn self tI) (Nat.zero_le _)
    (codeAny_mono (FI.run _ X.stack _ _ ⟨[Value.ref (hp.objs.size + 1)], ks.zip ws⟩ (Value.ref (hp.objs.size + 1) :: ws.reverse) _ _ (fun _ _ _ => False) (hr.make C [] (ks.zip ws)) (J2.env0.make C [] (ks.zip ws)) (hb _ _ ws (by rw [← rz.length]; exact lz)) rel want) fun r s2 got2 => ?_))
  cases r with
  | error er => exact hx pins σ _ _ er s2 J2 got2
  | ok fl =>
    cases fl with
    | ret u =>
      obtain ⟨v, H2, eo2, ba2, un2, ok2, rv, ev, dx, fs, ea, ed, hd1, q2⟩ := got2
      subst ev
      obtain ⟨h2, g2, d2, t2, os'⟩ := s2
      exact ⟨rv, mk_end (raises_own T.exC T.tyC) J1 up kk un2 ok2 eo2 ba2 ea ed hd1 q2⟩
    | next => exact False.elim got2
    | brk => exact False.elim got2
    | cont => exact False.elim got2
end
/-! ### a caught error, its fields; a def that is called while it is handled -/
/-- e.f of the pinned error p -/
def tXq (K : PySem.W.Frag) (p : Addr × Obj) (f : Str) (te : TE) : TE := fun σ H Q => te σ H fun x H1 => ∃ (C dd : Addr) (fs : List (Str × V)) (v : V), x = .ref p.1 ∧ Zc (.ref C) (some dd) p.2 ∧ Xg K C ∧ PySem.W.findIn K (.ref C) f = some none ∧ H1 dd = some (.xd fs) ∧ fs.lookup f = some v ∧ Q v H1
theorem pe_xq {X : Cx} {q : Addr × Obj} {e : Expr} {te : TE} {pos : Pos} {f : Str} (hq : q ∈ X.pn) (hf : ∃ vs, q.2.data = .fields vs) (he : PE X e te) (hb : attributeBase e f X.env (eval e X.env) = eval e X.env := by rfl) : PE X (.Attribute e f pos) (tXq X.K q f te) := by
  refine ⟨fun pins s σ H Q J h => attr_of hb (thn (he.run pins s σ H _ J h) fun u s1 ⟨x, H1, J1, rx, C, dd, fs, v, ex, hz, T, hno, ed, l, hQ⟩ => ?_)⟩
  subst ex
  obtain rfl : u = Value.ref q.1 := rx
  obtain ⟨at_, _⟩ := J1.pin q (List.mem_append_left _ hq)
  obtain ⟨vs, dv⟩ := hf
  obtain ⟨mA, ns, rel⟩ := (show ObjOk X.prog X.w H1 s1.heap dd (.xd fs) from J1.hok dd _ ed)
  obtain ⟨od, hod, hl⟩ := lookIn_ns ns
  obtain ⟨u2, hu, ru⟩ := RelO.some_of (v := v) (o := mA f) (by rw [← l]; exact rel f)
  have I : PySem.W.InstAt s1.heap q.1 q.2 C (some od) := ⟨at_, hz.1, by unfold PySem.W.notCls; rw [dv] <;> rfl, by rw [hz.2]; exact hod⟩
  exact PySem.HandSPX.exc_get J1.kIn I T.ga T.gg T.exC (PySem.W.findObj_own T.dct hno rfl (by rw [hl, hu])) (handed_of ru) ⟨v, H1, J1.tok _, ru, hQ⟩
structure FnQ (P : Program) (w : World) (K : PySem.W.Frag) (mg : Str → Option Value) (base : Heap) (k : Nat) (f : Addr) (fd : FuncData) (ps : List Str) (sp : Addr × Obj → Sp) : Prop where
  len : ∀ p vs H Q E, sp p vs H Q E → vs.length = ps.length
  run : ∀ (A : Around) (outer : List Env) (s : Shared) (H : Hp) (args : Args) (us : List Value) (vs : List V) (Q : VK) (E : XK) (p : Addr × Obj), L2H.RoomH k A → L2H.PinOk outer H s p → (∃ vs, p.2.data = .fields vs) → Env0 P w K mg base A outer s H → BindsTo s fd args (ps.zip us) → Vals vs us → sp p vs H Q E →
    codeAny (model P w) A (.call (.ref f) args) (CR CX0 outer P w H s Q E) s
section
variable {P : Program} {w : World} {K : PySem.W.Frag} {mg : Str → Option Value} {base : Heap}
theorem fn_quiet {x qual : Str} {st : Stmt} {f : Addr} {fd : FuncData} {N ps : List Str} {k : Nat} {sp : Addr × Obj → Sp} (F : Fun K x qual st f fd) (S : FnScope N ps (defScope st)) (len : ∀ p vs H Q E, sp p vs H Q E → vs.length = ps.length)
    (hbody : ∀ (cdv : Value) (A : Around) (outer : List Env) (s : Shared) (H : Hp) (vs : List V) (Q : VK) (E : XK) (p : Addr × Obj), (∃ vs, p.2.data = .fields vs) → L2H.RoomH k (A.deeper (envOfC qual (defScope st) s.heap.objs.size f cdv)) → sp p vs H Q E →
      ∃ t, PSs (L2H.cxH CX0 P w K mg base N qual (defScope st) f cdv A outer s H E p).nox (defBody st) t ∧ t { nx := fun _ H' => Q .non H', rt := Q } (start N vs) H) : FnQ P w K mg base (k + 1) f fd ps sp := by
  obtain ⟨oc, od, kV, doc, pm, an, cdv, ct, osl, rfl, lk, hcd⟩ := F.ex
  refine ⟨len, fun A outer s H args us vs Q E p room pin hf e0 bnd r want => ?_⟩
  have inK : K.In s.heap := e0.mod.kin.keeps fun b o e => (e0.bs b o e).1
  have noL : s.heap.NoLimit := e0.mod.nolimit.keeps fun b o e => (e0.bs b o e).1
  have kinds : ∀ y ∈ ps.zip us, (defScope st).names.lookup y.1 = some .local ∨ ((defScope st).names.lookup y.1 = some .cell ∧ ((cellsFrom (s.heap.objs.size + 1) (defScope st).names []).lookup y.1).isSome = true) := fun ⟨n, v⟩ hy => by
    rcases S.par n (List.of_mem_zip hy).1 with q | q
    · exact Or.inl q
    · exact Or.inr ⟨q, PySem.W.cellsFrom_some _ _ _ (Or.inl q)⟩
  refine codeAny_call_function room.depth (inK _ _ lk) rfl S.co S.gen rfl (PySem.W.codeRec_of inK hcd) (bnd _ _ _ _ ?_)
  refine wpAny_newFunctionEnv_cells S.kind kinds fun env he s1 x => ?_
  subst he
  refine ⟨noL.keeps x.toInCall.keep, codeAny_func ?_⟩
  obtain ⟨t, ht0, hq⟩ := hbody cdv A outer s H vs Q E p hf (room.deeper _) want
  have ht := ht0.nox
  have J : Inv (L2H.cxH CX0 P w K mg base N qual (defScope st) f cdv A outer s H E p) [] (start N vs) H s1 := L2H.inv_startH S pin e0 (len p _ _ _ _ want) r x
  refine wpAny_mono (ht.run [] s1 (start N vs) H _ J hq) (fun fl s2 got => ?_) fun _ _ z => z
  have last : ∀ {σ2 : L2.St} {H2 : Hp} {v : V} {u : Value}, Inv (L2H.cxH CX0 P w K mg base N qual (defScope st) f cdv A outer s H E p) [] σ2 H2 s2 → RelV v u → Q v H2 → CE outer P w H s Q u s2 := fun {σ2 H2 v u} J2 rv q => ⟨v, H2, J2.os, J2.bare, J2.base, J2.hok, rv, q⟩
  cases fl with
  | ret u =>
    obtain ⟨v, σ2, H2, J2, rv, q⟩ := got
    exact last J2 rv q
  | next =>
    obtain ⟨σ2, H2, J2, q⟩ := got
    exact last (v := V.non) (u := Value.none) J2 rfl q
  | brk => exact (got.choose_spec.choose_spec.2).elim
  | cont => exact (got.choose_spec.choose_spec.2).elim
end
section
variable {X : Cx} {k : Nat} {f : Addr} {fd : FuncData} {ps : List Str} {sp : Addr × Obj → Sp} {x : Str} {q pos : Pos} {e : Expr} {es : List Expr} {t : TA} {p : Addr × Obj}
theorem pe_callQ (F : FnQ X.prog X.w X.K X.mg X.base k f fd ps sp) (hr : L2H.RoomH k X.A) (hp : p ∈ X.pn) (hf : ∃ vs, p.2.data = .fields vs) (hg : Gl X x) (hm : X.mg x = some (.ref f)) (hk : PySem.W.keepIn X.K (.ref f) = true) (hb : Binds X.K fd ps [])
    (ha : PA X (e :: es) t) (hdb : (x == ("__debug__" : Str)) = false := by decide) (he : starEach (e :: es) X.env = (false, eval e X.env) :: starEach es X.env := by rfl) (hpl : (backTo pos (starEach es X.env)).any (·.1) = false := by rfl) :
    PE X (.Call (.Name x q) (e :: es) [] pos) (tCall (sp p) [] E0 t) := by
  refine ⟨fun pins s σ H Q J h => wpAny_Call_Name_kw (ld_glob J hg hm ?_ hdb)⟩
  refine PySem.W.callWith_K (h₀ := X.base) J.ok.mod.kin hk (thn (ha.run pos pins s σ H _ J h) fun us s1 ⟨vs, H1, J1, r, want⟩ => ⟨J1.kIn, ?_⟩) he hpl
  have want : sp p (vs ++ []) H1 Q E0 := want
  rw [List.append_nil] at want
  have hl : us.length = ps.length := by rw [← r.length]; exact F.len _ _ _ _ _ want
  have b := hb s1 us J1.kIn (by rw [List.append_nil]; exact hl)
  rw [List.append_nil] at b
  have P1 := J1.pin p (List.mem_append_left _ hp)
  have pin : L2H.PinOk X.stack H1 s1 p := ⟨P1.1, P1.2.1, fun z => (List.mem_cons.mp (J1.stkSub p.1 z)).elim P1.2.2.1 P1.2.2.2.1, P1.2.2.2.2⟩
  refine wpAny_call (codeAny_mono (F.run X.A X.stack s1 H1 ⟨us, []⟩ us vs Q E0 p hr pin hf J1.env0 b r want) fun r s2 got => ?_)
  cases r with
  | error e => exact False.elim got
  | ok fl =>
    cases fl with
    | ret u => exact J1.after got
    | next => exact False.elim got
    | brk => exact False.elim got
    | cont => exact False.elim got
end
end Rg
namespace Rg
open PySem L2 RZ PyProof.Rows
/-! ### own errors, told of the data -/
/-- what the __init__ of an own error does: the code, then each parameter as a field -/
def spInit (C : Addr) (ps : List Str) (code : Str) : Sp := fun vs H Q _ => ∃ (a : Addr) (ws : List V), vs = .ref a :: ws ∧ ws.length = ps.length ∧ H a = some (exo a C none) ∧
  ∀ dx, H dx = none → dx ≠ a → Q .non (upd (upd H dx (exd dx ((ps.zip ws).reverse ++ [(("code" : Str), V.str code)]))) a (exo a C (some dx)))
def excN (ps : List Str) : List Str := ps.reverse ++ [("code" : Str)]
def excV (code : Str) (ds : List D) : List D := ds.reverse ++ [.str code]
abbrev excD (C : Addr) (ps : List Str) (code : Str) (ds : List D) : D := .exc C (excN ps) (excV code ds)
section
variable {K : PySem.W.Frag} {M : Mt} {ds : DS} {te : TE} {ta : TA} {R : D → Prop} {E : AE} {C : Addr} {ps : List Str} {code : Str} {as : List D}
theorem RpAll.rev {G : Hp} : ∀ {vs : List V} {es : List D}, RpAll K G vs es → RpAll K G vs.reverse es.reverse
  | _, _, .nil => .nil
  | _, _, .cons h r => by rw [List.reverse_cons, List.reverse_cons]; exact (RpAll.rev r).append (.cons h .nil)
theorem fsN {ws : List V} (h : ws.length = ps.length) : ((ps.zip ws).reverse ++ [(("code" : Str), V.str code)]).map (·.1) = excN ps := by
  unfold excN
  rw [List.map_append, List.map_reverse, List.map_fst_zip (by omega)]
  rfl
theorem fsV {ws : List V} (h : ws.length = ps.length) : ((ps.zip ws).reverse ++ [(("code" : Str), V.str code)]).map (·.2) = ws.reverse ++ [.str code] := by
  rw [List.map_append, List.map_reverse, List.map_snd_zip (by omega)]
  rfl
theorem rp_exc {G : Hp} {a dx : Addr} {ws : List V} (e1 : G a = some (exo a C (some dx))) (e2 : G dx = some (exd dx ((ps.zip ws).reverse ++ [(("code" : Str), V.str code)]))) (h : ws.length = ps.length) (r : RpAll K G ws as) : Rp K G (.ref a) (excD C ps code as) := by
  have z := Rp.exc (K := K) (ds := excV code as) e1 e2 (by rw [fsV h]; exact r.rev.append (.cons (.str code) .nil))
  rw [fsN h] at z
  exact z
theorem xrp_exc {G : Hp} {dx : Addr} {ws : List V} (e2 : G dx = some (.xd ((ps.zip ws).reverse ++ [(("code" : Str), V.str code)]))) (h : ws.length = ps.length) (r : RpAll K G ws as) : XRp K G (.ref C) (some dx) (excD C ps code as) := by
  have z := XRp.own (K := K) (C := C) (ds := excV code as) e2 (by rw [fsV h]; exact r.rev.append (.cons (.str code) .nil))
  rw [fsN h] at z
  exact z
theorem upd_over {H : Hp} {a dx : Addr} {o o' e : HO} (h : dx ≠ a) : upd (upd (upd H a o) dx e) a o' = upd (upd H dx e) a o' := by
  funext b
  by_cases h1 : b = a
  · subst h1; rw [upd_same, upd_same]
  · rw [upd_ne h1, upd_ne h1]
    by_cases h2 : b = dx
    · subst h2; rw [upd_same, upd_same]
    · rw [upd_ne h2, upd_ne h2, upd_ne h1]
/-- the making itself -/
theorem mk_exc {M' : Mt} {G H : Hp} {vs : List V} {Q : VK} {a : Addr} (w : Wd M' G H) (r : RpAll K G vs as) (hl : as.length = ps.length) (ha : H a = none)
    (q : ∀ v d G' H', Same G G' → Wd M' G' H' → Rp K G' v d → d = excD C ps code as → Q v H') : spInit C ps code (.ref a :: vs) (upd H a (exo a C none)) (fun v H2 => v = .non ∧ Q (.ref a) H2) (fun _ _ _ => False) := by
  have hv : vs.length = ps.length := r.length.trans hl
  refine ⟨a, vs, rfl, hv, upd_same, fun dx hdx ne => ⟨rfl, ?_⟩⟩
  rw [upd_ne ne] at hdx
  rw [upd_over ne]
  have w1 := w.new (o := exd dx ((ps.zip vs).reverse ++ [(("code" : Str), V.str code)])) hdx
  have ha1 : upd H dx (exd dx ((ps.zip vs).reverse ++ [(("code" : Str), V.str code)])) a = none := by rw [upd_ne (Ne.symm ne)]; exact ha
  have w2 := w1.new (o := exo a C (some dx)) ha1
  have s1 := same_new (o := exd dx ((ps.zip vs).reverse ++ [(("code" : Str), V.str code)])) (w.free hdx)
  have s2 := same_new (o := exo a C (some dx)) (w1.free ha1)
  exact q _ _ _ _ (s1.trans s2) w2 (rp_exc (ws := vs) upd_same (by rw [upd_ne ne, upd_same]) hv (r.mono (s1.trans s2))) rfl
theorem ev_xmk (ha : EvA K M ds ta (· = as)) (hl : as.length = ps.length) (h1 : ps.length ≤ 1000) : Ev K M ds (tXmk C (spInit C ps code) [] ta) (· = excD C ps code as) := fun M' σ G H Q m s w q =>
  ha M' σ G H _ m s w fun vs es G1 H1 s1 w1 r1 e => by
    subst e
    refine ⟨by rw [r1.length, hl]; exact h1, fun a ha => ?_⟩
    rw [List.append_nil]
    exact mk_exc w1 r1 hl ha fun v d G2 H2 s2 w2 r2 e2 => q v d G2 H2 (s1.trans s2) w2 r2 e2
theorem ev_xmkK {n : Nat} (ha : EvA K M ds ta (· = as)) (hn : as.length = n) (hl : n = ps.length) : Ev K M ds (tXmkK C n (spInit C ps code) ta) (· = excD C ps code as.reverse) := fun M' σ G H Q m s w q =>
  ha M' σ G H _ m s w fun vs es G1 H1 s1 w1 r1 e => by
    subst e
    refine ⟨by rw [r1.length, hn], fun a ha => ?_⟩
    exact mk_exc w1 r1.rev (by rw [List.length_reverse, hn, hl]) ha fun v d G2 H2 s2 w2 r2 e2 => q v d G2 H2 (s1.trans s2) w2 r2 e2
/-- a field of an error -/
def fldD : List Str → List D → Str → Option D
  | n :: ns, d :: ds, f => if f = n then some d else fldD ns ds f
  | _, _, _ => none
theorem fld_of {G : Hp} : ∀ {fs : List (Str × V)} {es : List D} {f : Str} {d : D}, RpAll K G (fs.map (·.2)) es → fldD (fs.map (·.1)) es f = some d → ∃ v, fs.lookup f = some v ∧ Rp K G v d
  | [], es, f, d, r, h => by cases h
  | (n, v) :: fs, [], f, d, r, h => by cases r
  | (n, v) :: fs, e :: es, f, d, r, h => by
    cases r with
    | cons r1 r2 =>
      rw [List.lookup_cons]
      have h2 : (if f = n then some e else fldD (fs.map (·.1)) es f) = some d := h
      by_cases q : f = n
      · rw [if_pos q] at h2
        cases h2
        have z : (f == n) = true := by simp [q]
        rw [z]
        exact ⟨v, rfl, r1⟩
      · rw [if_neg q] at h2
        have z : (f == n) = false := by simp [q]
        rw [z]
        exact fld_of r2 h2
theorem ev_xget {f : Str} {ns : List Str} {es : List D} {d : D} (he : Ev K M ds te (· = .exc C ns es)) (T : Xg K C) (hno : PySem.W.findIn K (.ref C) f = some none) (h : fldD ns es f = some d) : Ev K M ds (tXget K f te) (· = d) := fun M' σ G H Q m s w q =>
  he M' σ G H _ m s w fun v d1 G1 H1 s1 w1 r1 e => by
    subst e
    cases r1 with
    | exc h1 h2 r =>
      obtain ⟨u, hu, ru⟩ := fld_of r h
      exact ⟨_, C, _, _, u, rfl, w1.sub _ _ h1, w1.sub _ _ h2, T, hno, hu, q u d G1 H1 s1 w1 ru rfl⟩
theorem ev_xq {f : Str} {p : Addr × Obj} {dd : Addr} {ns : List Str} {es : List D} {d : D} (he : Ev K M ds te (· = .cau p.1 dd C ns es)) (hz : Zc (.ref C) (some dd) p.2) (T : Xg K C) (hno : PySem.W.findIn K (.ref C) f = some none) (h : fldD ns es f = some d) : Ev K M ds (tXq K p f te) (· = d) := fun M' σ G H Q m s w q =>
  he M' σ G H _ m s w fun v d1 G1 H1 s1 w1 r1 e => by
    subst e
    cases r1 with
    | cau h1 r =>
      obtain ⟨u, hu, ru⟩ := fld_of r h
      exact ⟨C, dd, _, u, rfl, hz, T, hno, w1.sub _ _ h1, hu, q u d G1 H1 s1 w1 ru rfl⟩
/-- isinstance of an error -/
theorem cd_isX {c : V} {cv : Value} {ns : List Str} {es : List D} {b : Bool} (T : Xg K C) (hc : ClsV c cv) (hk : PySem.W.kitOne K (.ref C) cv = some b) : CallD K M (rOrC (rIsi K) (rIsX K)) [.exc C ns es, .raw c] (· = .bl b) := fun M' G H xs Q m r w q => by
  cases r with
  | cons r1 r =>
    cases r with
    | cons r2 r =>
      cases r
      have e2 := r2.raw_inv
      subst e2
      cases r1 with
      | exc h1 h2 rr => exact .inr ⟨_, C, _, _, cv, b, rfl, w.sub _ _ h1, ⟨_, w.sub _ _ h2⟩, T, hc, hk, q _ _ G H (Same.refl G) w (.bl b) rfl⟩
theorem cd_isiU {as : List D} (h : CallD K M (rIsi K) as R) : CallD K M (rOrC (rIsi K) (rIsX K)) as R := fun M' G H xs Q m r w q => .inl (h M' G H xs Q m r w q)
/-! ### raise -/
def tRz (W : WX) (t : L2.St → Hp → XK → Prop) : TS := fun _ σ H => t σ H fun cls d H' => W cls d σ H'
theorem ps_rz {X : Cx} {W : WX} {e : Expr} {t : L2.St → Hp → XK → Prop} {pos : Pos} (hc : X.calm = true) (tk : Takes X W) (he : PMk X e t) : PS X (.Raise (some e) none pos) (tRz W t) := ps_raise hc tk he
theorem upd_del {H : Hp} {a dx : Addr} {o e x : HO} (h : dx ≠ a) (ha : H a = none) : upd (del (upd (upd H dx e) a o) a) dx x = upd H dx x := by
  funext b
  by_cases h2 : b = dx
  · subst h2; rw [upd_same, upd_same]
  · rw [upd_ne h2, upd_ne h2]
    by_cases h1 : b = a
    · subst h1; rw [del_same, ha]
    · rw [del_ne h1, upd_ne h1, upd_ne h2]
theorem raise_exc {M' : Mt} {G H : Hp} {vs : List V} {Q : XK} {a : Addr} (w : Wd M' G H) (r : RpAll K G vs as) (hl : as.length = ps.length) (ha : H a = none)
    (q : ∀ c d G' H', Same G G' → Wd0 M'.l G' H' → XRp K G' c d (excD C ps code as) → Q c d H') : spInit C ps code (.ref a :: vs) (upd H a (exo a C none))
      (fun v H2 => v = .non ∧ ∃ (d : Addr) (fs : List (Str × V)), H2 a = some (exo a C (some d)) ∧ H2 d = some (exd d fs) ∧ H d = none ∧ Q (.ref C) (some d) (upd (del H2 a) d (.xd fs))) (fun _ _ _ => False) := by
  have hv : vs.length = ps.length := r.length.trans hl
  refine ⟨a, vs, rfl, hv, upd_same, fun dx hdx ne => ⟨rfl, dx, (ps.zip vs).reverse ++ [(("code" : Str), V.str code)], upd_same, ?_, ?_, ?_⟩⟩
  · rw [upd_ne ne, upd_same]
  · rw [upd_ne ne] at hdx; exact hdx
  · rw [upd_ne ne] at hdx
    rw [upd_over ne, upd_del ne ha]
    have s1 := same_new (o := HO.xd ((ps.zip vs).reverse ++ [(("code" : Str), V.str code)])) (w.free hdx)
    exact q _ _ _ _ s1 (w.toWd0.new hdx) (xrp_exc (ws := vs) upd_same hv (r.mono s1))
theorem run_raise {W : WX} (hW : M.W = W) (ha : EvA K M ds ta (· = as)) (hl : as.length = ps.length) (hx : Exk K M (excD C ps code as) ds) (h1 : ps.length ≤ 1000 := by decide) : Run K M ds (tRz W (tMkO C (spInit C ps code) [] ta)) E := fun M' σ G H Z m s w z =>
  ha M' σ G H _ m s w fun vs es G1 H1 s1 w1 r1 e => by
    subst e
    refine ⟨by rw [r1.length, hl]; exact h1, fun a ha => ?_⟩
    rw [List.append_nil]
    exact raise_exc w1 r1 hl ha fun c d G2 H2 s2 w2 x2 => w1.toW m hW s2 w2 (s.mono (s1.trans s2)) x2 hx
theorem run_raiseK {W : WX} {n : Nat} (hW : M.W = W) (ha : EvA K M ds ta (· = as)) (hn : as.length = n) (hl : n = ps.length) (hx : Exk K M (excD C ps code as.reverse) ds) : Run K M ds (tRz W (tRmk C n (spInit C ps code) ta)) E := fun M' σ G H Z m s w z =>
  ha M' σ G H _ m s w fun vs es G1 H1 s1 w1 r1 e => by
    subst e
    refine ⟨by rw [r1.length, hn], fun a ha => ?_⟩
    exact raise_exc w1 r1.rev (by rw [List.length_reverse, hn, hl]) ha fun c d G2 H2 s2 w2 x2 => w1.toW m hW s2 w2 (s.mono (s1.trans s2)) x2 hx
/-! ### try -/
def clsX : D → Option Value
  | .exc C _ _ => some (.ref C)
  | .raw (.ty n) => some (.type n)
  | _ => none
def hdD (i : Option Nat) (d : D) (ds : DS) : DS := match i with
  | none => ds
  | some i => ds.set i (some d)
def hdA (i : Option Nat) (E : AE) : AE := match i with
  | none => E
  | some i => { nx := fun d => E.nx (d.set i none), rt := E.rt, bk := fun d => E.bk (d.set i none), ct := fun d => E.ct (d.set i none) }
def yesR (K : PySem.W.Frag) (M : Mt) (E : AE) (ds : DS) (h : Hd) : D → Prop
  | .exc C ns es => ∀ (p : Addr × Obj) (dd : Addr), Zc (.ref C) (some dd) p.2 → Run K M (hdD h.i (.cau p.1 dd C ns es) ds) (h.ts p) (hdA h.i E)
  | .raw (.ty n) => ∀ (p : Addr × Obj) (d : Option Addr), Zc (.type n) d p.2 → Run K M (hdD h.i (.raw (.ref p.1)) ds) (h.ts p) (hdA h.i E)
  | _ => False
/-- what the clauses do with the exception x from the slots ds -/
def Hok (K : PySem.W.Frag) (M : Mt) (W0 : WX) (E : AE) (x : D) (ds : DS) : List Hd → Prop
  | [] => M.W = W0 ∧ Exk K M x ds
  | h :: r => ∃ b, (clsX x).bind h.m = some b ∧ (b = true → yesR K M E ds h x) ∧ (b = false → Hok K M W0 E x ds r)
theorem hdS_sg {G : Hp} {σ : L2.St} {i : Option Nat} {a : Addr} {d : D} (s : Sg K G σ ds) (r : Rp K G (.ref a) d) : Sg K G (hdS i a σ) (hdD i d ds) := by
  cases i with
  | none => exact s
  | some i => exact s.set i r
theorem hdE_ok {M' : Mt} {G : Hp} {Z : Ends} {i : Option Nat} (z : EndsOk K M' G E Z) : EndsOk K M' G (hdA i E) (hdE i Z) := by
  cases i with
  | none => exact z
  | some i => exact ⟨fun ds' σ' G' H' e g s' w' => z.nx _ _ G' H' e g s'.drop w', z.rt, fun ds' σ' G' H' e g s' w' => z.bk _ _ G' H' e g s'.drop w', fun ds' σ' G' H' e g s' w' => z.ct _ _ G' H' e g s'.drop w'⟩
theorem hok_w {M' : Mt} {G H : Hp} {Z : Ends} {σ : L2.St} {W0 : WX} {c : Value} {d : Option Addr} {x : D} (m : MSub M M') (s : Sg K G σ ds) (w : Wd M' G H) (z : EndsOk K M' G E Z) (hx : XRp K G c d x) : ∀ {l : List Hd}, Hok K M W0 E x ds l → wHs W0 Z l c d σ H
  | [], h => w.toW m h.1 (Same.refl G) w.toWd0 s hx h.2
  | h :: r, ⟨b, e, yes, no⟩ => by
    refine ⟨b, ?_, fun eb p zp np => ?_, fun eb => hok_w m s w z hx (no eb)⟩
    · cases hx with
      | own _ _ => exact e
      | blt n d => exact e
    · have y := yes eb
      cases hx with
      | @own C dd fs es h1 r1 => exact y p dd zp M' _ G H _ m (hdS_sg s (.cau h1 r1)) w (hdE_ok z)
      | blt n d => exact y p d zp M' _ G H _ m (hdS_sg s (.raw _)) w (hdE_ok z)
theorem run_try {tb : WX → TS} {l : List Hd} {W0 : WX} (Rx : D → DS → Prop) (hb : ∀ W, Run K (M.tr K W Rx) ds (tb W) E) (hh : ∀ x ds', Rx x ds' → Hok K M W0 E x ds' l) : Run K M ds (tTry tb W0 l) E := fun M' σ G H Z m s w z =>
  hb _ (M'.tr K (wHs W0 Z l) Rx) σ G H Z ⟨m.l, rfl, rfl⟩ s ⟨w.toWd0, fun c d σ' G' H' ⟨x, ds', rx, hx, sg⟩ s' w' => hok_w m sg (w.to s' w') (z.mono s') hx (hh x ds' rx)⟩
    ⟨fun ds' σ' G' H' e g s' w' => z.nx ds' σ' G' H' e g s' (w.to g w'.toWd0), fun v d G' H' e g r w' => z.rt v d G' H' e g r (w.to g w'.toWd0), fun ds' σ' G' H' e g s' w' => z.bk ds' σ' G' H' e g s' (w.to g w'.toWd0), fun ds' σ' G' H' e g s' w' => z.ct ds' σ' G' H' e g s' (w.to g w'.toWd0)⟩
/-! ### a def that is called while an error is handled -/
def spQ (K : PySem.W.Frag) (pre : Addr × Obj → List D → Prop) (post : List D → D → Prop) (p : Addr × Obj) : Sp := fun vs H Q _ => ∃ M G as, Wd0 M G H ∧ RpAll K G vs as ∧ pre p as ∧ ∀ v d G' H', Same G G' → Wd0 M G' H' → Rp K G' v d → post as d → Q v H'
theorem ev_callQ {RA : List D → Prop} {pre : Addr × Obj → List D → Prop} {post : List D → D → Prop} {p : Addr × Obj} {Ex : XK} (ha : EvA K M ds ta RA) (h : ∀ as, RA as → pre p as ∧ ∀ d, post as d → R d) : Ev K M ds (tCall (spQ K pre post p) [] Ex ta) R := fun M' σ G H Q m s w q =>
  ha M' σ G H _ m s w fun vs as G1 H1 s1 w1 r1 e => ⟨M'.l, G1, as, w1.toWd0, by rw [List.append_nil]; exact r1, (h as e).1, fun v d G2 H2 s2 w2 r2 p2 => q v d G2 H2 (s1.trans s2) (w1.to s2 w2) r2 ((h as e).2 d p2)⟩
end
section
variable {P : Program} {w : World} {K : PySem.W.Frag} {mg : Str → Option Value} {base : Heap} {pre : Addr × Obj → List D → Prop} {post : List D → D → Prop}
theorem fn_quietD {x qual : Str} {st : Stmt} {f : Addr} {fd : FuncData} {N ps : List Str} {k : Nat} (F : Fun K x qual st f fd) (S : FnScope N ps (defScope st)) (hl : ∀ p as, pre p as → as.length = ps.length)
    (body : ∀ (cdv : Value) (A : Around) (outer : List Env) (s : Shared) (H : Hp) (E : XK) (p : Addr × Obj), (∃ vs, p.2.data = .fields vs) → L2H.RoomH k (A.deeper (envOfC qual (defScope st) s.heap.objs.size f cdv)) →
      ∃ t, PSs (L2H.cxH CX0 P w K mg base N qual (defScope st) f cdv A outer s H E p).nox (defBody st) t ∧
        ∀ (M : Mt) as, pre p as → Run K M (as.map some ++ List.replicate (N.length - as.length) none) t { nx := fun _ => post as .non, rt := post as }) : FnQ P w K mg base (k + 1) f fd ps (spQ K pre post) := by
  refine fn_quiet F S (fun p vs H Q E h => ?_) (fun cdv A outer s H vs Q E p hf hr h => ?_)
  · obtain ⟨M, G, as, _, r, hp, _⟩ := h
    rw [r.length]
    exact hl p as hp
  · obtain ⟨t, ht, hrun⟩ := body cdv A outer s H E p hf hr
    obtain ⟨M, G, as, wd, r, hp, q⟩ := h
    refine ⟨t, ht, hrun { l := M } as hp _ _ G H _ (MSub.refl _) (Sg.start r) ⟨wd, fun _ _ _ _ _ z => z.elim⟩ ⟨fun ds' σ' G' H' e s' _ w' => q _ _ G' H' s' w'.toWd0 .non e, fun v d G' H' e s' r' w' => q v d G' H' s' w'.toWd0 r' e, fun _ _ _ _ e => e.elim, fun _ _ _ _ e => e.elim⟩⟩
end
end Rg
namespace Rg
open PySem L2 RZ PyProof.Rows
/-! ### == of data of any depth -/
mutual
def pyT : D → PyData
  | .bl b => .bool b
  | .int i => .int i
  | .str x => .str x
  | .list xs => .list (pyTs xs)
  | .tup xs => .tuple (pyTs xs)
  | _ => .none
def pyTs : List D → List PyData
  | [] => []
  | d :: ds => pyT d :: pyTs ds
end
/-- plain data of at most this depth -/
def flD : Nat → D → Bool
  | 0, _ => false
  | _ + 1, .non => true
  | _ + 1, .bl _ => true
  | _ + 1, .int _ => true
  | _ + 1, .str x => x.cps.all (· < 0x110000)
  | n + 1, .list xs => xs.all (flD n)
  | n + 1, .tup xs => xs.all (flD n)
  | _ + 1, _ => false
mutual
theorem dp_of {K : PySem.W.Frag} {G H : Hp} (s : Same G H) : ∀ {n : Nat} {d : D} {v : V}, flD n d = true → Rp K G v d → Dp K H v (pyT d)
  | 0, _, _, h, _ => by cases h
  | _ + 1, _, _, _, .non => .non
  | _ + 1, _, _, _, .bl b => .bl b
  | _ + 1, _, _, _, .int i => .int i
  | _ + 1, _, _, _, .str x => .str x
  | n + 1, _, _, h, .lst e r => .lst (s.seq (sq e)) (dps_of s (n := n) h r)
  | n + 1, _, _, h, .tup e r => .tup (same_t s e) (dps_of s (n := n) h r)
  | _ + 1, _, _, h, .obj _ _ => by cases h
  | _ + 1, _, _, h, .exc _ _ _ => by cases h
  | _ + 1, _, _, h, .cau _ _ => by cases h
  | _ + 1, _, _, h, .seq _ _ => by cases h
  | _ + 1, _, _, h, .raw _ => by cases h
theorem dps_of {K : PySem.W.Frag} {G H : Hp} (s : Same G H) : ∀ {n : Nat} {ds : List D} {vs : List V}, ds.all (flD n) = true → RpAll K G vs ds → DpAll K H vs (pyTs ds)
  | _, _, _, _, .nil => .nil
  | n, _, _, h, .cons r1 r2 => by
    have h2 := Bool.and_eq_true_iff.mp (show (flD n _ && List.all _ (flD n)) = true from h)
    exact .cons (dp_of s h2.1 r1) (dps_of s h2.2 r2)
end
mutual
theorem lay_of : ∀ (n : Nat) (d : D), flD n d = true → (pyT d).canLay0 = true ∧ (pyT d).depth ≤ n
  | 0, _, h => by cases h
  | n + 1, .non, _ => ⟨rfl, by simp [pyT, PyData.depth]⟩
  | n + 1, .bl b, _ => ⟨rfl, by simp [pyT, PyData.depth]⟩
  | n + 1, .int b, _ => ⟨rfl, by simp [pyT, PyData.depth]⟩
  | n + 1, .str x, h => ⟨h, by simp [pyT, PyData.depth]⟩
  | n + 1, .list xs, h => by
    obtain ⟨a, b⟩ := lays_of n xs h
    exact ⟨a, by simp only [pyT, PyData.depth]; omega⟩
  | n + 1, .tup xs, h => by
    obtain ⟨a, b⟩ := lays_of n xs h
    exact ⟨a, by simp only [pyT, PyData.depth]; omega⟩
  | n + 1, .obj _ _ _, h => by cases h
  | n + 1, .exc _ _ _, h => by cases h
  | n + 1, .cau _ _ _ _ _, h => by cases h
  | n + 1, .seq _, h => by cases h
  | n + 1, .raw _, h => by cases h
theorem lays_of : ∀ (n : Nat) (ds : List D), ds.all (flD n) = true → PyData.canLayAll0 (pyTs ds) = true ∧ PyData.depthAll (pyTs ds) ≤ n
  | n, [], _ => ⟨rfl, by simp [pyTs, PyData.depthAll]⟩
  | n, d :: ds, h => by
    have h2 := Bool.and_eq_true_iff.mp (show (flD n d && List.all ds (flD n)) = true from h)
    obtain ⟨a, b⟩ := lay_of n d h2.1
    obtain ⟨a2, b2⟩ := lays_of n ds h2.2
    refine ⟨?_, ?_⟩
    · show ((pyT d).canLay0 && PyData.canLayAll0 (pyTs ds)) = true
      rw [a, a2]; rfl
    · simp only [pyTs, PyData.depthAll]; omega
end
def eqvD (a b : D) : Bool := PyData.eqv (pyT a) (pyT b)
section
variable {K : PySem.W.Frag} {M : Mt} {ds : DS} {te : TE}
theorem shaped_of {n : Nat} {d : D} (h : flD n d = true) (hn : n ≤ 64) : SeqAt.shaped (pyT d) = true := by
  obtain ⟨a, b⟩ := lay_of n d h
  show ((pyT d).canLay0 && decide ((pyT d).depth ≤ 64)) = true
  rw [a, decide_eq_true (Nat.le_trans b hn)]
  rfl
theorem od_eqD {n : Nat} {a b : D} (ha : flD n a = true) (hb : flD n b = true) (hn : n ≤ 64 := by decide) : OpD K M (rEqD K) a b (· = .bl (eqvD a b)) := fun M' G H x y Q m rx ry w q =>
  ⟨pyT a, pyT b, dp_of w.sub ha rx, dp_of w.sub hb ry, shaped_of ha hn, shaped_of hb hn, q _ _ G H (Same.refl G) w (.bl _) rfl⟩
theorem od_neD {n : Nat} {a b : D} (ha : flD n a = true) (hb : flD n b = true) (hn : n ≤ 64 := by decide) : OpD K M (rNeD K) a b (· = .bl (!eqvD a b)) := fun M' G H x y Q m rx ry w q =>
  ⟨pyT a, pyT b, dp_of w.sub ha rx, dp_of w.sub hb ry, shaped_of ha hn, shaped_of hb hn, q _ _ G H (Same.refl G) w (.bl _) rfl⟩
theorem room_u {k : Nat} {A : Around} (hr : Room k A) : A.units + 64 < cLine := by have := hr.un; omega
theorem q_eqD {X : Cx} {K : PySem.W.Frag} (hu : X.A.units + 64 < cLine) (h : X.K = K := by rfl) : OpR X (compareOp .Eq) (rEqD K) := h ▸ op_eqD hu
theorem q_neD {X : Cx} {K : PySem.W.Frag} (hu : X.A.units + 64 < cLine) (h : X.K = K := by rfl) : OpR X (compareOp .NotEq) (rNeD K) := h ▸ op_neD hu
mutual
theorem eqv_refl : ∀ (n : Nat) (d : D), flD n d = true → eqvD d d = true
  | 0, _, h => by cases h
  | n + 1, .non, _ => rfl
  | n + 1, .bl b, _ => by simp [eqvD, pyT, PyData.eqv]
  | n + 1, .int b, _ => by simp [eqvD, pyT, PyData.eqv]
  | n + 1, .str x, h => by simp [eqvD, pyT, PyData.eqv]
  | n + 1, .list xs, h => by
    have := eqvs_refl n xs h
    simpa [eqvD, pyT, PyData.eqv] using this
  | n + 1, .tup xs, h => by
    have := eqvs_refl n xs h
    simpa [eqvD, pyT, PyData.eqv] using this
  | n + 1, .obj _ _ _, h => by cases h
  | n + 1, .exc _ _ _, h => by cases h
  | n + 1, .cau _ _ _ _ _, h => by cases h
  | n + 1, .seq _, h => by cases h
  | n + 1, .raw _, h => by cases h
theorem eqvs_refl : ∀ (n : Nat) (ds : List D), ds.all (flD n) = true → PyData.eqvAll (pyTs ds) (pyTs ds) = true
  | n, [], _ => rfl
  | n, d :: ds, h => by
    have h2 := Bool.and_eq_true_iff.mp (show (flD n d && List.all ds (flD n)) = true from h)
    have a := eqv_refl n d h2.1
    have b := eqvs_refl n ds h2.2
    show (PyData.eqv (pyT d) (pyT d) && PyData.eqvAll (pyTs ds) (pyTs ds)) = true
    rw [show PyData.eqv (pyT d) (pyT d) = true from a, b]
    rfl
end
/-! ### lists repeated -/
abbrev rMulU : R2 := rOr (rI CMul fun i j => .int (i * j)) rRep
theorem op_mulU {X : Cx} : OpR X (binaryOp .Mult) rMulU := op_or op_mul op_rep
theorem od_mulU {i j : Int} (h : CMul i j) : OpD K M rMulU (.int i) (.int j) (· = .int (i * j)) := od_l (od_intC (h := fun i j => .int (i * j)) h fun _ => .int _)
theorem RpAll.rep {G : Hp} {vs : List V} {es : List D} (r : RpAll K G vs es) : ∀ n : Nat, RpAll K G (List.replicate n vs).flatten (List.replicate n es).flatten
  | 0 => .nil
  | n + 1 => by
    rw [List.replicate_succ, List.replicate_succ, List.flatten_cons, List.flatten_cons]
    exact r.append (RpAll.rep r n)
theorem od_rep {xs : List D} {k : Int} (h0 : -(2 ^ 63) ≤ k) (h1 : k < 2 ^ 63) (hz : xs.length * k.toNat ≤ 100000) : OpD K M rMulU (.list xs) (.int k) (· = .list (List.replicate k.toNat xs).flatten) := od_r fun M' G H x y Q m rx ry w q => by
  obtain ⟨a, us, rfl, e, r⟩ := rx.list_ex
  refine ⟨a, k, us, rfl, ry.int_inv, w.sub _ _ e, h0, h1, by rw [r.length]; exact Nat.le_trans hz (by decide), fun p hp => ?_⟩
  have sn := same_new (o := HO.lst (List.replicate k.toNat us).flatten) (w.free hp)
  exact q (.ref p) _ _ _ sn (w.new hp) (.lst upd_same ((r.mono sn).rep k.toNat)) rfl
end
theorem xgB_ok {K : PySem.W.Frag} {C : Addr} {b : XB} (h : xgB K C b = true) : Xg K C := by
  obtain ⟨h1, h⟩ := He.ba h
  obtain ⟨h2, h⟩ := He.ba h
  obtain ⟨h3, h⟩ := He.ba h
  obtain ⟨h4, h⟩ := He.ba h
  obtain ⟨h5, h⟩ := He.ba h
  obtain ⟨h6, h⟩ := He.ba h
  obtain ⟨h7, h⟩ := He.ba h
  obtain ⟨h8, h⟩ := He.ba h
  obtain ⟨h9, h⟩ := He.ba h
  obtain ⟨h10, h⟩ := He.ba h
  obtain ⟨h11, h⟩ := He.ba h
  obtain ⟨h12, h13⟩ := He.ba h
  refine { base := ?_, dct := h3, sa := He.eqO_ok h4, exC := of_decide_eq_true h5, tyC := of_decide_eq_true h6, kC := h7, ga := He.eqO_ok h8, gg := He.eqO_ok h9, cl := He.eqO_ok h10, gs := He.eqO_ok h11, tk := of_decide_eq_true h12, ob := of_decide_eq_true h13 }
  cases b with
  | value => exact ⟨_, _, _, _, PySem.F.excBase_ValueError, PySem.F.store_ValueError, h1, h2⟩
  | lookup => exact ⟨_, _, _, _, PySem.F.excBase_LookupError, PySem.F.store_LookupError, h1, h2⟩
  | index => exact ⟨_, _, _, _, PySem.F.excBase_IndexError, PySem.F.store_IndexError, h1, h2⟩
structure ErF (K : PySem.W.Frag) (e : Str) (fs : List Str) : Prop where
  x : Xg K (He.ga K e)
  i : PySem.W.findIn K (.ref (He.ga K e)) "__init__" = some (some (.ref (He.ma K (He.ga K e) "__init__")))
  t : PySem.W.typeIn K (.ref (He.ma K (He.ga K e) "__init__")) = some (.type "function")
  no : ∀ f ∈ fs, PySem.W.findIn K (.ref (He.ga K e)) f = some none
theorem erB_ok {K : PySem.W.Frag} : ∀ {l : List (Str × XB × List Str)}, erB K l = true → ∀ {e : Str} {b : XB} {fs : List Str}, (e, b, fs) ∈ l → ErF K e fs
  | [], _, _, _, _, h => by cases h
  | (e0, b0, fs0) :: r, h, e, b, fs, hm => by
    obtain ⟨h1, h⟩ := He.ba h
    obtain ⟨h2, h⟩ := He.ba h
    obtain ⟨h3, h⟩ := He.ba h
    obtain ⟨h4, h5⟩ := He.ba h
    rcases List.mem_cons.mp hm with z | z
    · cases z
      exact ⟨xgB_ok h1, He.eqO_ok h2, of_decide_eq_true h3, fun f hf => He.eqO_ok (List.all_eq_true.mp h4 f hf)⟩
    · exact erB_ok h5 z
end Rg
namespace K0
open PySem L2 Rg RZ PyProof.Rows
abbrev n_Lbag : List Str := ["_law_script", "_law_mixed", "_law_cell"]
theorem sc_Lbag : FnScope n_Lbag ["_law_script"] (defScope s_Lbag) := ⟨rfl, rfl, rfl, by decide +kernel, rfl, by decide +kernel, by decide +kernel⟩
abbrev n_Ldraw : List Str := ["_law_bag_here", "_law_many", "_law_cell", "_law_digit", "_law_seed"]
theorem sc_Ldraw : FnScope n_Ldraw ["_law_bag_here", "_law_many"] (defScope s_Ldraw) := ⟨rfl, rfl, rfl, by decide +kernel, rfl, by decide +kernel, by decide +kernel⟩
abbrev n_Lof : List Str := ["_law_bag_here", "_law_some"]
theorem sc_Lof : FnScope n_Lof ["_law_bag_here", "_law_some"] (defScope s_Lof) := ⟨rfl, rfl, rfl, by decide +kernel, rfl, by decide +kernel, by decide +kernel⟩
abbrev n_Lsame : List Str := ["_law_found", "_law_due", "_law_low", "_law_high"]
theorem sc_Lsame : FnScope n_Lsame ["_law_found", "_law_due"] (defScope s_Lsame) := ⟨rfl, rfl, rfl, by decide +kernel, rfl, by decide +kernel, by decide +kernel⟩
abbrev n_Lfields : List Str := ["_law_e"]
theorem sc_Lfields : FnScope n_Lfields ["_law_e"] (defScope s_Lfields) := ⟨rfl, rfl, rfl, by decide +kernel, rfl, by decide +kernel, by decide +kernel⟩
abbrev n_Lbyname : List Str := ["_law_first", "_law_second", "_law_third", "_law_found"]
theorem sc_Lbyname : FnScope n_Lbyname ["_law_first", "_law_second", "_law_third"] (defScope s_Lbyname) := ⟨rfl, rfl, rfl, by decide +kernel, rfl, by decide +kernel, by decide +kernel⟩
abbrev n_Lbyplace : List Str := ["_law_first", "_law_second", "_law_third", "_law_found"]
theorem sc_Lbyplace : FnScope n_Lbyplace ["_law_first", "_law_second", "_law_third"] (defScope s_Lbyplace) := ⟨rfl, rfl, rfl, by decide +kernel, rfl, by decide +kernel, by decide +kernel⟩
abbrev n_Lcodes : List Str := ["_law_found"]
theorem sc_Lcodes : FnScope n_Lcodes [] (defScope s_Lcodes) := ⟨rfl, rfl, rfl, by decide +kernel, rfl, by decide +kernel, by decide +kernel⟩
abbrev n_Lclasses : List Str := ["_law_e", "_law_found"]
theorem sc_Lclasses : FnScope n_Lclasses ["_law_e"] (defScope s_Lclasses) := ⟨rfl, rfl, rfl, by decide +kernel, rfl, by decide +kernel, by decide +kernel⟩
abbrev n_Lcaught : List Str := ["_law_way", "_law_thing", "_law_e"]
theorem sc_Lcaught : FnScope n_Lcaught ["_law_way", "_law_thing"] (defScope s_Lcaught) := ⟨rfl, rfl, rfl, by decide +kernel, rfl, by decide +kernel, by decide +kernel⟩
abbrev n_law : List Str := ["_law_script", "_law_bag_here", "_law_some", "_law_first", "_law_second", "_law_third", "_law_widths", "_law_rows", "_law_k", "_law_e", "_law_due", "_law_found", "_law_j", "_law_way"]
theorem sc_law : FnScope n_law ["_law_script"] (defScope s_law) := ⟨rfl, rfl, rfl, by decide +kernel, rfl, by decide +kernel, by decide +kernel⟩
abbrev n_InvalidNameinit : List Str := ["self", "value"]
theorem sc_InvalidNameinit : FnScope n_InvalidNameinit ["self", "value"] (defScope s_InvalidNameinit) := ⟨rfl, rfl, rfl, by decide +kernel, rfl, by decide +kernel, by decide +kernel⟩
abbrev n_InvalidNumberinit : List Str := ["self", "value"]
theorem sc_InvalidNumberinit : FnScope n_InvalidNumberinit ["self", "value"] (defScope s_InvalidNumberinit) := ⟨rfl, rfl, rfl, by decide +kernel, rfl, by decide +kernel, by decide +kernel⟩
abbrev n_InvalidSectioninit : List Str := ["self", "value"]
theorem sc_InvalidSectioninit : FnScope n_InvalidSectioninit ["self", "value"] (defScope s_InvalidSectioninit) := ⟨rfl, rfl, rfl, by decide +kernel, rfl, by decide +kernel, by decide +kernel⟩
abbrev n_InvalidTimesinit : List Str := ["self", "value"]
theorem sc_InvalidTimesinit : FnScope n_InvalidTimesinit ["self", "value"] (defScope s_InvalidTimesinit) := ⟨rfl, rfl, rfl, by decide +kernel, rfl, by decide +kernel, by decide +kernel⟩
abbrev n_InvalidStepinit : List Str := ["self", "value"]
theorem sc_InvalidStepinit : FnScope n_InvalidStepinit ["self", "value"] (defScope s_InvalidStepinit) := ⟨rfl, rfl, rfl, by decide +kernel, rfl, by decide +kernel, by decide +kernel⟩
abbrev n_InvalidStandinginit : List Str := ["self", "value"]
theorem sc_InvalidStandinginit : FnScope n_InvalidStandinginit ["self", "value"] (defScope s_InvalidStandinginit) := ⟨rfl, rfl, rfl, by decide +kernel, rfl, by decide +kernel, by decide +kernel⟩
abbrev n_InvalidRowinit : List Str := ["self", "value"]
theorem sc_InvalidRowinit : FnScope n_InvalidRowinit ["self", "value"] (defScope s_InvalidRowinit) := ⟨rfl, rfl, rfl, by decide +kernel, rfl, by decide +kernel, by decide +kernel⟩
abbrev n_InvalidTableinit : List Str := ["self", "value"]
theorem sc_InvalidTableinit : FnScope n_InvalidTableinit ["self", "value"] (defScope s_InvalidTableinit) := ⟨rfl, rfl, rfl, by decide +kernel, rfl, by decide +kernel, by decide +kernel⟩
abbrev n_InvalidDelaysinit : List Str := ["self", "value"]
theorem sc_InvalidDelaysinit : FnScope n_InvalidDelaysinit ["self", "value"] (defScope s_InvalidDelaysinit) := ⟨rfl, rfl, rfl, by decide +kernel, rfl, by decide +kernel, by decide +kernel⟩
abbrev n_InvalidPeriodinit : List Str := ["self", "value"]
theorem sc_InvalidPeriodinit : FnScope n_InvalidPeriodinit ["self", "value"] (defScope s_InvalidPeriodinit) := ⟨rfl, rfl, rfl, by decide +kernel, rfl, by decide +kernel, by decide +kernel⟩
abbrev n_InvalidHeightsinit : List Str := ["self", "value"]
theorem sc_InvalidHeightsinit : FnScope n_InvalidHeightsinit ["self", "value"] (defScope s_InvalidHeightsinit) := ⟨rfl, rfl, rfl, by decide +kernel, rfl, by decide +kernel, by decide +kernel⟩
abbrev n_InvalidDeedinit : List Str := ["self", "value"]
theorem sc_InvalidDeedinit : FnScope n_InvalidDeedinit ["self", "value"] (defScope s_InvalidDeedinit) := ⟨rfl, rfl, rfl, by decide +kernel, rfl, by decide +kernel, by decide +kernel⟩
abbrev n_InvalidTurninit : List Str := ["self", "at"]
theorem sc_InvalidTurninit : FnScope n_InvalidTurninit ["self", "at"] (defScope s_InvalidTurninit) := ⟨rfl, rfl, rfl, by decide +kernel, rfl, by decide +kernel, by decide +kernel⟩
abbrev n_InvalidWaitinit : List Str := ["self", "at"]
theorem sc_InvalidWaitinit : FnScope n_InvalidWaitinit ["self", "at"] (defScope s_InvalidWaitinit) := ⟨rfl, rfl, rfl, by decide +kernel, rfl, by decide +kernel, by decide +kernel⟩
abbrev n_InvalidWishinit : List Str := ["self", "at"]
theorem sc_InvalidWishinit : FnScope n_InvalidWishinit ["self", "at"] (defScope s_InvalidWishinit) := ⟨rfl, rfl, rfl, by decide +kernel, rfl, by decide +kernel, by decide +kernel⟩
abbrev n_InvalidJourneyinit : List Str := ["self", "at"]
theorem sc_InvalidJourneyinit : FnScope n_InvalidJourneyinit ["self", "at"] (defScope s_InvalidJourneyinit) := ⟨rfl, rfl, rfl, by decide +kernel, rfl, by decide +kernel, by decide +kernel⟩
abbrev n_InvalidTextinit : List Str := ["self", "line"]
theorem sc_InvalidTextinit : FnScope n_InvalidTextinit ["self", "line"] (defScope s_InvalidTextinit) := ⟨rfl, rfl, rfl, by decide +kernel, rfl, by decide +kernel, by decide +kernel⟩
abbrev n_DuplicateNameinit : List Str := ["self", "name"]
theorem sc_DuplicateNameinit : FnScope n_DuplicateNameinit ["self", "name"] (defScope s_DuplicateNameinit) := ⟨rfl, rfl, rfl, by decide +kernel, rfl, by decide +kernel, by decide +kernel⟩
abbrev n_InUseinit : List Str := ["self", "name"]
theorem sc_InUseinit : FnScope n_InUseinit ["self", "name"] (defScope s_InUseinit) := ⟨rfl, rfl, rfl, by decide +kernel, rfl, by decide +kernel, by decide +kernel⟩
abbrev n_TakenEndinit : List Str := ["self", "end"]
theorem sc_TakenEndinit : FnScope n_TakenEndinit ["self", "end"] (defScope s_TakenEndinit) := ⟨rfl, rfl, rfl, by decide +kernel, rfl, by decide +kernel, by decide +kernel⟩
abbrev n_LooseEndinit : List Str := ["self", "end"]
theorem sc_LooseEndinit : FnScope n_LooseEndinit ["self", "end"] (defScope s_LooseEndinit) := ⟨rfl, rfl, rfl, by decide +kernel, rfl, by decide +kernel, by decide +kernel⟩
abbrev n_TooManyinit : List Str := ["self", "subject", "most"]
theorem sc_TooManyinit : FnScope n_TooManyinit ["self", "subject", "most"] (defScope s_TooManyinit) := ⟨rfl, rfl, rfl, by decide +kernel, rfl, by decide +kernel, by decide +kernel⟩
abbrev n_MisplacedStepinit : List Str := ["self", "train", "step"]
theorem sc_MisplacedStepinit : FnScope n_MisplacedStepinit ["self", "train", "step"] (defScope s_MisplacedStepinit) := ⟨rfl, rfl, rfl, by decide +kernel, rfl, by decide +kernel, by decide +kernel⟩
abbrev n_OwnRinginit : List Str := ["self", "train", "step", "element"]
theorem sc_OwnRinginit : FnScope n_OwnRinginit ["self", "train", "step", "element"] (defScope s_OwnRinginit) := ⟨rfl, rfl, rfl, by decide +kernel, rfl, by decide +kernel, by decide +kernel⟩
abbrev n_Refusedinit : List Str := ["self", "train", "element", "holder"]
theorem sc_Refusedinit : FnScope n_Refusedinit ["self", "train", "element", "holder"] (defScope s_Refusedinit) := ⟨rfl, rfl, rfl, by decide +kernel, rfl, by decide +kernel, by decide +kernel⟩
abbrev n_Lackinginit : List Str := ["self", "train", "other"]
theorem sc_Lackinginit : FnScope n_Lackinginit ["self", "train", "other"] (defScope s_Lackinginit) := ⟨rfl, rfl, rfl, by decide +kernel, rfl, by decide +kernel, by decide +kernel⟩
abbrev n_Unreadyinit : List Str := ["self", "train"]
theorem sc_Unreadyinit : FnScope n_Unreadyinit ["self", "train"] (defScope s_Unreadyinit) := ⟨rfl, rfl, rfl, by decide +kernel, rfl, by decide +kernel, by decide +kernel⟩
abbrev n_Finishedinit : List Str := ["self", "train"]
theorem sc_Finishedinit : FnScope n_Finishedinit ["self", "train"] (defScope s_Finishedinit) := ⟨rfl, rfl, rfl, by decide +kernel, rfl, by decide +kernel, by decide +kernel⟩
abbrev n_Barredinit : List Str := ["self", "train", "step"]
theorem sc_Barredinit : FnScope n_Barredinit ["self", "train", "step"] (defScope s_Barredinit) := ⟨rfl, rfl, rfl, by decide +kernel, rfl, by decide +kernel, by decide +kernel⟩
abbrev n_NoDayinit : List Str := ["self"]
theorem sc_NoDayinit : FnScope n_NoDayinit ["self"] (defScope s_NoDayinit) := ⟨rfl, rfl, rfl, by decide +kernel, rfl, by decide +kernel, by decide +kernel⟩
abbrev n_Doomedinit : List Str := ["self"]
theorem sc_Doomedinit : FnScope n_Doomedinit ["self"] (defScope s_Doomedinit) := ⟨rfl, rfl, rfl, by decide +kernel, rfl, by decide +kernel, by decide +kernel⟩
abbrev n_NeverClearedinit : List Str := ["self", "train", "step", "element"]
theorem sc_NeverClearedinit : FnScope n_NeverClearedinit ["self", "train", "step", "element"] (defScope s_NeverClearedinit) := ⟨rfl, rfl, rfl, by decide +kernel, rfl, by decide +kernel, by decide +kernel⟩
abbrev n_NoPeriodinit : List Str := ["self"]
theorem sc_NoPeriodinit : FnScope n_NoPeriodinit ["self"] (defScope s_NoPeriodinit) := ⟨rfl, rfl, rfl, by decide +kernel, rfl, by decide +kernel, by decide +kernel⟩
abbrev n_TooShortinit : List Str := ["self", "period"]
theorem sc_TooShortinit : FnScope n_TooShortinit ["self", "period"] (defScope s_TooShortinit) := ⟨rfl, rfl, rfl, by decide +kernel, rfl, by decide +kernel, by decide +kernel⟩
abbrev n_UnknownNameinit : List Str := ["self", "name"]
theorem sc_UnknownNameinit : FnScope n_UnknownNameinit ["self", "name"] (defScope s_UnknownNameinit) := ⟨rfl, rfl, rfl, by decide +kernel, rfl, by decide +kernel, by decide +kernel⟩
abbrev n_UnknownEndinit : List Str := ["self", "end"]
theorem sc_UnknownEndinit : FnScope n_UnknownEndinit ["self", "end"] (defScope s_UnknownEndinit) := ⟨rfl, rfl, rfl, by decide +kernel, rfl, by decide +kernel, by decide +kernel⟩
abbrev n_UnknownEntryinit : List Str := ["self", "entry"]
theorem sc_UnknownEntryinit : FnScope n_UnknownEntryinit ["self", "entry"] (defScope s_UnknownEntryinit) := ⟨rfl, rfl, rfl, by decide +kernel, rfl, by decide +kernel, by decide +kernel⟩
abbrev n_NothingLeftinit : List Str := ["self"]
theorem sc_NothingLeftinit : FnScope n_NothingLeftinit ["self"] (defScope s_NothingLeftinit) := ⟨rfl, rfl, rfl, by decide +kernel, rfl, by decide +kernel, by decide +kernel⟩
structure Tx (K : PySem.W.Frag) (mg : Str → Option Value) where
  f__law_bag : Addr
  fd__law_bag : FuncData
  F__law_bag : Fun K "_law_bag" "_law_bag" s_Lbag f__law_bag fd__law_bag
  m__law_bag : mg "_law_bag" = some (.ref f__law_bag)
  f__law_draw : Addr
  fd__law_draw : FuncData
  F__law_draw : Fun K "_law_draw" "_law_draw" s_Ldraw f__law_draw fd__law_draw
  m__law_draw : mg "_law_draw" = some (.ref f__law_draw)
  f__law_of : Addr
  fd__law_of : FuncData
  F__law_of : Fun K "_law_of" "_law_of" s_Lof f__law_of fd__law_of
  m__law_of : mg "_law_of" = some (.ref f__law_of)
  f__law_same : Addr
  fd__law_same : FuncData
  F__law_same : Fun K "_law_same" "_law_same" s_Lsame f__law_same fd__law_same
  m__law_same : mg "_law_same" = some (.ref f__law_same)
  f__law_fields : Addr
  fd__law_fields : FuncData
  F__law_fields : Fun K "_law_fields" "_law_fields" s_Lfields f__law_fields fd__law_fields
  m__law_fields : mg "_law_fields" = some (.ref f__law_fields)
  f__law_by_name : Addr
  fd__law_by_name : FuncData
  F__law_by_name : Fun K "_law_by_name" "_law_by_name" s_Lbyname f__law_by_name fd__law_by_name
  m__law_by_name : mg "_law_by_name" = some (.ref f__law_by_name)
  f__law_by_place : Addr
  fd__law_by_place : FuncData
  F__law_by_place : Fun K "_law_by_place" "_law_by_place" s_Lbyplace f__law_by_place fd__law_by_place
  m__law_by_place : mg "_law_by_place" = some (.ref f__law_by_place)
  f__law_codes : Addr
  fd__law_codes : FuncData
  F__law_codes : Fun K "_law_codes" "_law_codes" s_Lcodes f__law_codes fd__law_codes
  m__law_codes : mg "_law_codes" = some (.ref f__law_codes)
  f__law_classes : Addr
  fd__law_classes : FuncData
  F__law_classes : Fun K "_law_classes" "_law_classes" s_Lclasses f__law_classes fd__law_classes
  m__law_classes : mg "_law_classes" = some (.ref f__law_classes)
  f__law_caught : Addr
  fd__law_caught : FuncData
  F__law_caught : Fun K "_law_caught" "_law_caught" s_Lcaught f__law_caught fd__law_caught
  m__law_caught : mg "_law_caught" = some (.ref f__law_caught)
  f_law : Addr
  fd_law : FuncData
  F_law : Fun K "law" "law" s_law f_law fd_law
  m_law : mg "law" = some (.ref f_law)
  b_isinstance : mg "isinstance" = none
  b_len : mg "len" = none
  b_all : mg "all" = none
  b_abs : mg "abs" = none
  b_int : mg "int" = none
  b_str : mg "str" = none
  b_list : mg "list" = none
  b_tuple : mg "tuple" = none
  b_bool : mg "bool" = none
  b_range : mg "range" = none
  b_zip : mg "zip" = none
  b_ValueError : mg "ValueError" = none
  b_LookupError : mg "LookupError" = none
  b_IndexError : mg "IndexError" = none
  c_DayError : Addr
  m_DayError : mg "DayError" = some (.ref c_DayError)
  c_Missing : Addr
  m_Missing : mg "Missing" = some (.ref c_Missing)
  c_InvalidName : Addr
  m_InvalidName : mg "InvalidName" = some (.ref c_InvalidName)
  c_InvalidNumber : Addr
  m_InvalidNumber : mg "InvalidNumber" = some (.ref c_InvalidNumber)
  c_InvalidSection : Addr
  m_InvalidSection : mg "InvalidSection" = some (.ref c_InvalidSection)
  c_InvalidTimes : Addr
  m_InvalidTimes : mg "InvalidTimes" = some (.ref c_InvalidTimes)
  c_InvalidStep : Addr
  m_InvalidStep : mg "InvalidStep" = some (.ref c_InvalidStep)
  c_InvalidStanding : Addr
  m_InvalidStanding : mg "InvalidStanding" = some (.ref c_InvalidStanding)
  c_InvalidRow : Addr
  m_InvalidRow : mg "InvalidRow" = some (.ref c_InvalidRow)
  c_InvalidTable : Addr
  m_InvalidTable : mg "InvalidTable" = some (.ref c_InvalidTable)
  c_InvalidDelays : Addr
  m_InvalidDelays : mg "InvalidDelays" = some (.ref c_InvalidDelays)
  c_InvalidPeriod : Addr
  m_InvalidPeriod : mg "InvalidPeriod" = some (.ref c_InvalidPeriod)
  c_InvalidHeights : Addr
  m_InvalidHeights : mg "InvalidHeights" = some (.ref c_InvalidHeights)
  c_InvalidDeed : Addr
  m_InvalidDeed : mg "InvalidDeed" = some (.ref c_InvalidDeed)
  c_InvalidTurn : Addr
  m_InvalidTurn : mg "InvalidTurn" = some (.ref c_InvalidTurn)
  c_InvalidWait : Addr
  m_InvalidWait : mg "InvalidWait" = some (.ref c_InvalidWait)
  c_InvalidWish : Addr
  m_InvalidWish : mg "InvalidWish" = some (.ref c_InvalidWish)
  c_InvalidJourney : Addr
  m_InvalidJourney : mg "InvalidJourney" = some (.ref c_InvalidJourney)
  c_InvalidText : Addr
  m_InvalidText : mg "InvalidText" = some (.ref c_InvalidText)
  c_DuplicateName : Addr
  m_DuplicateName : mg "DuplicateName" = some (.ref c_DuplicateName)
  c_InUse : Addr
  m_InUse : mg "InUse" = some (.ref c_InUse)
  c_TakenEnd : Addr
  m_TakenEnd : mg "TakenEnd" = some (.ref c_TakenEnd)
  c_LooseEnd : Addr
  m_LooseEnd : mg "LooseEnd" = some (.ref c_LooseEnd)
  c_TooMany : Addr
  m_TooMany : mg "TooMany" = some (.ref c_TooMany)
  c_MisplacedStep : Addr
  m_MisplacedStep : mg "MisplacedStep" = some (.ref c_MisplacedStep)
  c_OwnRing : Addr
  m_OwnRing : mg "OwnRing" = some (.ref c_OwnRing)
  c_Refused : Addr
  m_Refused : mg "Refused" = some (.ref c_Refused)
  c_Lacking : Addr
  m_Lacking : mg "Lacking" = some (.ref c_Lacking)
  c_Unready : Addr
  m_Unready : mg "Unready" = some (.ref c_Unready)
  c_Finished : Addr
  m_Finished : mg "Finished" = some (.ref c_Finished)
  c_Barred : Addr
  m_Barred : mg "Barred" = some (.ref c_Barred)
  c_NoDay : Addr
  m_NoDay : mg "NoDay" = some (.ref c_NoDay)
  c_Doomed : Addr
  m_Doomed : mg "Doomed" = some (.ref c_Doomed)
  c_NeverCleared : Addr
  m_NeverCleared : mg "NeverCleared" = some (.ref c_NeverCleared)
  c_NoPeriod : Addr
  m_NoPeriod : mg "NoPeriod" = some (.ref c_NoPeriod)
  c_TooShort : Addr
  m_TooShort : mg "TooShort" = some (.ref c_TooShort)
  c_UnknownName : Addr
  m_UnknownName : mg "UnknownName" = some (.ref c_UnknownName)
  c_UnknownEnd : Addr
  m_UnknownEnd : mg "UnknownEnd" = some (.ref c_UnknownEnd)
  c_UnknownEntry : Addr
  m_UnknownEntry : mg "UnknownEntry" = some (.ref c_UnknownEntry)
  c_NothingLeft : Addr
  m_NothingLeft : mg "NothingLeft" = some (.ref c_NothingLeft)
  x_InvalidName : Xg K c_InvalidName
  fi_InvalidName : Addr
  fdi_InvalidName : FuncData
  Fi_InvalidName : Fun K "__init__" "InvalidName.__init__" s_InvalidNameinit fi_InvalidName fdi_InvalidName
  i_InvalidName : PySem.W.findIn K (.ref c_InvalidName) "__init__" = some (some (.ref fi_InvalidName))
  t_InvalidName : PySem.W.typeIn K (.ref fi_InvalidName) = some (.type "function")
  no_InvalidName : ∀ f ∈ (["code", "value"] : List Str), PySem.W.findIn K (.ref c_InvalidName) f = some none
  x_InvalidNumber : Xg K c_InvalidNumber
  fi_InvalidNumber : Addr
  fdi_InvalidNumber : FuncData
  Fi_InvalidNumber : Fun K "__init__" "InvalidNumber.__init__" s_InvalidNumberinit fi_InvalidNumber fdi_InvalidNumber
  i_InvalidNumber : PySem.W.findIn K (.ref c_InvalidNumber) "__init__" = some (some (.ref fi_InvalidNumber))
  t_InvalidNumber : PySem.W.typeIn K (.ref fi_InvalidNumber) = some (.type "function")
  no_InvalidNumber : ∀ f ∈ (["code", "value"] : List Str), PySem.W.findIn K (.ref c_InvalidNumber) f = some none
  x_InvalidSection : Xg K c_InvalidSection
  fi_InvalidSection : Addr
  fdi_InvalidSection : FuncData
  Fi_InvalidSection : Fun K "__init__" "InvalidSection.__init__" s_InvalidSectioninit fi_InvalidSection fdi_InvalidSection
  i_InvalidSection : PySem.W.findIn K (.ref c_InvalidSection) "__init__" = some (some (.ref fi_InvalidSection))
  t_InvalidSection : PySem.W.typeIn K (.ref fi_InvalidSection) = some (.type "function")
  no_InvalidSection : ∀ f ∈ (["code", "value"] : List Str), PySem.W.findIn K (.ref c_InvalidSection) f = some none
  x_InvalidTimes : Xg K c_InvalidTimes
  fi_InvalidTimes : Addr
  fdi_InvalidTimes : FuncData
  Fi_InvalidTimes : Fun K "__init__" "InvalidTimes.__init__" s_InvalidTimesinit fi_InvalidTimes fdi_InvalidTimes
  i_InvalidTimes : PySem.W.findIn K (.ref c_InvalidTimes) "__init__" = some (some (.ref fi_InvalidTimes))
  t_InvalidTimes : PySem.W.typeIn K (.ref fi_InvalidTimes) = some (.type "function")
  no_InvalidTimes : ∀ f ∈ (["code", "value"] : List Str), PySem.W.findIn K (.ref c_InvalidTimes) f = some none
  x_InvalidStep : Xg K c_InvalidStep
  fi_InvalidStep : Addr
  fdi_InvalidStep : FuncData
  Fi_InvalidStep : Fun K "__init__" "InvalidStep.__init__" s_InvalidStepinit fi_InvalidStep fdi_InvalidStep
  i_InvalidStep : PySem.W.findIn K (.ref c_InvalidStep) "__init__" = some (some (.ref fi_InvalidStep))
  t_InvalidStep : PySem.W.typeIn K (.ref fi_InvalidStep) = some (.type "function")
  no_InvalidStep : ∀ f ∈ (["code", "value"] : List Str), PySem.W.findIn K (.ref c_InvalidStep) f = some none
  x_InvalidStanding : Xg K c_InvalidStanding
  fi_InvalidStanding : Addr
  fdi_InvalidStanding : FuncData
  Fi_InvalidStanding : Fun K "__init__" "InvalidStanding.__init__" s_InvalidStandinginit fi_InvalidStanding fdi_InvalidStanding
  i_InvalidStanding : PySem.W.findIn K (.ref c_InvalidStanding) "__init__" = some (some (.ref fi_InvalidStanding))
  t_InvalidStanding : PySem.W.typeIn K (.ref fi_InvalidStanding) = some (.type "function")
  no_InvalidStanding : ∀ f ∈ (["code", "value"] : List Str), PySem.W.findIn K (.ref c_InvalidStanding) f = some none
  x_InvalidRow : Xg K c_InvalidRow
  fi_InvalidRow : Addr
  fdi_InvalidRow : FuncData
  Fi_InvalidRow : Fun K "__init__" "InvalidRow.__init__" s_InvalidRowinit fi_InvalidRow fdi_InvalidRow
  i_InvalidRow : PySem.W.findIn K (.ref c_InvalidRow) "__init__" = some (some (.ref fi_InvalidRow))
  t_InvalidRow : PySem.W.typeIn K (.ref fi_InvalidRow) = some (.type "function")
  no_InvalidRow : ∀ f ∈ (["code", "value"] : List Str), PySem.W.findIn K (.ref c_InvalidRow) f = some none
  x_InvalidTable : Xg K c_InvalidTable
  fi_InvalidTable : Addr
  fdi_InvalidTable : FuncData
  Fi_InvalidTable : Fun K "__init__" "InvalidTable.__init__" s_InvalidTableinit fi_InvalidTable fdi_InvalidTable
  i_InvalidTable : PySem.W.findIn K (.ref c_InvalidTable) "__init__" = some (some (.ref fi_InvalidTable))
  t_InvalidTable : PySem.W.typeIn K (.ref fi_InvalidTable) = some (.type "function")
  no_InvalidTable : ∀ f ∈ (["code", "value"] : List Str), PySem.W.findIn K (.ref c_InvalidTable) f = some none
  x_InvalidDelays : Xg K c_InvalidDelays
  fi_InvalidDelays : Addr
  fdi_InvalidDelays : FuncData
  Fi_InvalidDelays : Fun K "__init__" "InvalidDelays.__init__" s_InvalidDelaysinit fi_InvalidDelays fdi_InvalidDelays
  i_InvalidDelays : PySem.W.findIn K (.ref c_InvalidDelays) "__init__" = some (some (.ref fi_InvalidDelays))
  t_InvalidDelays : PySem.W.typeIn K (.ref fi_InvalidDelays) = some (.type "function")
  no_InvalidDelays : ∀ f ∈ (["code", "value"] : List Str), PySem.W.findIn K (.ref c_InvalidDelays) f = some none
  x_InvalidPeriod : Xg K c_InvalidPeriod
  fi_InvalidPeriod : Addr
  fdi_InvalidPeriod : FuncData
  Fi_InvalidPeriod : Fun K "__init__" "InvalidPeriod.__init__" s_InvalidPeriodinit fi_InvalidPeriod fdi_InvalidPeriod
  i_InvalidPeriod : PySem.W.findIn K (.ref c_InvalidPeriod) "__init__" = some (some (.ref fi_InvalidPeriod))
  t_InvalidPeriod : PySem.W.typeIn K (.ref fi_InvalidPeriod) = some (.type "function")
  no_InvalidPeriod : ∀ f ∈ (["code", "value"] : List Str), PySem.W.findIn K (.ref c_InvalidPeriod) f = some none
  x_InvalidHeights : Xg K c_InvalidHeights
  fi_InvalidHeights : Addr
  fdi_InvalidHeights : FuncData
  Fi_InvalidHeights : Fun K "__init__" "InvalidHeights.__init__" s_InvalidHeightsinit fi_InvalidHeights fdi_InvalidHeights
  i_InvalidHeights : PySem.W.findIn K (.ref c_InvalidHeights) "__init__" = some (some (.ref fi_InvalidHeights))
  t_InvalidHeights : PySem.W.typeIn K (.ref fi_InvalidHeights) = some (.type "function")
  no_InvalidHeights : ∀ f ∈ (["code", "value"] : List Str), PySem.W.findIn K (.ref c_InvalidHeights) f = some none
  x_InvalidDeed : Xg K c_InvalidDeed
  fi_InvalidDeed : Addr
  fdi_InvalidDeed : FuncData
  Fi_InvalidDeed : Fun K "__init__" "InvalidDeed.__init__" s_InvalidDeedinit fi_InvalidDeed fdi_InvalidDeed
  i_InvalidDeed : PySem.W.findIn K (.ref c_InvalidDeed) "__init__" = some (some (.ref fi_InvalidDeed))
  t_InvalidDeed : PySem.W.typeIn K (.ref fi_InvalidDeed) = some (.type "function")
  no_InvalidDeed : ∀ f ∈ (["code", "value"] : List Str), PySem.W.findIn K (.ref c_InvalidDeed) f = some none
  x_InvalidTurn : Xg K c_InvalidTurn
  fi_InvalidTurn : Addr
  fdi_InvalidTurn : FuncData
  Fi_InvalidTurn : Fun K "__init__" "InvalidTurn.__init__" s_InvalidTurninit fi_InvalidTurn fdi_InvalidTurn
  i_InvalidTurn : PySem.W.findIn K (.ref c_InvalidTurn) "__init__" = some (some (.ref fi_InvalidTurn))
  t_InvalidTurn : PySem.W.typeIn K (.ref fi_InvalidTurn) = some (.type "function")
  no_InvalidTurn : ∀ f ∈ (["code", "at"] : List Str), PySem.W.findIn K (.ref c_InvalidTurn) f = some none
  x_InvalidWait : Xg K c_InvalidWait
  fi_InvalidWait : Addr
  fdi_InvalidWait : FuncData
  Fi_InvalidWait : Fun K "__init__" "InvalidWait.__init__" s_InvalidWaitinit fi_InvalidWait fdi_InvalidWait
  i_InvalidWait : PySem.W.findIn K (.ref c_InvalidWait) "__init__" = some (some (.ref fi_InvalidWait))
  t_InvalidWait : PySem.W.typeIn K (.ref fi_InvalidWait) = some (.type "function")
  no_InvalidWait : ∀ f ∈ (["code", "at"] : List Str), PySem.W.findIn K (.ref c_InvalidWait) f = some none
  x_InvalidWish : Xg K c_InvalidWish
  fi_InvalidWish : Addr
  fdi_InvalidWish : FuncData
  Fi_InvalidWish : Fun K "__init__" "InvalidWish.__init__" s_InvalidWishinit fi_InvalidWish fdi_InvalidWish
  i_InvalidWish : PySem.W.findIn K (.ref c_InvalidWish) "__init__" = some (some (.ref fi_InvalidWish))
  t_InvalidWish : PySem.W.typeIn K (.ref fi_InvalidWish) = some (.type "function")
  no_InvalidWish : ∀ f ∈ (["code", "at"] : List Str), PySem.W.findIn K (.ref c_InvalidWish) f = some none
  x_InvalidJourney : Xg K c_InvalidJourney
  fi_InvalidJourney : Addr
  fdi_InvalidJourney : FuncData
  Fi_InvalidJourney : Fun K "__init__" "InvalidJourney.__init__" s_InvalidJourneyinit fi_InvalidJourney fdi_InvalidJourney
  i_InvalidJourney : PySem.W.findIn K (.ref c_InvalidJourney) "__init__" = some (some (.ref fi_InvalidJourney))
  t_InvalidJourney : PySem.W.typeIn K (.ref fi_InvalidJourney) = some (.type "function")
  no_InvalidJourney : ∀ f ∈ (["code", "at"] : List Str), PySem.W.findIn K (.ref c_InvalidJourney) f = some none
  x_InvalidText : Xg K c_InvalidText
  fi_InvalidText : Addr
  fdi_InvalidText : FuncData
  Fi_InvalidText : Fun K "__init__" "InvalidText.__init__" s_InvalidTextinit fi_InvalidText fdi_InvalidText
  i_InvalidText : PySem.W.findIn K (.ref c_InvalidText) "__init__" = some (some (.ref fi_InvalidText))
  t_InvalidText : PySem.W.typeIn K (.ref fi_InvalidText) = some (.type "function")
  no_InvalidText : ∀ f ∈ (["code", "line"] : List Str), PySem.W.findIn K (.ref c_InvalidText) f = some none
  x_DuplicateName : Xg K c_DuplicateName
  fi_DuplicateName : Addr
  fdi_DuplicateName : FuncData
  Fi_DuplicateName : Fun K "__init__" "DuplicateName.__init__" s_DuplicateNameinit fi_DuplicateName fdi_DuplicateName
  i_DuplicateName : PySem.W.findIn K (.ref c_DuplicateName) "__init__" = some (some (.ref fi_DuplicateName))
  t_DuplicateName : PySem.W.typeIn K (.ref fi_DuplicateName) = some (.type "function")
  no_DuplicateName : ∀ f ∈ (["code", "name"] : List Str), PySem.W.findIn K (.ref c_DuplicateName) f = some none
  x_InUse : Xg K c_InUse
  fi_InUse : Addr
  fdi_InUse : FuncData
  Fi_InUse : Fun K "__init__" "InUse.__init__" s_InUseinit fi_InUse fdi_InUse
  i_InUse : PySem.W.findIn K (.ref c_InUse) "__init__" = some (some (.ref fi_InUse))
  t_InUse : PySem.W.typeIn K (.ref fi_InUse) = some (.type "function")
  no_InUse : ∀ f ∈ (["code", "name"] : List Str), PySem.W.findIn K (.ref c_InUse) f = some none
  x_TakenEnd : Xg K c_TakenEnd
  fi_TakenEnd : Addr
  fdi_TakenEnd : FuncData
  Fi_TakenEnd : Fun K "__init__" "TakenEnd.__init__" s_TakenEndinit fi_TakenEnd fdi_TakenEnd
  i_TakenEnd : PySem.W.findIn K (.ref c_TakenEnd) "__init__" = some (some (.ref fi_TakenEnd))
  t_TakenEnd : PySem.W.typeIn K (.ref fi_TakenEnd) = some (.type "function")
  no_TakenEnd : ∀ f ∈ (["code", "end"] : List Str), PySem.W.findIn K (.ref c_TakenEnd) f = some none
  x_LooseEnd : Xg K c_LooseEnd
  fi_LooseEnd : Addr
  fdi_LooseEnd : FuncData
  Fi_LooseEnd : Fun K "__init__" "LooseEnd.__init__" s_LooseEndinit fi_LooseEnd fdi_LooseEnd
  i_LooseEnd : PySem.W.findIn K (.ref c_LooseEnd) "__init__" = some (some (.ref fi_LooseEnd))
  t_LooseEnd : PySem.W.typeIn K (.ref fi_LooseEnd) = some (.type "function")
  no_LooseEnd : ∀ f ∈ (["code", "end"] : List Str), PySem.W.findIn K (.ref c_LooseEnd) f = some none
  x_TooMany : Xg K c_TooMany
  fi_TooMany : Addr
  fdi_TooMany : FuncData
  Fi_TooMany : Fun K "__init__" "TooMany.__init__" s_TooManyinit fi_TooMany fdi_TooMany
  i_TooMany : PySem.W.findIn K (.ref c_TooMany) "__init__" = some (some (.ref fi_TooMany))
  t_TooMany : PySem.W.typeIn K (.ref fi_TooMany) = some (.type "function")
  no_TooMany : ∀ f ∈ (["code", "subject", "most"] : List Str), PySem.W.findIn K (.ref c_TooMany) f = some none
  x_MisplacedStep : Xg K c_MisplacedStep
  fi_MisplacedStep : Addr
  fdi_MisplacedStep : FuncData
  Fi_MisplacedStep : Fun K "__init__" "MisplacedStep.__init__" s_MisplacedStepinit fi_MisplacedStep fdi_MisplacedStep
  i_MisplacedStep : PySem.W.findIn K (.ref c_MisplacedStep) "__init__" = some (some (.ref fi_MisplacedStep))
  t_MisplacedStep : PySem.W.typeIn K (.ref fi_MisplacedStep) = some (.type "function")
  no_MisplacedStep : ∀ f ∈ (["code", "train", "step"] : List Str), PySem.W.findIn K (.ref c_MisplacedStep) f = some none
  x_OwnRing : Xg K c_OwnRing
  fi_OwnRing : Addr
  fdi_OwnRing : FuncData
  Fi_OwnRing : Fun K "__init__" "OwnRing.__init__" s_OwnRinginit fi_OwnRing fdi_OwnRing
  i_OwnRing : PySem.W.findIn K (.ref c_OwnRing) "__init__" = some (some (.ref fi_OwnRing))
  t_OwnRing : PySem.W.typeIn K (.ref fi_OwnRing) = some (.type "function")
  no_OwnRing : ∀ f ∈ (["code", "train", "step", "element"] : List Str), PySem.W.findIn K (.ref c_OwnRing) f = some none
  x_Refused : Xg K c_Refused
  fi_Refused : Addr
  fdi_Refused : FuncData
  Fi_Refused : Fun K "__init__" "Refused.__init__" s_Refusedinit fi_Refused fdi_Refused
  i_Refused : PySem.W.findIn K (.ref c_Refused) "__init__" = some (some (.ref fi_Refused))
  t_Refused : PySem.W.typeIn K (.ref fi_Refused) = some (.type "function")
  no_Refused : ∀ f ∈ (["code", "train", "element", "holder"] : List Str), PySem.W.findIn K (.ref c_Refused) f = some none
  x_Lacking : Xg K c_Lacking
  fi_Lacking : Addr
  fdi_Lacking : FuncData
  Fi_Lacking : Fun K "__init__" "Lacking.__init__" s_Lackinginit fi_Lacking fdi_Lacking
  i_Lacking : PySem.W.findIn K (.ref c_Lacking) "__init__" = some (some (.ref fi_Lacking))
  t_Lacking : PySem.W.typeIn K (.ref fi_Lacking) = some (.type "function")
  no_Lacking : ∀ f ∈ (["code", "train", "other"] : List Str), PySem.W.findIn K (.ref c_Lacking) f = some none
  x_Unready : Xg K c_Unready
  fi_Unready : Addr
  fdi_Unready : FuncData
  Fi_Unready : Fun K "__init__" "Unready.__init__" s_Unreadyinit fi_Unready fdi_Unready
  i_Unready : PySem.W.findIn K (.ref c_Unready) "__init__" = some (some (.ref fi_Unready))
  t_Unready : PySem.W.typeIn K (.ref fi_Unready) = some (.type "function")
  no_Unready : ∀ f ∈ (["code", "train"] : List Str), PySem.W.findIn K (.ref c_Unready) f = some none
  x_Finished : Xg K c_Finished
  fi_Finished : Addr
  fdi_Finished : FuncData
  Fi_Finished : Fun K "__init__" "Finished.__init__" s_Finishedinit fi_Finished fdi_Finished
  i_Finished : PySem.W.findIn K (.ref c_Finished) "__init__" = some (some (.ref fi_Finished))
  t_Finished : PySem.W.typeIn K (.ref fi_Finished) = some (.type "function")
  no_Finished : ∀ f ∈ (["code", "train"] : List Str), PySem.W.findIn K (.ref c_Finished) f = some none
  x_Barred : Xg K c_Barred
  fi_Barred : Addr
  fdi_Barred : FuncData
  Fi_Barred : Fun K "__init__" "Barred.__init__" s_Barredinit fi_Barred fdi_Barred
  i_Barred : PySem.W.findIn K (.ref c_Barred) "__init__" = some (some (.ref fi_Barred))
  t_Barred : PySem.W.typeIn K (.ref fi_Barred) = some (.type "function")
  no_Barred : ∀ f ∈ (["code", "train", "step"] : List Str), PySem.W.findIn K (.ref c_Barred) f = some none
  x_NoDay : Xg K c_NoDay
  fi_NoDay : Addr
  fdi_NoDay : FuncData
  Fi_NoDay : Fun K "__init__" "NoDay.__init__" s_NoDayinit fi_NoDay fdi_NoDay
  i_NoDay : PySem.W.findIn K (.ref c_NoDay) "__init__" = some (some (.ref fi_NoDay))
  t_NoDay : PySem.W.typeIn K (.ref fi_NoDay) = some (.type "function")
  no_NoDay : ∀ f ∈ (["code"] : List Str), PySem.W.findIn K (.ref c_NoDay) f = some none
  x_Doomed : Xg K c_Doomed
  fi_Doomed : Addr
  fdi_Doomed : FuncData
  Fi_Doomed : Fun K "__init__" "Doomed.__init__" s_Doomedinit fi_Doomed fdi_Doomed
  i_Doomed : PySem.W.findIn K (.ref c_Doomed) "__init__" = some (some (.ref fi_Doomed))
  t_Doomed : PySem.W.typeIn K (.ref fi_Doomed) = some (.type "function")
  no_Doomed : ∀ f ∈ (["code"] : List Str), PySem.W.findIn K (.ref c_Doomed) f = some none
  x_NeverCleared : Xg K c_NeverCleared
  fi_NeverCleared : Addr
  fdi_NeverCleared : FuncData
  Fi_NeverCleared : Fun K "__init__" "NeverCleared.__init__" s_NeverClearedinit fi_NeverCleared fdi_NeverCleared
  i_NeverCleared : PySem.W.findIn K (.ref c_NeverCleared) "__init__" = some (some (.ref fi_NeverCleared))
  t_NeverCleared : PySem.W.typeIn K (.ref fi_NeverCleared) = some (.type "function")
  no_NeverCleared : ∀ f ∈ (["code", "train", "step", "element"] : List Str), PySem.W.findIn K (.ref c_NeverCleared) f = some none
  x_NoPeriod : Xg K c_NoPeriod
  fi_NoPeriod : Addr
  fdi_NoPeriod : FuncData
  Fi_NoPeriod : Fun K "__init__" "NoPeriod.__init__" s_NoPeriodinit fi_NoPeriod fdi_NoPeriod
  i_NoPeriod : PySem.W.findIn K (.ref c_NoPeriod) "__init__" = some (some (.ref fi_NoPeriod))
  t_NoPeriod : PySem.W.typeIn K (.ref fi_NoPeriod) = some (.type "function")
  no_NoPeriod : ∀ f ∈ (["code"] : List Str), PySem.W.findIn K (.ref c_NoPeriod) f = some none
  x_TooShort : Xg K c_TooShort
  fi_TooShort : Addr
  fdi_TooShort : FuncData
  Fi_TooShort : Fun K "__init__" "TooShort.__init__" s_TooShortinit fi_TooShort fdi_TooShort
  i_TooShort : PySem.W.findIn K (.ref c_TooShort) "__init__" = some (some (.ref fi_TooShort))
  t_TooShort : PySem.W.typeIn K (.ref fi_TooShort) = some (.type "function")
  no_TooShort : ∀ f ∈ (["code", "period"] : List Str), PySem.W.findIn K (.ref c_TooShort) f = some none
  x_UnknownName : Xg K c_UnknownName
  fi_UnknownName : Addr
  fdi_UnknownName : FuncData
  Fi_UnknownName : Fun K "__init__" "UnknownName.__init__" s_UnknownNameinit fi_UnknownName fdi_UnknownName
  i_UnknownName : PySem.W.findIn K (.ref c_UnknownName) "__init__" = some (some (.ref fi_UnknownName))
  t_UnknownName : PySem.W.typeIn K (.ref fi_UnknownName) = some (.type "function")
  no_UnknownName : ∀ f ∈ (["code", "name"] : List Str), PySem.W.findIn K (.ref c_UnknownName) f = some none
  x_UnknownEnd : Xg K c_UnknownEnd
  fi_UnknownEnd : Addr
  fdi_UnknownEnd : FuncData
  Fi_UnknownEnd : Fun K "__init__" "UnknownEnd.__init__" s_UnknownEndinit fi_UnknownEnd fdi_UnknownEnd
  i_UnknownEnd : PySem.W.findIn K (.ref c_UnknownEnd) "__init__" = some (some (.ref fi_UnknownEnd))
  t_UnknownEnd : PySem.W.typeIn K (.ref fi_UnknownEnd) = some (.type "function")
  no_UnknownEnd : ∀ f ∈ (["code", "end"] : List Str), PySem.W.findIn K (.ref c_UnknownEnd) f = some none
  x_UnknownEntry : Xg K c_UnknownEntry
  fi_UnknownEntry : Addr
  fdi_UnknownEntry : FuncData
  Fi_UnknownEntry : Fun K "__init__" "UnknownEntry.__init__" s_UnknownEntryinit fi_UnknownEntry fdi_UnknownEntry
  i_UnknownEntry : PySem.W.findIn K (.ref c_UnknownEntry) "__init__" = some (some (.ref fi_UnknownEntry))
  t_UnknownEntry : PySem.W.typeIn K (.ref fi_UnknownEntry) = some (.type "function")
  no_UnknownEntry : ∀ f ∈ (["code", "entry"] : List Str), PySem.W.findIn K (.ref c_UnknownEntry) f = some none
  x_NothingLeft : Xg K c_NothingLeft
  fi_NothingLeft : Addr
  fdi_NothingLeft : FuncData
  Fi_NothingLeft : Fun K "__init__" "NothingLeft.__init__" s_NothingLeftinit fi_NothingLeft fdi_NothingLeft
  i_NothingLeft : PySem.W.findIn K (.ref c_NothingLeft) "__init__" = some (some (.ref fi_NothingLeft))
  t_NothingLeft : PySem.W.typeIn K (.ref fi_NothingLeft) = some (.type "function")
  no_NothingLeft : ∀ f ∈ (["code"] : List Str), PySem.W.findIn K (.ref c_NothingLeft) f = some none
  kit : ∀ i < 38, ∀ j < 38, PySem.W.kitOne K (.ref ([c_InvalidName, c_InvalidNumber, c_InvalidSection, c_InvalidTimes, c_InvalidStep, c_InvalidStanding, c_InvalidRow, c_InvalidTable, c_InvalidDelays, c_InvalidPeriod, c_InvalidHeights, c_InvalidDeed, c_InvalidTurn, c_InvalidWait, c_InvalidWish, c_InvalidJourney, c_InvalidText, c_DuplicateName, c_InUse, c_TakenEnd, c_LooseEnd, c_TooMany, c_MisplacedStep, c_OwnRing, c_Refused, c_Lacking, c_Unready, c_Finished, c_Barred, c_NoDay, c_Doomed, c_NeverCleared, c_NoPeriod, c_TooShort, c_UnknownName, c_UnknownEnd, c_UnknownEntry, c_NothingLeft].getD i 0)) (.ref ([c_InvalidName, c_InvalidNumber, c_InvalidSection, c_InvalidTimes, c_InvalidStep, c_InvalidStanding, c_InvalidRow, c_InvalidTable, c_InvalidDelays, c_InvalidPeriod, c_InvalidHeights, c_InvalidDeed, c_InvalidTurn, c_InvalidWait, c_InvalidWish, c_InvalidJourney, c_InvalidText, c_DuplicateName, c_InUse, c_TakenEnd, c_LooseEnd, c_TooMany, c_MisplacedStep, c_OwnRing, c_Refused, c_Lacking, c_Unready, c_Finished, c_Barred, c_NoDay, c_Doomed, c_NeverCleared, c_NoPeriod, c_TooShort, c_UnknownName, c_UnknownEnd, c_UnknownEntry, c_NothingLeft].getD j 0)) = some (decide (j = i))
  kDay : ∀ i < 38, PySem.W.kitOne K (.ref ([c_InvalidName, c_InvalidNumber, c_InvalidSection, c_InvalidTimes, c_InvalidStep, c_InvalidStanding, c_InvalidRow, c_InvalidTable, c_InvalidDelays, c_InvalidPeriod, c_InvalidHeights, c_InvalidDeed, c_InvalidTurn, c_InvalidWait, c_InvalidWish, c_InvalidJourney, c_InvalidText, c_DuplicateName, c_InUse, c_TakenEnd, c_LooseEnd, c_TooMany, c_MisplacedStep, c_OwnRing, c_Refused, c_Lacking, c_Unready, c_Finished, c_Barred, c_NoDay, c_Doomed, c_NeverCleared, c_NoPeriod, c_TooShort, c_UnknownName, c_UnknownEnd, c_UnknownEntry, c_NothingLeft].getD i 0)) (.ref c_DayError) = some (decide (i < 34))
  kMis : ∀ i < 38, PySem.W.kitOne K (.ref ([c_InvalidName, c_InvalidNumber, c_InvalidSection, c_InvalidTimes, c_InvalidStep, c_InvalidStanding, c_InvalidRow, c_InvalidTable, c_InvalidDelays, c_InvalidPeriod, c_InvalidHeights, c_InvalidDeed, c_InvalidTurn, c_InvalidWait, c_InvalidWish, c_InvalidJourney, c_InvalidText, c_DuplicateName, c_InUse, c_TakenEnd, c_LooseEnd, c_TooMany, c_MisplacedStep, c_OwnRing, c_Refused, c_Lacking, c_Unready, c_Finished, c_Barred, c_NoDay, c_Doomed, c_NeverCleared, c_NoPeriod, c_TooShort, c_UnknownName, c_UnknownEnd, c_UnknownEntry, c_NothingLeft].getD i 0)) (.ref c_Missing) = some (decide (34 ≤ i) && decide (i < 37))
  kVal : ∀ i < 38, PySem.W.kitOne K (.ref ([c_InvalidName, c_InvalidNumber, c_InvalidSection, c_InvalidTimes, c_InvalidStep, c_InvalidStanding, c_InvalidRow, c_InvalidTable, c_InvalidDelays, c_InvalidPeriod, c_InvalidHeights, c_InvalidDeed, c_InvalidTurn, c_InvalidWait, c_InvalidWish, c_InvalidJourney, c_InvalidText, c_DuplicateName, c_InUse, c_TakenEnd, c_LooseEnd, c_TooMany, c_MisplacedStep, c_OwnRing, c_Refused, c_Lacking, c_Unready, c_Finished, c_Barred, c_NoDay, c_Doomed, c_NeverCleared, c_NoPeriod, c_TooShort, c_UnknownName, c_UnknownEnd, c_UnknownEntry, c_NothingLeft].getD i 0)) (.type "ValueError") = some (decide (i < 34))
  kLoo : ∀ i < 38, PySem.W.kitOne K (.ref ([c_InvalidName, c_InvalidNumber, c_InvalidSection, c_InvalidTimes, c_InvalidStep, c_InvalidStanding, c_InvalidRow, c_InvalidTable, c_InvalidDelays, c_InvalidPeriod, c_InvalidHeights, c_InvalidDeed, c_InvalidTurn, c_InvalidWait, c_InvalidWish, c_InvalidJourney, c_InvalidText, c_DuplicateName, c_InUse, c_TakenEnd, c_LooseEnd, c_TooMany, c_MisplacedStep, c_OwnRing, c_Refused, c_Lacking, c_Unready, c_Finished, c_Barred, c_NoDay, c_Doomed, c_NeverCleared, c_NoPeriod, c_TooShort, c_UnknownName, c_UnknownEnd, c_UnknownEntry, c_NothingLeft].getD i 0)) (.type "LookupError") = some (decide (34 ≤ i))
  kInd : ∀ i < 38, PySem.W.kitOne K (.ref ([c_InvalidName, c_InvalidNumber, c_InvalidSection, c_InvalidTimes, c_InvalidStep, c_InvalidStanding, c_InvalidRow, c_InvalidTable, c_InvalidDelays, c_InvalidPeriod, c_InvalidHeights, c_InvalidDeed, c_InvalidTurn, c_InvalidWait, c_InvalidWish, c_InvalidJourney, c_InvalidText, c_DuplicateName, c_InUse, c_TakenEnd, c_LooseEnd, c_TooMany, c_MisplacedStep, c_OwnRing, c_Refused, c_Lacking, c_Unready, c_Finished, c_Barred, c_NoDay, c_Doomed, c_NeverCleared, c_NoPeriod, c_TooShort, c_UnknownName, c_UnknownEnd, c_UnknownEntry, c_NothingLeft].getD i 0)) (.type "IndexError") = some (decide (i = 37))
  eT : PySem.W.exmOne K (.ref c_InvalidText) (.ref c_DayError) = some true
  eE1 : PySem.W.exmOne K (.ref c_UnknownEntry) (.ref c_DayError) = some false
  eE2 : PySem.W.exmOne K (.ref c_UnknownEntry) (.ref c_Missing) = some true
  eN1 : PySem.W.exmOne K (.ref c_NothingLeft) (.ref c_DayError) = some false
  eN2 : PySem.W.exmOne K (.ref c_NothingLeft) (.ref c_Missing) = some false
  eN3 : PySem.W.exmOne K (.ref c_NothingLeft) (.ref c_NothingLeft) = some true
end K0
namespace Rg
open PySem L2 RZ PyProof.Rows
theorem q_xq {X : Cx} {K : PySem.W.Frag} {q : Addr × Obj} {e : Expr} {te : TE} {pos : Pos} {f : Str} (hq : q ∈ X.pn) (hf : ∃ vs, q.2.data = .fields vs) (he : PE X e te) (h : X.K = K := by rfl) (hb : attributeBase e f X.env (eval e X.env) = eval e X.env := by rfl) : PE X (.Attribute e f pos) (tXq K q f te) := h ▸ pe_xq hq hf he hb
theorem pe_cls {X : Cx} {x : Str} {c : Addr} {p : Pos} (hg : Gl X x) (hm : X.mg x = some (.ref c)) (hdb : (x == ("__debug__" : Str)) = false := by decide) : PE X (.Name x p) (tC (.ref c)) := pe_glob hg hm (show RelV (.ref c) (.ref c) from rfl) hdb
abbrev m0 : Mt := { l := [] }
/-! ### targets of any form; a promise for each of many readings -/
section
variable {K : PySem.W.Frag} {M : Mt} {ds : DS} {te : TE} {R : D → Prop} {E : AE}
theorem run_asgG {g : TG} (h : Ev K M ds te R) (hg : ∀ d, R d → EvG K M none g d ds E.nx) : Run K M ds (tAsg te g) E := fun M' σ G H Z m s w z =>
  h M' σ G H _ m s w fun v d G1 H1 s1 w1 r1 e => hg d e M' σ G1 H1 v _ m (s.mono s1) w1 r1 fun ds2 σ2 G2 H2 n2 s2 sg2 w2 _ => z.nx ds2 σ2 G2 H2 n2 (s1.trans s2) sg2 w2
def spAny {ι : Type} (sp : ι → Sp) : Sp := fun vs H Q E => ∃ i, sp i vs H Q E
theorem fn_any {P : Program} {w : World} {mg : Str → Option Value} {base : Heap} {CX : CXT} {k : Nat} {f : Addr} {fd : FuncData} {ps : List Str} {ι : Type} {sp : ι → Sp} (h : ∀ i, FnOk P w K mg base CX k f fd ps (sp i)) : FnOk P w K mg base CX k f fd ps (spAny sp) :=
  ⟨fun vs H Q E ⟨i, q⟩ => (h i).len vs H Q E q, fun A outer s H args us vs Q E hr he hb hv ⟨i, q⟩ => (h i).run A outer s H args us vs Q E hr he hb hv q⟩
theorem ev_callI {ι : Type} {pre : ι → Ml → List D → Prop} {post : ι → List D → D → Prop} (i : ι) {ta : TA} {RA : List D → Prop} {E : XK} (ha : EvA K M ds ta RA) (h : ∀ as, RA as → (∀ M', MSub M M' → pre i M'.l as) ∧ ∀ d, post i as d → R d) :
    Ev K M ds (tCall (spAny fun i => spF K (pre i) (post i)) [] E ta) R := fun M' σ G H Q m s w q =>
  ha M' σ G H _ m s w fun vs as G1 H1 s1 w1 r1 e => ⟨i, M'.l, G1, as, w1.toWd0, by rw [List.append_nil]; exact r1, (h as e).1 M' m, fun v d G2 H2 s2 w2 r2 p2 => q v d G2 H2 (s1.trans s2) (w1.to s2 w2) r2 ((h as e).2 d p2), fun _ _ _ _ _ _ _ _ z => z.elim⟩
theorem ev_callI1 {ι : Type} {pre : ι → Ml → List D → Prop} {post : ι → List D → D → Prop} (i : ι) {ta : TA} {as : List D} {d : D} {E : XK} (ha : EvA K M ds ta (· = as)) (hp : ∀ M', MSub M M' → pre i M'.l as) (hd : ∀ r, post i as r → r = d) :
    Ev K M ds (tCall (spAny fun i => spF K (pre i) (post i)) [] E ta) (· = d) := ev_callI i ha fun _ e => by rw [e]; exact ⟨hp, hd⟩
end
/-! ### the __init__ of an own error with 0 .. 3 parameters -/
section
variable {K : PySem.W.Frag} {H : Hp} {a C : Addr} {code f1 f2 f3 : Str} {Q : VK}
theorem upd_upd {H : Hp} {p : Addr} {x y : HO} : upd (upd H p x) p y = upd H p y := by
  funext b
  by_cases h : b = p
  · subst h; rw [upd_same, upd_same]
  · rw [upd_ne h, upd_ne h, upd_ne h]
theorem upd_comm {H : Hp} {p q : Addr} {x y : HO} (h : p ≠ q) : upd (upd H p x) q y = upd (upd H q y) p x := by
  funext b
  by_cases h1 : b = p
  · subst h1; rw [upd_ne h, upd_same, upd_same]
  · rw [upd_ne h1]
    by_cases h2 : b = q
    · subst h2; rw [upd_same, upd_same]
    · rw [upd_ne h2, upd_ne h2, upd_ne h1]
/-- one field more -/
theorem st_fld {Z : Ends} {σ : L2.St} {dx : Addr} {f : Str} {j : Nat} {y : V} {fs : List (Str × V)} (T : Xc K C) (hn : PySem.W.findIn K (.ref C) f = some none) (h0 : σ[0]? = some (some (.ref a))) (hj : σ[j]? = some (some y)) (hd : dx ≠ a) (hl : fs.length ≤ 900)
    (q : Z.nx σ (upd (upd H dx (exd dx ((f, y) :: fs))) a (exo a C (some dx)))) : tXst K f (tVar 0) (tVar j) Z σ (upd (upd H dx (exd dx fs)) a (exo a C (some dx))) :=
  ⟨y, hj, .ref a, h0, a, C, rfl, T, hn, .inr ⟨dx, fs, upd_same, by rw [upd_ne hd, upd_same], hl, by
    have e : upd (upd (upd H dx (exd dx fs)) a (exo a C (some dx))) dx (exd dx ((f, y) :: fs)) = upd (upd H dx (exd dx ((f, y) :: fs))) a (exo a C (some dx)) := by
      rw [upd_comm (Ne.symm hd), upd_upd]
    rw [e]; exact q⟩⟩
theorem st_code {Z : Ends} {σ : L2.St} (T : Xc K C) (hn : PySem.W.findIn K (.ref C) "code" = some none) (h0 : σ[0]? = some (some (.ref a))) (ha : H a = some (exo a C none))
    (q : ∀ dx, H dx = none → dx ≠ a → Z.nx σ (upd (upd H dx (exd dx [(("code" : Str), V.str code)])) a (exo a C (some dx)))) : tXst K "code" (tVar 0) (tC (.str code)) Z σ H :=
  ⟨.ref a, h0, a, C, rfl, T, hn, .inl ⟨ha, q⟩⟩
theorem init0 (T : Xc K C) (ha : H a = some (exo a C none)) (q : ∀ dx, H dx = none → dx ≠ a → Q .non (upd (upd H dx (exd dx [(("code" : Str), V.str code)])) a (exo a C (some dx)))) (n0 : PySem.W.findIn K (.ref C) "code" = some none) :
    tXst K "code" (tVar 0) (tC (.str code)) { nx := fun _ H' => Q .non H', rt := Q } [some (.ref a)] H := st_code T n0 rfl ha q
theorem init1 {w1 : V} (T : Xc K C) (ha : H a = some (exo a C none)) (q : ∀ dx, H dx = none → dx ≠ a → Q .non (upd (upd H dx (exd dx [(f1, w1), (("code" : Str), V.str code)])) a (exo a C (some dx)))) (n0 : PySem.W.findIn K (.ref C) "code" = some none) (n1 : PySem.W.findIn K (.ref C) f1 = some none) :
    tSeq (tXst K "code" (tVar 0) (tC (.str code))) (tXst K f1 (tVar 0) (tVar 1)) { nx := fun _ H' => Q .non H', rt := Q } [some (.ref a), some w1] H :=
  st_code T n0 rfl ha fun dx h1 h2 => st_fld T n1 rfl rfl h2 (by simp) (q dx h1 h2)
theorem init2 {w1 w2 : V} (T : Xc K C) (ha : H a = some (exo a C none)) (q : ∀ dx, H dx = none → dx ≠ a → Q .non (upd (upd H dx (exd dx [(f2, w2), (f1, w1), (("code" : Str), V.str code)])) a (exo a C (some dx)))) (n0 : PySem.W.findIn K (.ref C) "code" = some none) (n1 : PySem.W.findIn K (.ref C) f1 = some none) (n2 : PySem.W.findIn K (.ref C) f2 = some none) :
    tSeq (tXst K "code" (tVar 0) (tC (.str code))) (tSeq (tXst K f1 (tVar 0) (tVar 1)) (tXst K f2 (tVar 0) (tVar 2))) { nx := fun _ H' => Q .non H', rt := Q } [some (.ref a), some w1, some w2] H :=
  st_code T n0 rfl ha fun dx h1 h2 => st_fld T n1 rfl rfl h2 (by simp) (st_fld T n2 rfl rfl h2 (by simp) (q dx h1 h2))
theorem init3 {w1 w2 w3 : V} (T : Xc K C) (ha : H a = some (exo a C none)) (q : ∀ dx, H dx = none → dx ≠ a → Q .non (upd (upd H dx (exd dx [(f3, w3), (f2, w2), (f1, w1), (("code" : Str), V.str code)])) a (exo a C (some dx)))) (n0 : PySem.W.findIn K (.ref C) "code" = some none) (n1 : PySem.W.findIn K (.ref C) f1 = some none) (n2 : PySem.W.findIn K (.ref C) f2 = some none) (n3 : PySem.W.findIn K (.ref C) f3 = some none) :
    tSeq (tXst K "code" (tVar 0) (tC (.str code))) (tSeq (tXst K f1 (tVar 0) (tVar 1)) (tSeq (tXst K f2 (tVar 0) (tVar 2)) (tXst K f3 (tVar 0) (tVar 3)))) { nx := fun _ H' => Q .non H', rt := Q } [some (.ref a), some w1, some w2, some w3] H :=
  st_code T n0 rfl ha fun dx h1 h2 => st_fld T n1 rfl rfl h2 (by simp) (st_fld T n2 rfl rfl h2 (by simp) (st_fld T n3 rfl rfl h2 (by simp) (q dx h1 h2)))
end
end Rg
namespace K0
open PySem L2 Rg RZ PyProof.Rows
section
variable {P : Program} {w : World} {K : PySem.W.Frag} {mg : Str → Option Value} {base : Heap}
theorem G_init_InvalidName (T : Tx K mg) : FnOk P w K mg base CX0 1 T.fi_InvalidName T.fdi_InvalidName ["self", "value"] (spInit T.c_InvalidName ["value"] "InvalidName") := by
  refine T.Fi_InvalidName.ok sc_InvalidNameinit (fun vs H Q E h => ?_) (fun cdv A outer s H vs Q E hr h => ⟨_, (pss_cons (ps_xset (pv 0) pe_str) (pss_one (ps_xset (pv 0) (pv 1)))), ?_⟩)
  · obtain ⟨a, ws, rfl, hl, _⟩ := h
    rw [List.length_cons, hl]; rfl
  · obtain ⟨a, ws, rfl, hl, ha, q⟩ := h
    match ws, hl, q with
    | [w0], _, q =>
      exact init1 T.x_InvalidName.toXc ha (fun dx h1 h2 => q dx h1 h2) (T.no_InvalidName "code" (by decide)) (T.no_InvalidName "value" (by decide))
theorem B_init_InvalidName (T : Tx K mg) : Binds K T.fdi_InvalidName ["self", "value"] [] := T.Fi_InvalidName.binds fun _ _ _ _ _ _ us hl => match us, hl with | [_, _], _ => rfl
theorem KB_init_InvalidName (T : Tx K mg) (s : Shared) (v : Value) (ws : List Value) (h : ws.length = (["value"] : List Str).length) : BindsTo s T.fdi_InvalidName ⟨[v], (["value"] : List Str).zip ws⟩ ((["self", "value"] : List Str).zip (v :: ws.reverse)) := by
  obtain ⟨oc, od, kV, doc, pm, an, cdv, ct, osl, e, _⟩ := T.Fi_InvalidName.ex
  rw [e]
  match ws, h with
  | [w0], _ => exact .of_eq rfl
theorem G_init_InvalidNumber (T : Tx K mg) : FnOk P w K mg base CX0 1 T.fi_InvalidNumber T.fdi_InvalidNumber ["self", "value"] (spInit T.c_InvalidNumber ["value"] "InvalidNumber") := by
  refine T.Fi_InvalidNumber.ok sc_InvalidNumberinit (fun vs H Q E h => ?_) (fun cdv A outer s H vs Q E hr h => ⟨_, (pss_cons (ps_xset (pv 0) pe_str) (pss_one (ps_xset (pv 0) (pv 1)))), ?_⟩)
  · obtain ⟨a, ws, rfl, hl, _⟩ := h
    rw [List.length_cons, hl]; rfl
  · obtain ⟨a, ws, rfl, hl, ha, q⟩ := h
    match ws, hl, q with
    | [w0], _, q =>
      exact init1 T.x_InvalidNumber.toXc ha (fun dx h1 h2 => q dx h1 h2) (T.no_InvalidNumber "code" (by decide)) (T.no_InvalidNumber "value" (by decide))
theorem B_init_InvalidNumber (T : Tx K mg) : Binds K T.fdi_InvalidNumber ["self", "value"] [] := T.Fi_InvalidNumber.binds fun _ _ _ _ _ _ us hl => match us, hl with | [_, _], _ => rfl
theorem KB_init_InvalidNumber (T : Tx K mg) (s : Shared) (v : Value) (ws : List Value) (h : ws.length = (["value"] : List Str).length) : BindsTo s T.fdi_InvalidNumber ⟨[v], (["value"] : List Str).zip ws⟩ ((["self", "value"] : List Str).zip (v :: ws.reverse)) := by
  obtain ⟨oc, od, kV, doc, pm, an, cdv, ct, osl, e, _⟩ := T.Fi_InvalidNumber.ex
  rw [e]
  match ws, h with
  | [w0], _ => exact .of_eq rfl
theorem G_init_InvalidSection (T : Tx K mg) : FnOk P w K mg base CX0 1 T.fi_InvalidSection T.fdi_InvalidSection ["self", "value"] (spInit T.c_InvalidSection ["value"] "InvalidSection") := by
  refine T.Fi_InvalidSection.ok sc_InvalidSectioninit (fun vs H Q E h => ?_) (fun cdv A outer s H vs Q E hr h => ⟨_, (pss_cons (ps_xset (pv 0) pe_str) (pss_one (ps_xset (pv 0) (pv 1)))), ?_⟩)
  · obtain ⟨a, ws, rfl, hl, _⟩ := h
    rw [List.length_cons, hl]; rfl
  · obtain ⟨a, ws, rfl, hl, ha, q⟩ := h
    match ws, hl, q with
    | [w0], _, q =>
      exact init1 T.x_InvalidSection.toXc ha (fun dx h1 h2 => q dx h1 h2) (T.no_InvalidSection "code" (by decide)) (T.no_InvalidSection "value" (by decide))
theorem B_init_InvalidSection (T : Tx K mg) : Binds K T.fdi_InvalidSection ["self", "value"] [] := T.Fi_InvalidSection.binds fun _ _ _ _ _ _ us hl => match us, hl with | [_, _], _ => rfl
theorem KB_init_InvalidSection (T : Tx K mg) (s : Shared) (v : Value) (ws : List Value) (h : ws.length = (["value"] : List Str).length) : BindsTo s T.fdi_InvalidSection ⟨[v], (["value"] : List Str).zip ws⟩ ((["self", "value"] : List Str).zip (v :: ws.reverse)) := by
  obtain ⟨oc, od, kV, doc, pm, an, cdv, ct, osl, e, _⟩ := T.Fi_InvalidSection.ex
  rw [e]
  match ws, h with
  | [w0], _ => exact .of_eq rfl
theorem G_init_InvalidTimes (T : Tx K mg) : FnOk P w K mg base CX0 1 T.fi_InvalidTimes T.fdi_InvalidTimes ["self", "value"] (spInit T.c_InvalidTimes ["value"] "InvalidTimes") := by
  refine T.Fi_InvalidTimes.ok sc_InvalidTimesinit (fun vs H Q E h => ?_) (fun cdv A outer s H vs Q E hr h => ⟨_, (pss_cons (ps_xset (pv 0) pe_str) (pss_one (ps_xset (pv 0) (pv 1)))), ?_⟩)
  · obtain ⟨a, ws, rfl, hl, _⟩ := h
    rw [List.length_cons, hl]; rfl
  · obtain ⟨a, ws, rfl, hl, ha, q⟩ := h
    match ws, hl, q with
    | [w0], _, q =>
      exact init1 T.x_InvalidTimes.toXc ha (fun dx h1 h2 => q dx h1 h2) (T.no_InvalidTimes "code" (by decide)) (T.no_InvalidTimes "value" (by decide))
theorem B_init_InvalidTimes (T : Tx K mg) : Binds K T.fdi_InvalidTimes ["self", "value"] [] := T.Fi_InvalidTimes.binds fun _ _ _ _ _ _ us hl => match us, hl with | [_, _], _ => rfl
theorem KB_init_InvalidTimes (T : Tx K mg) (s : Shared) (v : Value) (ws : List Value) (h : ws.length = (["value"] : List Str).length) : BindsTo s T.fdi_InvalidTimes ⟨[v], (["value"] : List Str).zip ws⟩ ((["self", "value"] : List Str).zip (v :: ws.reverse)) := by
  obtain ⟨oc, od, kV, doc, pm, an, cdv, ct, osl, e, _⟩ := T.Fi_InvalidTimes.ex
  rw [e]
  match ws, h with
  | [w0], _ => exact .of_eq rfl
theorem G_init_InvalidStep (T : Tx K mg) : FnOk P w K mg base CX0 1 T.fi_InvalidStep T.fdi_InvalidStep ["self", "value"] (spInit T.c_InvalidStep ["value"] "InvalidStep") := by
  refine T.Fi_InvalidStep.ok sc_InvalidStepinit (fun vs H Q E h => ?_) (fun cdv A outer s H vs Q E hr h => ⟨_, (pss_cons (ps_xset (pv 0) pe_str) (pss_one (ps_xset (pv 0) (pv 1)))), ?_⟩)
  · obtain ⟨a, ws, rfl, hl, _⟩ := h
    rw [List.length_cons, hl]; rfl
  · obtain ⟨a, ws, rfl, hl, ha, q⟩ := h
    match ws, hl, q with
    | [w0], _, q =>
      exact init1 T.x_InvalidStep.toXc ha (fun dx h1 h2 => q dx h1 h2) (T.no_InvalidStep "code" (by decide)) (T.no_InvalidStep "value" (by decide))
theorem B_init_InvalidStep (T : Tx K mg) : Binds K T.fdi_InvalidStep ["self", "value"] [] := T.Fi_InvalidStep.binds fun _ _ _ _ _ _ us hl => match us, hl with | [_, _], _ => rfl
theorem KB_init_InvalidStep (T : Tx K mg) (s : Shared) (v : Value) (ws : List Value) (h : ws.length = (["value"] : List Str).length) : BindsTo s T.fdi_InvalidStep ⟨[v], (["value"] : List Str).zip ws⟩ ((["self", "value"] : List Str).zip (v :: ws.reverse)) := by
  obtain ⟨oc, od, kV, doc, pm, an, cdv, ct, osl, e, _⟩ := T.Fi_InvalidStep.ex
  rw [e]
  match ws, h with
  | [w0], _ => exact .of_eq rfl
theorem G_init_InvalidStanding (T : Tx K mg) : FnOk P w K mg base CX0 1 T.fi_InvalidStanding T.fdi_InvalidStanding ["self", "value"] (spInit T.c_InvalidStanding ["value"] "InvalidStanding") := by
  refine T.Fi_InvalidStanding.ok sc_InvalidStandinginit (fun vs H Q E h => ?_) (fun cdv A outer s H vs Q E hr h => ⟨_, (pss_cons (ps_xset (pv 0) pe_str) (pss_one (ps_xset (pv 0) (pv 1)))), ?_⟩)
  · obtain ⟨a, ws, rfl, hl, _⟩ := h
    rw [List.length_cons, hl]; rfl
  · obtain ⟨a, ws, rfl, hl, ha, q⟩ := h
    match ws, hl, q with
    | [w0], _, q =>
      exact init1 T.x_InvalidStanding.toXc ha (fun dx h1 h2 => q dx h1 h2) (T.no_InvalidStanding "code" (by decide)) (T.no_InvalidStanding "value" (by decide))
theorem B_init_InvalidStanding (T : Tx K mg) : Binds K T.fdi_InvalidStanding ["self", "value"] [] := T.Fi_InvalidStanding.binds fun _ _ _ _ _ _ us hl => match us, hl with | [_, _], _ => rfl
theorem KB_init_InvalidStanding (T : Tx K mg) (s : Shared) (v : Value) (ws : List Value) (h : ws.length = (["value"] : List Str).length) : BindsTo s T.fdi_InvalidStanding ⟨[v], (["value"] : List Str).zip ws⟩ ((["self", "value"] : List Str).zip (v :: ws.reverse)) := by
  obtain ⟨oc, od, kV, doc, pm, an, cdv, ct, osl, e, _⟩ := T.Fi_InvalidStanding.ex
  rw [e]
  match ws, h with
  | [w0], _ => exact .of_eq rfl
theorem G_init_InvalidRow (T : Tx K mg) : FnOk P w K mg base CX0 1 T.fi_InvalidRow T.fdi_InvalidRow ["self", "value"] (spInit T.c_InvalidRow ["value"] "InvalidRow") := by
  refine T.Fi_InvalidRow.ok sc_InvalidRowinit (fun vs H Q E h => ?_) (fun cdv A outer s H vs Q E hr h => ⟨_, (pss_cons (ps_xset (pv 0) pe_str) (pss_one (ps_xset (pv 0) (pv 1)))), ?_⟩)
  · obtain ⟨a, ws, rfl, hl, _⟩ := h
    rw [List.length_cons, hl]; rfl
  · obtain ⟨a, ws, rfl, hl, ha, q⟩ := h
    match ws, hl, q with
    | [w0], _, q =>
      exact init1 T.x_InvalidRow.toXc ha (fun dx h1 h2 => q dx h1 h2) (T.no_InvalidRow "code" (by decide)) (T.no_InvalidRow "value" (by decide))
theorem B_init_InvalidRow (T : Tx K mg) : Binds K T.fdi_InvalidRow ["self", "value"] [] := T.Fi_InvalidRow.binds fun _ _ _ _ _ _ us hl => match us, hl with | [_, _], _ => rfl
theorem KB_init_InvalidRow (T : Tx K mg) (s : Shared) (v : Value) (ws : List Value) (h : ws.length = (["value"] : List Str).length) : BindsTo s T.fdi_InvalidRow ⟨[v], (["value"] : List Str).zip ws⟩ ((["self", "value"] : List Str).zip (v :: ws.reverse)) := by
  obtain ⟨oc, od, kV, doc, pm, an, cdv, ct, osl, e, _⟩ := T.Fi_InvalidRow.ex
  rw [e]
  match ws, h with
  | [w0], _ => exact .of_eq rfl
theorem G_init_InvalidTable (T : Tx K mg) : FnOk P w K mg base CX0 1 T.fi_InvalidTable T.fdi_InvalidTable ["self", "value"] (spInit T.c_InvalidTable ["value"] "InvalidTable") := by
  refine T.Fi_InvalidTable.ok sc_InvalidTableinit (fun vs H Q E h => ?_) (fun cdv A outer s H vs Q E hr h => ⟨_, (pss_cons (ps_xset (pv 0) pe_str) (pss_one (ps_xset (pv 0) (pv 1)))), ?_⟩)
  · obtain ⟨a, ws, rfl, hl, _⟩ := h
    rw [List.length_cons, hl]; rfl
  · obtain ⟨a, ws, rfl, hl, ha, q⟩ := h
    match ws, hl, q with
    | [w0], _, q =>
      exact init1 T.x_InvalidTable.toXc ha (fun dx h1 h2 => q dx h1 h2) (T.no_InvalidTable "code" (by decide)) (T.no_InvalidTable "value" (by decide))
theorem B_init_InvalidTable (T : Tx K mg) : Binds K T.fdi_InvalidTable ["self", "value"] [] := T.Fi_InvalidTable.binds fun _ _ _ _ _ _ us hl => match us, hl with | [_, _], _ => rfl
theorem KB_init_InvalidTable (T : Tx K mg) (s : Shared) (v : Value) (ws : List Value) (h : ws.length = (["value"] : List Str).length) : BindsTo s T.fdi_InvalidTable ⟨[v], (["value"] : List Str).zip ws⟩ ((["self", "value"] : List Str).zip (v :: ws.reverse)) := by
  obtain ⟨oc, od, kV, doc, pm, an, cdv, ct, osl, e, _⟩ := T.Fi_InvalidTable.ex
  rw [e]
  match ws, h with
  | [w0], _ => exact .of_eq rfl
theorem G_init_InvalidDelays (T : Tx K mg) : FnOk P w K mg base CX0 1 T.fi_InvalidDelays T.fdi_InvalidDelays ["self", "value"] (spInit T.c_InvalidDelays ["value"] "InvalidDelays") := by
  refine T.Fi_InvalidDelays.ok sc_InvalidDelaysinit (fun vs H Q E h => ?_) (fun cdv A outer s H vs Q E hr h => ⟨_, (pss_cons (ps_xset (pv 0) pe_str) (pss_one (ps_xset (pv 0) (pv 1)))), ?_⟩)
  · obtain ⟨a, ws, rfl, hl, _⟩ := h
    rw [List.length_cons, hl]; rfl
  · obtain ⟨a, ws, rfl, hl, ha, q⟩ := h
    match ws, hl, q with
    | [w0], _, q =>
      exact init1 T.x_InvalidDelays.toXc ha (fun dx h1 h2 => q dx h1 h2) (T.no_InvalidDelays "code" (by decide)) (T.no_InvalidDelays "value" (by decide))
theorem B_init_InvalidDelays (T : Tx K mg) : Binds K T.fdi_InvalidDelays ["self", "value"] [] := T.Fi_InvalidDelays.binds fun _ _ _ _ _ _ us hl => match us, hl with | [_, _], _ => rfl
theorem KB_init_InvalidDelays (T : Tx K mg) (s : Shared) (v : Value) (ws : List Value) (h : ws.length = (["value"] : List Str).length) : BindsTo s T.fdi_InvalidDelays ⟨[v], (["value"] : List Str).zip ws⟩ ((["self", "value"] : List Str).zip (v :: ws.reverse)) := by
  obtain ⟨oc, od, kV, doc, pm, an, cdv, ct, osl, e, _⟩ := T.Fi_InvalidDelays.ex
  rw [e]
  match ws, h with
  | [w0], _ => exact .of_eq rfl
theorem G_init_InvalidPeriod (T : Tx K mg) : FnOk P w K mg base CX0 1 T.fi_InvalidPeriod T.fdi_InvalidPeriod ["self", "value"] (spInit T.c_InvalidPeriod ["value"] "InvalidPeriod") := by
  refine T.Fi_InvalidPeriod.ok sc_InvalidPeriodinit (fun vs H Q E h => ?_) (fun cdv A outer s H vs Q E hr h => ⟨_, (pss_cons (ps_xset (pv 0) pe_str) (pss_one (ps_xset (pv 0) (pv 1)))), ?_⟩)
  · obtain ⟨a, ws, rfl, hl, _⟩ := h
    rw [List.length_cons, hl]; rfl
  · obtain ⟨a, ws, rfl, hl, ha, q⟩ := h
    match ws, hl, q with
    | [w0], _, q =>
      exact init1 T.x_InvalidPeriod.toXc ha (fun dx h1 h2 => q dx h1 h2) (T.no_InvalidPeriod "code" (by decide)) (T.no_InvalidPeriod "value" (by decide))
theorem B_init_InvalidPeriod (T : Tx K mg) : Binds K T.fdi_InvalidPeriod ["self", "value"] [] := T.Fi_InvalidPeriod.binds fun _ _ _ _ _ _ us hl => match us, hl with | [_, _], _ => rfl
theorem KB_init_InvalidPeriod (T : Tx K mg) (s : Shared) (v : Value) (ws : List Value) (h : ws.length = (["value"] : List Str).length) : BindsTo s T.fdi_InvalidPeriod ⟨[v], (["value"] : List Str).zip ws⟩ ((["self", "value"] : List Str).zip (v :: ws.reverse)) := by
  obtain ⟨oc, od, kV, doc, pm, an, cdv, ct, osl, e, _⟩ := T.Fi_InvalidPeriod.ex
  rw [e]
  match ws, h with
  | [w0], _ => exact .of_eq rfl
theorem G_init_InvalidHeights (T : Tx K mg) : FnOk P w K mg base CX0 1 T.fi_InvalidHeights T.fdi_InvalidHeights ["self", "value"] (spInit T.c_InvalidHeights ["value"] "InvalidHeights") := by
  refine T.Fi_InvalidHeights.ok sc_InvalidHeightsinit (fun vs H Q E h => ?_) (fun cdv A outer s H vs Q E hr h => ⟨_, (pss_cons (ps_xset (pv 0) pe_str) (pss_one (ps_xset (pv 0) (pv 1)))), ?_⟩)
  · obtain ⟨a, ws, rfl, hl, _⟩ := h
    rw [List.length_cons, hl]; rfl
  · obtain ⟨a, ws, rfl, hl, ha, q⟩ := h
    match ws, hl, q with
    | [w0], _, q =>
      exact init1 T.x_InvalidHeights.toXc ha (fun dx h1 h2 => q dx h1 h2) (T.no_InvalidHeights "code" (by decide)) (T.no_InvalidHeights "value" (by decide))
theorem B_init_InvalidHeights (T : Tx K mg) : Binds K T.fdi_InvalidHeights ["self", "value"] [] := T.Fi_InvalidHeights.binds fun _ _ _ _ _ _ us hl => match us, hl with | [_, _], _ => rfl
theorem KB_init_InvalidHeights (T : Tx K mg) (s : Shared) (v : Value) (ws : List Value) (h : ws.length = (["value"] : List Str).length) : BindsTo s T.fdi_InvalidHeights ⟨[v], (["value"] : List Str).zip ws⟩ ((["self", "value"] : List Str).zip (v :: ws.reverse)) := by
  obtain ⟨oc, od, kV, doc, pm, an, cdv, ct, osl, e, _⟩ := T.Fi_InvalidHeights.ex
  rw [e]
  match ws, h with
  | [w0], _ => exact .of_eq rfl
theorem G_init_InvalidDeed (T : Tx K mg) : FnOk P w K mg base CX0 1 T.fi_InvalidDeed T.fdi_InvalidDeed ["self", "value"] (spInit T.c_InvalidDeed ["value"] "InvalidDeed") := by
  refine T.Fi_InvalidDeed.ok sc_InvalidDeedinit (fun vs H Q E h => ?_) (fun cdv A outer s H vs Q E hr h => ⟨_, (pss_cons (ps_xset (pv 0) pe_str) (pss_one (ps_xset (pv 0) (pv 1)))), ?_⟩)
  · obtain ⟨a, ws, rfl, hl, _⟩ := h
    rw [List.length_cons, hl]; rfl
  · obtain ⟨a, ws, rfl, hl, ha, q⟩ := h
    match ws, hl, q with
    | [w0], _, q =>
      exact init1 T.x_InvalidDeed.toXc ha (fun dx h1 h2 => q dx h1 h2) (T.no_InvalidDeed "code" (by decide)) (T.no_InvalidDeed "value" (by decide))
theorem B_init_InvalidDeed (T : Tx K mg) : Binds K T.fdi_InvalidDeed ["self", "value"] [] := T.Fi_InvalidDeed.binds fun _ _ _ _ _ _ us hl => match us, hl with | [_, _], _ => rfl
theorem KB_init_InvalidDeed (T : Tx K mg) (s : Shared) (v : Value) (ws : List Value) (h : ws.length = (["value"] : List Str).length) : BindsTo s T.fdi_InvalidDeed ⟨[v], (["value"] : List Str).zip ws⟩ ((["self", "value"] : List Str).zip (v :: ws.reverse)) := by
  obtain ⟨oc, od, kV, doc, pm, an, cdv, ct, osl, e, _⟩ := T.Fi_InvalidDeed.ex
  rw [e]
  match ws, h with
  | [w0], _ => exact .of_eq rfl
theorem G_init_InvalidTurn (T : Tx K mg) : FnOk P w K mg base CX0 1 T.fi_InvalidTurn T.fdi_InvalidTurn ["self", "at"] (spInit T.c_InvalidTurn ["at"] "InvalidTurn") := by
  refine T.Fi_InvalidTurn.ok sc_InvalidTurninit (fun vs H Q E h => ?_) (fun cdv A outer s H vs Q E hr h => ⟨_, (pss_cons (ps_xset (pv 0) pe_str) (pss_one (ps_xset (pv 0) (pv 1)))), ?_⟩)
  · obtain ⟨a, ws, rfl, hl, _⟩ := h
    rw [List.length_cons, hl]; rfl
  · obtain ⟨a, ws, rfl, hl, ha, q⟩ := h
    match ws, hl, q with
    | [w0], _, q =>
      exact init1 T.x_InvalidTurn.toXc ha (fun dx h1 h2 => q dx h1 h2) (T.no_InvalidTurn "code" (by decide)) (T.no_InvalidTurn "at" (by decide))
theorem B_init_InvalidTurn (T : Tx K mg) : Binds K T.fdi_InvalidTurn ["self", "at"] [] := T.Fi_InvalidTurn.binds fun _ _ _ _ _ _ us hl => match us, hl with | [_, _], _ => rfl
theorem KB_init_InvalidTurn (T : Tx K mg) (s : Shared) (v : Value) (ws : List Value) (h : ws.length = (["at"] : List Str).length) : BindsTo s T.fdi_InvalidTurn ⟨[v], (["at"] : List Str).zip ws⟩ ((["self", "at"] : List Str).zip (v :: ws.reverse)) := by
  obtain ⟨oc, od, kV, doc, pm, an, cdv, ct, osl, e, _⟩ := T.Fi_InvalidTurn.ex
  rw [e]
  match ws, h with
  | [w0], _ => exact .of_eq rfl
theorem G_init_InvalidWait (T : Tx K mg) : FnOk P w K mg base CX0 1 T.fi_InvalidWait T.fdi_InvalidWait ["self", "at"] (spInit T.c_InvalidWait ["at"] "InvalidWait") := by
  refine T.Fi_InvalidWait.ok sc_InvalidWaitinit (fun vs H Q E h => ?_) (fun cdv A outer s H vs Q E hr h => ⟨_, (pss_cons (ps_xset (pv 0) pe_str) (pss_one (ps_xset (pv 0) (pv 1)))), ?_⟩)
  · obtain ⟨a, ws, rfl, hl, _⟩ := h
    rw [List.length_cons, hl]; rfl
  · obtain ⟨a, ws, rfl, hl, ha, q⟩ := h
    match ws, hl, q with
    | [w0], _, q =>
      exact init1 T.x_InvalidWait.toXc ha (fun dx h1 h2 => q dx h1 h2) (T.no_InvalidWait "code" (by decide)) (T.no_InvalidWait "at" (by decide))
theorem B_init_InvalidWait (T : Tx K mg) : Binds K T.fdi_InvalidWait ["self", "at"] [] := T.Fi_InvalidWait.binds fun _ _ _ _ _ _ us hl => match us, hl with | [_, _], _ => rfl
theorem KB_init_InvalidWait (T : Tx K mg) (s : Shared) (v : Value) (ws : List Value) (h : ws.length = (["at"] : List Str).length) : BindsTo s T.fdi_InvalidWait ⟨[v], (["at"] : List Str).zip ws⟩ ((["self", "at"] : List Str).zip (v :: ws.reverse)) := by
  obtain ⟨oc, od, kV, doc, pm, an, cdv, ct, osl, e, _⟩ := T.Fi_InvalidWait.ex
  rw [e]
  match ws, h with
  | [w0], _ => exact .of_eq rfl
theorem G_init_InvalidWish (T : Tx K mg) : FnOk P w K mg base CX0 1 T.fi_InvalidWish T.fdi_InvalidWish ["self", "at"] (spInit T.c_InvalidWish ["at"] "InvalidWish") := by
  refine T.Fi_InvalidWish.ok sc_InvalidWishinit (fun vs H Q E h => ?_) (fun cdv A outer s H vs Q E hr h => ⟨_, (pss_cons (ps_xset (pv 0) pe_str) (pss_one (ps_xset (pv 0) (pv 1)))), ?_⟩)
  · obtain ⟨a, ws, rfl, hl, _⟩ := h
    rw [List.length_cons, hl]; rfl
  · obtain ⟨a, ws, rfl, hl, ha, q⟩ := h
    match ws, hl, q with
    | [w0], _, q =>
      exact init1 T.x_InvalidWish.toXc ha (fun dx h1 h2 => q dx h1 h2) (T.no_InvalidWish "code" (by decide)) (T.no_InvalidWish "at" (by decide))
theorem B_init_InvalidWish (T : Tx K mg) : Binds K T.fdi_InvalidWish ["self", "at"] [] := T.Fi_InvalidWish.binds fun _ _ _ _ _ _ us hl => match us, hl with | [_, _], _ => rfl
theorem KB_init_InvalidWish (T : Tx K mg) (s : Shared) (v : Value) (ws : List Value) (h : ws.length = (["at"] : List Str).length) : BindsTo s T.fdi_InvalidWish ⟨[v], (["at"] : List Str).zip ws⟩ ((["self", "at"] : List Str).zip (v :: ws.reverse)) := by
  obtain ⟨oc, od, kV, doc, pm, an, cdv, ct, osl, e, _⟩ := T.Fi_InvalidWish.ex
  rw [e]
  match ws, h with
  | [w0], _ => exact .of_eq rfl
theorem G_init_InvalidJourney (T : Tx K mg) : FnOk P w K mg base CX0 1 T.fi_InvalidJourney T.fdi_InvalidJourney ["self", "at"] (spInit T.c_InvalidJourney ["at"] "InvalidJourney") := by
  refine T.Fi_InvalidJourney.ok sc_InvalidJourneyinit (fun vs H Q E h => ?_) (fun cdv A outer s H vs Q E hr h => ⟨_, (pss_cons (ps_xset (pv 0) pe_str) (pss_one (ps_xset (pv 0) (pv 1)))), ?_⟩)
  · obtain ⟨a, ws, rfl, hl, _⟩ := h
    rw [List.length_cons, hl]; rfl
  · obtain ⟨a, ws, rfl, hl, ha, q⟩ := h
    match ws, hl, q with
    | [w0], _, q =>
      exact init1 T.x_InvalidJourney.toXc ha (fun dx h1 h2 => q dx h1 h2) (T.no_InvalidJourney "code" (by decide)) (T.no_InvalidJourney "at" (by decide))
theorem B_init_InvalidJourney (T : Tx K mg) : Binds K T.fdi_InvalidJourney ["self", "at"] [] := T.Fi_InvalidJourney.binds fun _ _ _ _ _ _ us hl => match us, hl with | [_, _], _ => rfl
theorem KB_init_InvalidJourney (T : Tx K mg) (s : Shared) (v : Value) (ws : List Value) (h : ws.length = (["at"] : List Str).length) : BindsTo s T.fdi_InvalidJourney ⟨[v], (["at"] : List Str).zip ws⟩ ((["self", "at"] : List Str).zip (v :: ws.reverse)) := by
  obtain ⟨oc, od, kV, doc, pm, an, cdv, ct, osl, e, _⟩ := T.Fi_InvalidJourney.ex
  rw [e]
  match ws, h with
  | [w0], _ => exact .of_eq rfl
theorem G_init_InvalidText (T : Tx K mg) : FnOk P w K mg base CX0 1 T.fi_InvalidText T.fdi_InvalidText ["self", "line"] (spInit T.c_InvalidText ["line"] "InvalidText") := by
  refine T.Fi_InvalidText.ok sc_InvalidTextinit (fun vs H Q E h => ?_) (fun cdv A outer s H vs Q E hr h => ⟨_, (pss_cons (ps_xset (pv 0) pe_str) (pss_one (ps_xset (pv 0) (pv 1)))), ?_⟩)
  · obtain ⟨a, ws, rfl, hl, _⟩ := h
    rw [List.length_cons, hl]; rfl
  · obtain ⟨a, ws, rfl, hl, ha, q⟩ := h
    match ws, hl, q with
    | [w0], _, q =>
      exact init1 T.x_InvalidText.toXc ha (fun dx h1 h2 => q dx h1 h2) (T.no_InvalidText "code" (by decide)) (T.no_InvalidText "line" (by decide))
theorem B_init_InvalidText (T : Tx K mg) : Binds K T.fdi_InvalidText ["self", "line"] [] := T.Fi_InvalidText.binds fun _ _ _ _ _ _ us hl => match us, hl with | [_, _], _ => rfl
theorem KB_init_InvalidText (T : Tx K mg) (s : Shared) (v : Value) (ws : List Value) (h : ws.length = (["line"] : List Str).length) : BindsTo s T.fdi_InvalidText ⟨[v], (["line"] : List Str).zip ws⟩ ((["self", "line"] : List Str).zip (v :: ws.reverse)) := by
  obtain ⟨oc, od, kV, doc, pm, an, cdv, ct, osl, e, _⟩ := T.Fi_InvalidText.ex
  rw [e]
  match ws, h with
  | [w0], _ => exact .of_eq rfl
theorem G_init_DuplicateName (T : Tx K mg) : FnOk P w K mg base CX0 1 T.fi_DuplicateName T.fdi_DuplicateName ["self", "name"] (spInit T.c_DuplicateName ["name"] "DuplicateName") := by
  refine T.Fi_DuplicateName.ok sc_DuplicateNameinit (fun vs H Q E h => ?_) (fun cdv A outer s H vs Q E hr h => ⟨_, (pss_cons (ps_xset (pv 0) pe_str) (pss_one (ps_xset (pv 0) (pv 1)))), ?_⟩)
  · obtain ⟨a, ws, rfl, hl, _⟩ := h
    rw [List.length_cons, hl]; rfl
  · obtain ⟨a, ws, rfl, hl, ha, q⟩ := h
    match ws, hl, q with
    | [w0], _, q =>
      exact init1 T.x_DuplicateName.toXc ha (fun dx h1 h2 => q dx h1 h2) (T.no_DuplicateName "code" (by decide)) (T.no_DuplicateName "name" (by decide))
theorem B_init_DuplicateName (T : Tx K mg) : Binds K T.fdi_DuplicateName ["self", "name"] [] := T.Fi_DuplicateName.binds fun _ _ _ _ _ _ us hl => match us, hl with | [_, _], _ => rfl
theorem KB_init_DuplicateName (T : Tx K mg) (s : Shared) (v : Value) (ws : List Value) (h : ws.length = (["name"] : List Str).length) : BindsTo s T.fdi_DuplicateName ⟨[v], (["name"] : List Str).zip ws⟩ ((["self", "name"] : List Str).zip (v :: ws.reverse)) := by
  obtain ⟨oc, od, kV, doc, pm, an, cdv, ct, osl, e, _⟩ := T.Fi_DuplicateName.ex
  rw [e]
  match ws, h with
  | [w0], _ => exact .of_eq rfl
theorem G_init_InUse (T : Tx K mg) : FnOk P w K mg base CX0 1 T.fi_InUse T.fdi_InUse ["self", "name"] (spInit T.c_InUse ["name"] "InUse") := by
  refine T.Fi_InUse.ok sc_InUseinit (fun vs H Q E h => ?_) (fun cdv A outer s H vs Q E hr h => ⟨_, (pss_cons (ps_xset (pv 0) pe_str) (pss_one (ps_xset (pv 0) (pv 1)))), ?_⟩)
  · obtain ⟨a, ws, rfl, hl, _⟩ := h
    rw [List.length_cons, hl]; rfl
  · obtain ⟨a, ws, rfl, hl, ha, q⟩ := h
    match ws, hl, q with
    | [w0], _, q =>
      exact init1 T.x_InUse.toXc ha (fun dx h1 h2 => q dx h1 h2) (T.no_InUse "code" (by decide)) (T.no_InUse "name" (by decide))
theorem B_init_InUse (T : Tx K mg) : Binds K T.fdi_InUse ["self", "name"] [] := T.Fi_InUse.binds fun _ _ _ _ _ _ us hl => match us, hl with | [_, _], _ => rfl
theorem KB_init_InUse (T : Tx K mg) (s : Shared) (v : Value) (ws : List Value) (h : ws.length = (["name"] : List Str).length) : BindsTo s T.fdi_InUse ⟨[v], (["name"] : List Str).zip ws⟩ ((["self", "name"] : List Str).zip (v :: ws.reverse)) := by
  obtain ⟨oc, od, kV, doc, pm, an, cdv, ct, osl, e, _⟩ := T.Fi_InUse.ex
  rw [e]
  match ws, h with
  | [w0], _ => exact .of_eq rfl
theorem G_init_TakenEnd (T : Tx K mg) : FnOk P w K mg base CX0 1 T.fi_TakenEnd T.fdi_TakenEnd ["self", "end"] (spInit T.c_TakenEnd ["end"] "TakenEnd") := by
  refine T.Fi_TakenEnd.ok sc_TakenEndinit (fun vs H Q E h => ?_) (fun cdv A outer s H vs Q E hr h => ⟨_, (pss_cons (ps_xset (pv 0) pe_str) (pss_one (ps_xset (pv 0) (pv 1)))), ?_⟩)
  · obtain ⟨a, ws, rfl, hl, _⟩ := h
    rw [List.length_cons, hl]; rfl
  · obtain ⟨a, ws, rfl, hl, ha, q⟩ := h
    match ws, hl, q with
    | [w0], _, q =>
      exact init1 T.x_TakenEnd.toXc ha (fun dx h1 h2 => q dx h1 h2) (T.no_TakenEnd "code" (by decide)) (T.no_TakenEnd "end" (by decide))
theorem B_init_TakenEnd (T : Tx K mg) : Binds K T.fdi_TakenEnd ["self", "end"] [] := T.Fi_TakenEnd.binds fun _ _ _ _ _ _ us hl => match us, hl with | [_, _], _ => rfl
theorem KB_init_TakenEnd (T : Tx K mg) (s : Shared) (v : Value) (ws : List Value) (h : ws.length = (["end"] : List Str).length) : BindsTo s T.fdi_TakenEnd ⟨[v], (["end"] : List Str).zip ws⟩ ((["self", "end"] : List Str).zip (v :: ws.reverse)) := by
  obtain ⟨oc, od, kV, doc, pm, an, cdv, ct, osl, e, _⟩ := T.Fi_TakenEnd.ex
  rw [e]
  match ws, h with
  | [w0], _ => exact .of_eq rfl
theorem G_init_LooseEnd (T : Tx K mg) : FnOk P w K mg base CX0 1 T.fi_LooseEnd T.fdi_LooseEnd ["self", "end"] (spInit T.c_LooseEnd ["end"] "LooseEnd") := by
  refine T.Fi_LooseEnd.ok sc_LooseEndinit (fun vs H Q E h => ?_) (fun cdv A outer s H vs Q E hr h => ⟨_, (pss_cons (ps_xset (pv 0) pe_str) (pss_one (ps_xset (pv 0) (pv 1)))), ?_⟩)
  · obtain ⟨a, ws, rfl, hl, _⟩ := h
    rw [List.length_cons, hl]; rfl
  · obtain ⟨a, ws, rfl, hl, ha, q⟩ := h
    match ws, hl, q with
    | [w0], _, q =>
      exact init1 T.x_LooseEnd.toXc ha (fun dx h1 h2 => q dx h1 h2) (T.no_LooseEnd "code" (by decide)) (T.no_LooseEnd "end" (by decide))
theorem B_init_LooseEnd (T : Tx K mg) : Binds K T.fdi_LooseEnd ["self", "end"] [] := T.Fi_LooseEnd.binds fun _ _ _ _ _ _ us hl => match us, hl with | [_, _], _ => rfl
theorem KB_init_LooseEnd (T : Tx K mg) (s : Shared) (v : Value) (ws : List Value) (h : ws.length = (["end"] : List Str).length) : BindsTo s T.fdi_LooseEnd ⟨[v], (["end"] : List Str).zip ws⟩ ((["self", "end"] : List Str).zip (v :: ws.reverse)) := by
  obtain ⟨oc, od, kV, doc, pm, an, cdv, ct, osl, e, _⟩ := T.Fi_LooseEnd.ex
  rw [e]
  match ws, h with
  | [w0], _ => exact .of_eq rfl
theorem G_init_TooMany (T : Tx K mg) : FnOk P w K mg base CX0 1 T.fi_TooMany T.fdi_TooMany ["self", "subject", "most"] (spInit T.c_TooMany ["subject", "most"] "TooMany") := by
  refine T.Fi_TooMany.ok sc_TooManyinit (fun vs H Q E h => ?_) (fun cdv A outer s H vs Q E hr h => ⟨_, (pss_cons (ps_xset (pv 0) pe_str) (pss_cons (ps_xset (pv 0) (pv 1)) (pss_one (ps_xset (pv 0) (pv 2))))), ?_⟩)
  · obtain ⟨a, ws, rfl, hl, _⟩ := h
    rw [List.length_cons, hl]; rfl
  · obtain ⟨a, ws, rfl, hl, ha, q⟩ := h
    match ws, hl, q with
    | [w0, w1], _, q =>
      exact init2 T.x_TooMany.toXc ha (fun dx h1 h2 => q dx h1 h2) (T.no_TooMany "code" (by decide)) (T.no_TooMany "subject" (by decide)) (T.no_TooMany "most" (by decide))
theorem B_init_TooMany (T : Tx K mg) : Binds K T.fdi_TooMany ["self", "subject", "most"] [] := T.Fi_TooMany.binds fun _ _ _ _ _ _ us hl => match us, hl with | [_, _, _], _ => rfl
theorem KB_init_TooMany (T : Tx K mg) (s : Shared) (v : Value) (ws : List Value) (h : ws.length = (["most", "subject"] : List Str).length) : BindsTo s T.fdi_TooMany ⟨[v], (["most", "subject"] : List Str).zip ws⟩ ((["self", "subject", "most"] : List Str).zip (v :: ws.reverse)) := by
  obtain ⟨oc, od, kV, doc, pm, an, cdv, ct, osl, e, _⟩ := T.Fi_TooMany.ex
  rw [e]
  match ws, h with
  | [w0, w1], _ => exact .of_eq rfl
theorem G_init_MisplacedStep (T : Tx K mg) : FnOk P w K mg base CX0 1 T.fi_MisplacedStep T.fdi_MisplacedStep ["self", "train", "step"] (spInit T.c_MisplacedStep ["train", "step"] "MisplacedStep") := by
  refine T.Fi_MisplacedStep.ok sc_MisplacedStepinit (fun vs H Q E h => ?_) (fun cdv A outer s H vs Q E hr h => ⟨_, (pss_cons (ps_xset (pv 0) pe_str) (pss_cons (ps_xset (pv 0) (pv 1)) (pss_one (ps_xset (pv 0) (pv 2))))), ?_⟩)
  · obtain ⟨a, ws, rfl, hl, _⟩ := h
    rw [List.length_cons, hl]; rfl
  · obtain ⟨a, ws, rfl, hl, ha, q⟩ := h
    match ws, hl, q with
    | [w0, w1], _, q =>
      exact init2 T.x_MisplacedStep.toXc ha (fun dx h1 h2 => q dx h1 h2) (T.no_MisplacedStep "code" (by decide)) (T.no_MisplacedStep "train" (by decide)) (T.no_MisplacedStep "step" (by decide))
theorem B_init_MisplacedStep (T : Tx K mg) : Binds K T.fdi_MisplacedStep ["self", "train", "step"] [] := T.Fi_MisplacedStep.binds fun _ _ _ _ _ _ us hl => match us, hl with | [_, _, _], _ => rfl
theorem KB_init_MisplacedStep (T : Tx K mg) (s : Shared) (v : Value) (ws : List Value) (h : ws.length = (["step", "train"] : List Str).length) : BindsTo s T.fdi_MisplacedStep ⟨[v], (["step", "train"] : List Str).zip ws⟩ ((["self", "train", "step"] : List Str).zip (v :: ws.reverse)) := by
  obtain ⟨oc, od, kV, doc, pm, an, cdv, ct, osl, e, _⟩ := T.Fi_MisplacedStep.ex
  rw [e]
  match ws, h with
  | [w0, w1], _ => exact .of_eq rfl
theorem G_init_OwnRing (T : Tx K mg) : FnOk P w K mg base CX0 1 T.fi_OwnRing T.fdi_OwnRing ["self", "train", "step", "element"] (spInit T.c_OwnRing ["train", "step", "element"] "OwnRing") := by
  refine T.Fi_OwnRing.ok sc_OwnRinginit (fun vs H Q E h => ?_) (fun cdv A outer s H vs Q E hr h => ⟨_, (pss_cons (ps_xset (pv 0) pe_str) (pss_cons (ps_xset (pv 0) (pv 1)) (pss_cons (ps_xset (pv 0) (pv 2)) (pss_one (ps_xset (pv 0) (pv 3)))))), ?_⟩)
  · obtain ⟨a, ws, rfl, hl, _⟩ := h
    rw [List.length_cons, hl]; rfl
  · obtain ⟨a, ws, rfl, hl, ha, q⟩ := h
    match ws, hl, q with
    | [w0, w1, w2], _, q =>
      exact init3 T.x_OwnRing.toXc ha (fun dx h1 h2 => q dx h1 h2) (T.no_OwnRing "code" (by decide)) (T.no_OwnRing "train" (by decide)) (T.no_OwnRing "step" (by decide)) (T.no_OwnRing "element" (by decide))
theorem B_init_OwnRing (T : Tx K mg) : Binds K T.fdi_OwnRing ["self", "train", "step", "element"] [] := T.Fi_OwnRing.binds fun _ _ _ _ _ _ us hl => match us, hl with | [_, _, _, _], _ => rfl
theorem KB_init_OwnRing (T : Tx K mg) (s : Shared) (v : Value) (ws : List Value) (h : ws.length = (["element", "step", "train"] : List Str).length) : BindsTo s T.fdi_OwnRing ⟨[v], (["element", "step", "train"] : List Str).zip ws⟩ ((["self", "train", "step", "element"] : List Str).zip (v :: ws.reverse)) := by
  obtain ⟨oc, od, kV, doc, pm, an, cdv, ct, osl, e, _⟩ := T.Fi_OwnRing.ex
  rw [e]
  match ws, h with
  | [w0, w1, w2], _ => exact .of_eq rfl
theorem G_init_Refused (T : Tx K mg) : FnOk P w K mg base CX0 1 T.fi_Refused T.fdi_Refused ["self", "train", "element", "holder"] (spInit T.c_Refused ["train", "element", "holder"] "Refused") := by
  refine T.Fi_Refused.ok sc_Refusedinit (fun vs H Q E h => ?_) (fun cdv A outer s H vs Q E hr h => ⟨_, (pss_cons (ps_xset (pv 0) pe_str) (pss_cons (ps_xset (pv 0) (pv 1)) (pss_cons (ps_xset (pv 0) (pv 2)) (pss_one (ps_xset (pv 0) (pv 3)))))), ?_⟩)
  · obtain ⟨a, ws, rfl, hl, _⟩ := h
    rw [List.length_cons, hl]; rfl
  · obtain ⟨a, ws, rfl, hl, ha, q⟩ := h
    match ws, hl, q with
    | [w0, w1, w2], _, q =>
      exact init3 T.x_Refused.toXc ha (fun dx h1 h2 => q dx h1 h2) (T.no_Refused "code" (by decide)) (T.no_Refused "train" (by decide)) (T.no_Refused "element" (by decide)) (T.no_Refused "holder" (by decide))
theorem B_init_Refused (T : Tx K mg) : Binds K T.fdi_Refused ["self", "train", "element", "holder"] [] := T.Fi_Refused.binds fun _ _ _ _ _ _ us hl => match us, hl with | [_, _, _, _], _ => rfl
theorem KB_init_Refused (T : Tx K mg) (s : Shared) (v : Value) (ws : List Value) (h : ws.length = (["holder", "element", "train"] : List Str).length) : BindsTo s T.fdi_Refused ⟨[v], (["holder", "element", "train"] : List Str).zip ws⟩ ((["self", "train", "element", "holder"] : List Str).zip (v :: ws.reverse)) := by
  obtain ⟨oc, od, kV, doc, pm, an, cdv, ct, osl, e, _⟩ := T.Fi_Refused.ex
  rw [e]
  match ws, h with
  | [w0, w1, w2], _ => exact .of_eq rfl
theorem G_init_Lacking (T : Tx K mg) : FnOk P w K mg base CX0 1 T.fi_Lacking T.fdi_Lacking ["self", "train", "other"] (spInit T.c_Lacking ["train", "other"] "Lacking") := by
  refine T.Fi_Lacking.ok sc_Lackinginit (fun vs H Q E h => ?_) (fun cdv A outer s H vs Q E hr h => ⟨_, (pss_cons (ps_xset (pv 0) pe_str) (pss_cons (ps_xset (pv 0) (pv 1)) (pss_one (ps_xset (pv 0) (pv 2))))), ?_⟩)
  · obtain ⟨a, ws, rfl, hl, _⟩ := h
    rw [List.length_cons, hl]; rfl
  · obtain ⟨a, ws, rfl, hl, ha, q⟩ := h
    match ws, hl, q with
    | [w0, w1], _, q =>
      exact init2 T.x_Lacking.toXc ha (fun dx h1 h2 => q dx h1 h2) (T.no_Lacking "code" (by decide)) (T.no_Lacking "train" (by decide)) (T.no_Lacking "other" (by decide))
theorem B_init_Lacking (T : Tx K mg) : Binds K T.fdi_Lacking ["self", "train", "other"] [] := T.Fi_Lacking.binds fun _ _ _ _ _ _ us hl => match us, hl with | [_, _, _], _ => rfl
theorem KB_init_Lacking (T : Tx K mg) (s : Shared) (v : Value) (ws : List Value) (h : ws.length = (["other", "train"] : List Str).length) : BindsTo s T.fdi_Lacking ⟨[v], (["other", "train"] : List Str).zip ws⟩ ((["self", "train", "other"] : List Str).zip (v :: ws.reverse)) := by
  obtain ⟨oc, od, kV, doc, pm, an, cdv, ct, osl, e, _⟩ := T.Fi_Lacking.ex
  rw [e]
  match ws, h with
  | [w0, w1], _ => exact .of_eq rfl
theorem G_init_Unready (T : Tx K mg) : FnOk P w K mg base CX0 1 T.fi_Unready T.fdi_Unready ["self", "train"] (spInit T.c_Unready ["train"] "Unready") := by
  refine T.Fi_Unready.ok sc_Unreadyinit (fun vs H Q E h => ?_) (fun cdv A outer s H vs Q E hr h => ⟨_, (pss_cons (ps_xset (pv 0) pe_str) (pss_one (ps_xset (pv 0) (pv 1)))), ?_⟩)
  · obtain ⟨a, ws, rfl, hl, _⟩ := h
    rw [List.length_cons, hl]; rfl
  · obtain ⟨a, ws, rfl, hl, ha, q⟩ := h
    match ws, hl, q with
    | [w0], _, q =>
      exact init1 T.x_Unready.toXc ha (fun dx h1 h2 => q dx h1 h2) (T.no_Unready "code" (by decide)) (T.no_Unready "train" (by decide))
theorem B_init_Unready (T : Tx K mg) : Binds K T.fdi_Unready ["self", "train"] [] := T.Fi_Unready.binds fun _ _ _ _ _ _ us hl => match us, hl with | [_, _], _ => rfl
theorem KB_init_Unready (T : Tx K mg) (s : Shared) (v : Value) (ws : List Value) (h : ws.length = (["train"] : List Str).length) : BindsTo s T.fdi_Unready ⟨[v], (["train"] : List Str).zip ws⟩ ((["self", "train"] : List Str).zip (v :: ws.reverse)) := by
  obtain ⟨oc, od, kV, doc, pm, an, cdv, ct, osl, e, _⟩ := T.Fi_Unready.ex
  rw [e]
  match ws, h with
  | [w0], _ => exact .of_eq rfl
theorem G_init_Finished (T : Tx K mg) : FnOk P w K mg base CX0 1 T.fi_Finished T.fdi_Finished ["self", "train"] (spInit T.c_Finished ["train"] "Finished") := by
  refine T.Fi_Finished.ok sc_Finishedinit (fun vs H Q E h => ?_) (fun cdv A outer s H vs Q E hr h => ⟨_, (pss_cons (ps_xset (pv 0) pe_str) (pss_one (ps_xset (pv 0) (pv 1)))), ?_⟩)
  · obtain ⟨a, ws, rfl, hl, _⟩ := h
    rw [List.length_cons, hl]; rfl
  · obtain ⟨a, ws, rfl, hl, ha, q⟩ := h
    match ws, hl, q with
    | [w0], _, q =>
      exact init1 T.x_Finished.toXc ha (fun dx h1 h2 => q dx h1 h2) (T.no_Finished "code" (by decide)) (T.no_Finished "train" (by decide))
theorem B_init_Finished (T : Tx K mg) : Binds K T.fdi_Finished ["self", "train"] [] := T.Fi_Finished.binds fun _ _ _ _ _ _ us hl => match us, hl with | [_, _], _ => rfl
theorem KB_init_Finished (T : Tx K mg) (s : Shared) (v : Value) (ws : List Value) (h : ws.length = (["train"] : List Str).length) : BindsTo s T.fdi_Finished ⟨[v], (["train"] : List Str).zip ws⟩ ((["self", "train"] : List Str).zip (v :: ws.reverse)) := by
  obtain ⟨oc, od, kV, doc, pm, an, cdv, ct, osl, e, _⟩ := T.Fi_Finished.ex
  rw [e]
  match ws, h with
  | [w0], _ => exact .of_eq rfl
theorem G_init_Barred (T : Tx K mg) : FnOk P w K mg base CX0 1 T.fi_Barred T.fdi_Barred ["self", "train", "step"] (spInit T.c_Barred ["train", "step"] "Barred") := by
  refine T.Fi_Barred.ok sc_Barredinit (fun vs H Q E h => ?_) (fun cdv A outer s H vs Q E hr h => ⟨_, (pss_cons (ps_xset (pv 0) pe_str) (pss_cons (ps_xset (pv 0) (pv 1)) (pss_one (ps_xset (pv 0) (pv 2))))), ?_⟩)
  · obtain ⟨a, ws, rfl, hl, _⟩ := h
    rw [List.length_cons, hl]; rfl
  · obtain ⟨a, ws, rfl, hl, ha, q⟩ := h
    match ws, hl, q with
    | [w0, w1], _, q =>
      exact init2 T.x_Barred.toXc ha (fun dx h1 h2 => q dx h1 h2) (T.no_Barred "code" (by decide)) (T.no_Barred "train" (by decide)) (T.no_Barred "step" (by decide))
theorem B_init_Barred (T : Tx K mg) : Binds K T.fdi_Barred ["self", "train", "step"] [] := T.Fi_Barred.binds fun _ _ _ _ _ _ us hl => match us, hl with | [_, _, _], _ => rfl
theorem KB_init_Barred (T : Tx K mg) (s : Shared) (v : Value) (ws : List Value) (h : ws.length = (["step", "train"] : List Str).length) : BindsTo s T.fdi_Barred ⟨[v], (["step", "train"] : List Str).zip ws⟩ ((["self", "train", "step"] : List Str).zip (v :: ws.reverse)) := by
  obtain ⟨oc, od, kV, doc, pm, an, cdv, ct, osl, e, _⟩ := T.Fi_Barred.ex
  rw [e]
  match ws, h with
  | [w0, w1], _ => exact .of_eq rfl
theorem G_init_NoDay (T : Tx K mg) : FnOk P w K mg base CX0 1 T.fi_NoDay T.fdi_NoDay ["self"] (spInit T.c_NoDay [] "NoDay") := by
  refine T.Fi_NoDay.ok sc_NoDayinit (fun vs H Q E h => ?_) (fun cdv A outer s H vs Q E hr h => ⟨_, (pss_one (ps_xset (pv 0) pe_str)), ?_⟩)
  · obtain ⟨a, ws, rfl, hl, _⟩ := h
    rw [List.length_cons, hl]; rfl
  · obtain ⟨a, ws, rfl, hl, ha, q⟩ := h
    match ws, hl, q with
    | [], _, q =>
      exact init0 T.x_NoDay.toXc ha (fun dx h1 h2 => q dx h1 h2) (T.no_NoDay "code" (by decide))
theorem B_init_NoDay (T : Tx K mg) : Binds K T.fdi_NoDay ["self"] [] := T.Fi_NoDay.binds fun _ _ _ _ _ _ us hl => match us, hl with | [_], _ => rfl
theorem KB_init_NoDay (T : Tx K mg) (s : Shared) (v : Value) (ws : List Value) (h : ws.length = ([] : List Str).length) : BindsTo s T.fdi_NoDay ⟨[v], ([] : List Str).zip ws⟩ ((["self"] : List Str).zip (v :: ws.reverse)) := by
  obtain ⟨oc, od, kV, doc, pm, an, cdv, ct, osl, e, _⟩ := T.Fi_NoDay.ex
  rw [e]
  match ws, h with
  | [], _ => exact .of_eq rfl
theorem G_init_Doomed (T : Tx K mg) : FnOk P w K mg base CX0 1 T.fi_Doomed T.fdi_Doomed ["self"] (spInit T.c_Doomed [] "Doomed") := by
  refine T.Fi_Doomed.ok sc_Doomedinit (fun vs H Q E h => ?_) (fun cdv A outer s H vs Q E hr h => ⟨_, (pss_one (ps_xset (pv 0) pe_str)), ?_⟩)
  · obtain ⟨a, ws, rfl, hl, _⟩ := h
    rw [List.length_cons, hl]; rfl
  · obtain ⟨a, ws, rfl, hl, ha, q⟩ := h
    match ws, hl, q with
    | [], _, q =>
      exact init0 T.x_Doomed.toXc ha (fun dx h1 h2 => q dx h1 h2) (T.no_Doomed "code" (by decide))
theorem B_init_Doomed (T : Tx K mg) : Binds K T.fdi_Doomed ["self"] [] := T.Fi_Doomed.binds fun _ _ _ _ _ _ us hl => match us, hl with | [_], _ => rfl
theorem KB_init_Doomed (T : Tx K mg) (s : Shared) (v : Value) (ws : List Value) (h : ws.length = ([] : List Str).length) : BindsTo s T.fdi_Doomed ⟨[v], ([] : List Str).zip ws⟩ ((["self"] : List Str).zip (v :: ws.reverse)) := by
  obtain ⟨oc, od, kV, doc, pm, an, cdv, ct, osl, e, _⟩ := T.Fi_Doomed.ex
  rw [e]
  match ws, h with
  | [], _ => exact .of_eq rfl
theorem G_init_NeverCleared (T : Tx K mg) : FnOk P w K mg base CX0 1 T.fi_NeverCleared T.fdi_NeverCleared ["self", "train", "step", "element"] (spInit T.c_NeverCleared ["train", "step", "element"] "NeverCleared") := by
  refine T.Fi_NeverCleared.ok sc_NeverClearedinit (fun vs H Q E h => ?_) (fun cdv A outer s H vs Q E hr h => ⟨_, (pss_cons (ps_xset (pv 0) pe_str) (pss_cons (ps_xset (pv 0) (pv 1)) (pss_cons (ps_xset (pv 0) (pv 2)) (pss_one (ps_xset (pv 0) (pv 3)))))), ?_⟩)
  · obtain ⟨a, ws, rfl, hl, _⟩ := h
    rw [List.length_cons, hl]; rfl
  · obtain ⟨a, ws, rfl, hl, ha, q⟩ := h
    match ws, hl, q with
    | [w0, w1, w2], _, q =>
      exact init3 T.x_NeverCleared.toXc ha (fun dx h1 h2 => q dx h1 h2) (T.no_NeverCleared "code" (by decide)) (T.no_NeverCleared "train" (by decide)) (T.no_NeverCleared "step" (by decide)) (T.no_NeverCleared "element" (by decide))
theorem B_init_NeverCleared (T : Tx K mg) : Binds K T.fdi_NeverCleared ["self", "train", "step", "element"] [] := T.Fi_NeverCleared.binds fun _ _ _ _ _ _ us hl => match us, hl with | [_, _, _, _], _ => rfl
theorem KB_init_NeverCleared (T : Tx K mg) (s : Shared) (v : Value) (ws : List Value) (h : ws.length = (["element", "step", "train"] : List Str).length) : BindsTo s T.fdi_NeverCleared ⟨[v], (["element", "step", "train"] : List Str).zip ws⟩ ((["self", "train", "step", "element"] : List Str).zip (v :: ws.reverse)) := by
  obtain ⟨oc, od, kV, doc, pm, an, cdv, ct, osl, e, _⟩ := T.Fi_NeverCleared.ex
  rw [e]
  match ws, h with
  | [w0, w1, w2], _ => exact .of_eq rfl
theorem G_init_NoPeriod (T : Tx K mg) : FnOk P w K mg base CX0 1 T.fi_NoPeriod T.fdi_NoPeriod ["self"] (spInit T.c_NoPeriod [] "NoPeriod") := by
  refine T.Fi_NoPeriod.ok sc_NoPeriodinit (fun vs H Q E h => ?_) (fun cdv A outer s H vs Q E hr h => ⟨_, (pss_one (ps_xset (pv 0) pe_str)), ?_⟩)
  · obtain ⟨a, ws, rfl, hl, _⟩ := h
    rw [List.length_cons, hl]; rfl
  · obtain ⟨a, ws, rfl, hl, ha, q⟩ := h
    match ws, hl, q with
    | [], _, q =>
      exact init0 T.x_NoPeriod.toXc ha (fun dx h1 h2 => q dx h1 h2) (T.no_NoPeriod "code" (by decide))
theorem B_init_NoPeriod (T : Tx K mg) : Binds K T.fdi_NoPeriod ["self"] [] := T.Fi_NoPeriod.binds fun _ _ _ _ _ _ us hl => match us, hl with | [_], _ => rfl
theorem KB_init_NoPeriod (T : Tx K mg) (s : Shared) (v : Value) (ws : List Value) (h : ws.length = ([] : List Str).length) : BindsTo s T.fdi_NoPeriod ⟨[v], ([] : List Str).zip ws⟩ ((["self"] : List Str).zip (v :: ws.reverse)) := by
  obtain ⟨oc, od, kV, doc, pm, an, cdv, ct, osl, e, _⟩ := T.Fi_NoPeriod.ex
  rw [e]
  match ws, h with
  | [], _ => exact .of_eq rfl
theorem G_init_TooShort (T : Tx K mg) : FnOk P w K mg base CX0 1 T.fi_TooShort T.fdi_TooShort ["self", "period"] (spInit T.c_TooShort ["period"] "TooShort") := by
  refine T.Fi_TooShort.ok sc_TooShortinit (fun vs H Q E h => ?_) (fun cdv A outer s H vs Q E hr h => ⟨_, (pss_cons (ps_xset (pv 0) pe_str) (pss_one (ps_xset (pv 0) (pv 1)))), ?_⟩)
  · obtain ⟨a, ws, rfl, hl, _⟩ := h
    rw [List.length_cons, hl]; rfl
  · obtain ⟨a, ws, rfl, hl, ha, q⟩ := h
    match ws, hl, q with
    | [w0], _, q =>
      exact init1 T.x_TooShort.toXc ha (fun dx h1 h2 => q dx h1 h2) (T.no_TooShort "code" (by decide)) (T.no_TooShort "period" (by decide))
theorem B_init_TooShort (T : Tx K mg) : Binds K T.fdi_TooShort ["self", "period"] [] := T.Fi_TooShort.binds fun _ _ _ _ _ _ us hl => match us, hl with | [_, _], _ => rfl
theorem KB_init_TooShort (T : Tx K mg) (s : Shared) (v : Value) (ws : List Value) (h : ws.length = (["period"] : List Str).length) : BindsTo s T.fdi_TooShort ⟨[v], (["period"] : List Str).zip ws⟩ ((["self", "period"] : List Str).zip (v :: ws.reverse)) := by
  obtain ⟨oc, od, kV, doc, pm, an, cdv, ct, osl, e, _⟩ := T.Fi_TooShort.ex
  rw [e]
  match ws, h with
  | [w0], _ => exact .of_eq rfl
theorem G_init_UnknownName (T : Tx K mg) : FnOk P w K mg base CX0 1 T.fi_UnknownName T.fdi_UnknownName ["self", "name"] (spInit T.c_UnknownName ["name"] "UnknownName") := by
  refine T.Fi_UnknownName.ok sc_UnknownNameinit (fun vs H Q E h => ?_) (fun cdv A outer s H vs Q E hr h => ⟨_, (pss_cons (ps_xset (pv 0) pe_str) (pss_one (ps_xset (pv 0) (pv 1)))), ?_⟩)
  · obtain ⟨a, ws, rfl, hl, _⟩ := h
    rw [List.length_cons, hl]; rfl
  · obtain ⟨a, ws, rfl, hl, ha, q⟩ := h
    match ws, hl, q with
    | [w0], _, q =>
      exact init1 T.x_UnknownName.toXc ha (fun dx h1 h2 => q dx h1 h2) (T.no_UnknownName "code" (by decide)) (T.no_UnknownName "name" (by decide))
theorem B_init_UnknownName (T : Tx K mg) : Binds K T.fdi_UnknownName ["self", "name"] [] := T.Fi_UnknownName.binds fun _ _ _ _ _ _ us hl => match us, hl with | [_, _], _ => rfl
theorem KB_init_UnknownName (T : Tx K mg) (s : Shared) (v : Value) (ws : List Value) (h : ws.length = (["name"] : List Str).length) : BindsTo s T.fdi_UnknownName ⟨[v], (["name"] : List Str).zip ws⟩ ((["self", "name"] : List Str).zip (v :: ws.reverse)) := by
  obtain ⟨oc, od, kV, doc, pm, an, cdv, ct, osl, e, _⟩ := T.Fi_UnknownName.ex
  rw [e]
  match ws, h with
  | [w0], _ => exact .of_eq rfl
theorem G_init_UnknownEnd (T : Tx K mg) : FnOk P w K mg base CX0 1 T.fi_UnknownEnd T.fdi_UnknownEnd ["self", "end"] (spInit T.c_UnknownEnd ["end"] "UnknownEnd") := by
  refine T.Fi_UnknownEnd.ok sc_UnknownEndinit (fun vs H Q E h => ?_) (fun cdv A outer s H vs Q E hr h => ⟨_, (pss_cons (ps_xset (pv 0) pe_str) (pss_one (ps_xset (pv 0) (pv 1)))), ?_⟩)
  · obtain ⟨a, ws, rfl, hl, _⟩ := h
    rw [List.length_cons, hl]; rfl
  · obtain ⟨a, ws, rfl, hl, ha, q⟩ := h
    match ws, hl, q with
    | [w0], _, q =>
      exact init1 T.x_UnknownEnd.toXc ha (fun dx h1 h2 => q dx h1 h2) (T.no_UnknownEnd "code" (by decide)) (T.no_UnknownEnd "end" (by decide))
theorem B_init_UnknownEnd (T : Tx K mg) : Binds K T.fdi_UnknownEnd ["self", "end"] [] := T.Fi_UnknownEnd.binds fun _ _ _ _ _ _ us hl => match us, hl with | [_, _], _ => rfl
theorem KB_init_UnknownEnd (T : Tx K mg) (s : Shared) (v : Value) (ws : List Value) (h : ws.length = (["end"] : List Str).length) : BindsTo s T.fdi_UnknownEnd ⟨[v], (["end"] : List Str).zip ws⟩ ((["self", "end"] : List Str).zip (v :: ws.reverse)) := by
  obtain ⟨oc, od, kV, doc, pm, an, cdv, ct, osl, e, _⟩ := T.Fi_UnknownEnd.ex
  rw [e]
  match ws, h with
  | [w0], _ => exact .of_eq rfl
theorem G_init_UnknownEntry (T : Tx K mg) : FnOk P w K mg base CX0 1 T.fi_UnknownEntry T.fdi_UnknownEntry ["self", "entry"] (spInit T.c_UnknownEntry ["entry"] "UnknownEntry") := by
  refine T.Fi_UnknownEntry.ok sc_UnknownEntryinit (fun vs H Q E h => ?_) (fun cdv A outer s H vs Q E hr h => ⟨_, (pss_cons (ps_xset (pv 0) pe_str) (pss_one (ps_xset (pv 0) (pv 1)))), ?_⟩)
  · obtain ⟨a, ws, rfl, hl, _⟩ := h
    rw [List.length_cons, hl]; rfl
  · obtain ⟨a, ws, rfl, hl, ha, q⟩ := h
    match ws, hl, q with
    | [w0], _, q =>
      exact init1 T.x_UnknownEntry.toXc ha (fun dx h1 h2 => q dx h1 h2) (T.no_UnknownEntry "code" (by decide)) (T.no_UnknownEntry "entry" (by decide))
theorem B_init_UnknownEntry (T : Tx K mg) : Binds K T.fdi_UnknownEntry ["self", "entry"] [] := T.Fi_UnknownEntry.binds fun _ _ _ _ _ _ us hl => match us, hl with | [_, _], _ => rfl
theorem KB_init_UnknownEntry (T : Tx K mg) (s : Shared) (v : Value) (ws : List Value) (h : ws.length = (["entry"] : List Str).length) : BindsTo s T.fdi_UnknownEntry ⟨[v], (["entry"] : List Str).zip ws⟩ ((["self", "entry"] : List Str).zip (v :: ws.reverse)) := by
  obtain ⟨oc, od, kV, doc, pm, an, cdv, ct, osl, e, _⟩ := T.Fi_UnknownEntry.ex
  rw [e]
  match ws, h with
  | [w0], _ => exact .of_eq rfl
theorem G_init_NothingLeft (T : Tx K mg) : FnOk P w K mg base CX0 1 T.fi_NothingLeft T.fdi_NothingLeft ["self"] (spInit T.c_NothingLeft [] "NothingLeft") := by
  refine T.Fi_NothingLeft.ok sc_NothingLeftinit (fun vs H Q E h => ?_) (fun cdv A outer s H vs Q E hr h => ⟨_, (pss_one (ps_xset (pv 0) pe_str)), ?_⟩)
  · obtain ⟨a, ws, rfl, hl, _⟩ := h
    rw [List.length_cons, hl]; rfl
  · obtain ⟨a, ws, rfl, hl, ha, q⟩ := h
    match ws, hl, q with
    | [], _, q =>
      exact init0 T.x_NothingLeft.toXc ha (fun dx h1 h2 => q dx h1 h2) (T.no_NothingLeft "code" (by decide))
theorem B_init_NothingLeft (T : Tx K mg) : Binds K T.fdi_NothingLeft ["self"] [] := T.Fi_NothingLeft.binds fun _ _ _ _ _ _ us hl => match us, hl with | [_], _ => rfl
theorem KB_init_NothingLeft (T : Tx K mg) (s : Shared) (v : Value) (ws : List Value) (h : ws.length = ([] : List Str).length) : BindsTo s T.fdi_NothingLeft ⟨[v], ([] : List Str).zip ws⟩ ((["self"] : List Str).zip (v :: ws.reverse)) := by
  obtain ⟨oc, od, kV, doc, pm, an, cdv, ct, osl, e, _⟩ := T.Fi_NothingLeft.ex
  rw [e]
  match ws, h with
  | [], _ => exact .of_eq rfl
end
end K0
namespace K0
open PySem L2 Rg RZ PyProof.Rows
local macro_rules | `(tactic| walk_at "ev") => `(tactic| first
  | with_reducible assumption
  | ((with_reducible apply ev_var); exact rfl)
  | with_reducible exact ev_cint
  | with_reducible exact ev_cbl
  | with_reducible exact ev_cnon
  | with_reducible exact ev_cstr
  | with_reducible exact ev_craw
  | ((with_reducible apply ev_tup1); walk_at "ea"; exact Nat.le_of_ble_eq_true rfl)
  | ((with_reducible apply ev_lst1); walk_at "ea"; exact Nat.le_of_ble_eq_true rfl)
  | ((with_reducible apply ev_op1); walk_at "ev"; walk_at "ev"; walk_at "od")
  | ((with_reducible apply ev_un1); walk_at "ev"; exact ud_neg)
  | ((with_reducible apply ev_isSeq); walk_at "ev"; walk_at "ea"; exact rfl; exact rfl)
  | ((with_reducible apply ev_cb1); walk_at "ea"; walk_at "cd")
  | ((with_reducible apply ev_chainB); walk_at "ev"; walk_at "ev"; walk_at "od"; walk_at "ev"; walk_at "od")
  | ((with_reducible apply ev_andF); walk_at "ev"; exact rfl)
  | ((with_reducible apply ev_andT); walk_at "ev"; exact rfl; walk_at "ev")
  | ((with_reducible apply ev_andB); walk_at "ev"; intro _; walk_at "ev")
  | ((with_reducible apply ev_orT); walk_at "ev"; exact rfl)
  | ((with_reducible apply ev_orF); walk_at "ev"; exact rfl; walk_at "ev")
  | ((with_reducible apply ev_orB); walk_at "ev"; intro _; walk_at "ev")
  | ((with_reducible apply ev_notV); walk_at "ev"))
local macro_rules | `(tactic| walk_at "et") => `(tactic| first
  | ((with_reducible apply et_B); walk_at "ev")
  | ((with_reducible apply et_test); walk_at "ev")
  | ((with_reducible apply et_not); walk_at "et")
  | ((with_reducible apply et_orT); walk_at "et"; exact rfl)
  | ((with_reducible apply et_orF); walk_at "et"; exact rfl; walk_at "et")
  | ((with_reducible apply et_or); walk_at "et"; intro _; walk_at "et")
  | ((with_reducible apply et_andF); walk_at "et"; exact rfl)
  | ((with_reducible apply et_andT); walk_at "et"; exact rfl; walk_at "et")
  | ((with_reducible apply et_and); walk_at "et"; intro _; walk_at "et"))
local macro_rules | `(tactic| walk_at "ea") => `(tactic| first
  | with_reducible exact ea_nil
  | ((with_reducible apply ea1); walk_at "ev"; walk_at "ea"))
local macro_rules | `(tactic| walk_at "od") => `(tactic| first
  | with_reducible exact od_addI
  | with_reducible exact od_subI
  | ((with_reducible apply od_addS); (try simp only [PySem.Str.length_append]); omega)
  | ((with_reducible apply od_catL); exact Nat.le_of_ble_eq_true rfl)
  | ((with_reducible apply od_modI); first | decide | omega)
  | ((with_reducible apply od_mulI); first | (exact Or.inr ⟨by decide, by decide⟩) | (exact Or.inl ⟨by decide, by decide⟩) | (exact Or.inl ⟨by omega, by omega⟩) | (exact Or.inr ⟨by omega, by omega⟩))
  | ((with_reducible apply od_divI); first | (exact ⟨by decide, by decide⟩) | (exact ⟨by omega, by omega⟩))
  | ((with_reducible apply od_powI); exact ⟨by decide, by decide, by decide⟩)
  | with_reducible exact od_leI
  | with_reducible exact od_ltI
  | with_reducible exact od_gtI
  | with_reducible exact od_geI
  | with_reducible exact od_eqI
  | with_reducible exact od_eqB
  | with_reducible exact od_neB
  | with_reducible exact od_neI
  | with_reducible exact od_eqS
  | with_reducible exact od_inS
  | ((with_reducible apply od_none); exact rfl)
  | ((with_reducible apply od_ix); exact rfl))
local macro_rules | `(tactic| walk_at "cd") => `(tactic| first
  | ((with_reducible apply cd_isStr); exact rfl)
  | ((with_reducible apply cd_isInt); exact rfl)
  | ((with_reducible apply cd_isBool); exact rfl)
  | ((with_reducible apply cd_isList); exact rfl)
  | ((with_reducible apply cd_isTuple); exact rfl)
  | ((with_reducible apply cd_isi); assumption)
  | ((with_reducible apply cd_len); assumption)
  | ((with_reducible apply cd_len); exact rfl)
  | with_reducible exact cd_intI
  | with_reducible exact cd_listof
  | ((with_reducible apply cd_str); assumption)
  | with_reducible exact cd_all)
local macro_rules | `(tactic| walk_at "px") => `(tactic| first
  | ((with_reducible apply px_var); exact rfl)
  | with_reducible exact px_c
  | ((with_reducible apply px_op); walk_at "px"; walk_at "px"; walk_at "pr")
  | ((with_reducible apply px_cb); walk_at "pa"; walk_at "pr")
  | ((with_reducible apply px_test); walk_at "px")
  | ((with_reducible apply px_B); walk_at "px")
  | ((with_reducible apply px_and); walk_at "px"; walk_at "px"))
local macro_rules | `(tactic| walk_at "pa") => `(tactic| first
  | with_reducible exact px_nil
  | ((with_reducible apply px_cons); walk_at "px"; walk_at "pa"))
local macro_rules | `(tactic| walk_at "pr") => `(tactic| first
  | exact px_addI
  | (apply px_ix; assumption; exact rfl)
  | (apply px_ix; assumption; assumption)
  | exact px_eqI
  | exact fun Q q => ⟨_, _, rfl, rfl, q⟩
  | exact fun Q q => ⟨_, _, rfl, rfl, (Or.inr ⟨by decide, by decide⟩), q⟩
  | exact fun Q q => ⟨_, _, rfl, rfl, (Or.inl ⟨by omega, by omega⟩), q⟩
  | exact fun Q q => ⟨_, _, rfl, rfl, (Or.inr ⟨by omega, by omega⟩), q⟩
  | exact fun Q q => ⟨_, _, rfl, rfl, ⟨by decide, by decide⟩, q⟩
  | exact fun Q q => ⟨_, _, rfl, rfl, ⟨by omega, by omega⟩, q⟩
  | exact fun Q q => ⟨_, _, rfl, rfl, ⟨by decide, by decide, by decide⟩, q⟩
  | exact fun Q q => ⟨_, _, rfl, rfl, (by decide), q⟩
  | exact fun Q q => ⟨_, _, rfl, rfl, (by omega), q⟩
  | (apply px_len; assumption)
  | exact px_intI
  | exact px_abs)
local macro_rules | `(tactic| walk_at "fg") => `(tactic| repeat first | exact Fg.nil | apply Fg.keep | apply Fg.drop)
/-! ### _law_same -/
def okN : Nat → D → Bool
  | 0, _ => false
  | _ + 1, .obj _ _ _ => false
  | _ + 1, .exc _ _ _ => false
  | _ + 1, .cau _ _ _ _ _ => false
  | _ + 1, .raw _ => false
  | _ + 1, .seq _ => false
  | n + 1, .list xs => decide (xs.length ≤ 100000) && xs.all (okN n)
  | n + 1, .tup xs => decide (xs.length ≤ 100000) && xs.all (okN n)
  | _ + 1, _ => true
def allZ (f : D → D → Bool) (xs ys : List D) : Bool := (xs.zip ys).all fun p => f p.1 p.2
def sameN : Nat → D → D → Bool
  | 0, _, _ => false
  | _ + 1, .non, .non => true
  | _ + 1, .bl a, .bl b => decide (a = b)
  | _ + 1, .int a, .int b => decide (a = b)
  | _ + 1, .str a, .str b => decide (a = b)
  | n + 1, .list xs, .list ys => decide ((xs.length : Int) = ys.length) && allZ (sameN n) xs ys
  | n + 1, .tup xs, .tup ys => decide ((xs.length : Int) = ys.length) && allZ (sameN n) xs ys
  | _ + 1, _, _ => false
theorem allZ_refl {f : D → D → Bool} : ∀ {xs : List D}, (∀ x ∈ xs, f x x = true) → allZ f xs xs = true
  | [], _ => rfl
  | x :: r, h => by
    show (f x x && allZ f r r) = true
    rw [h x List.mem_cons_self, allZ_refl fun y hy => h y (List.mem_cons_of_mem _ hy)]
    rfl
theorem sameN_refl : ∀ (n : Nat) (d : D), okN n d = true → sameN n d d = true
  | 0, _, h => by cases h
  | n + 1, d, h => by
    cases d with
    | list xs =>
      have h2 : xs.all (okN n) = true := by simp only [okN, Bool.and_eq_true] at h; exact h.2
      simp only [sameN, decide_true, Bool.true_and]
      exact allZ_refl fun x hx => sameN_refl n x (List.all_eq_true.mp h2 x hx)
    | tup xs =>
      have h2 : xs.all (okN n) = true := by simp only [okN, Bool.and_eq_true] at h; exact h.2
      simp only [sameN, decide_true, Bool.true_and]
      exact allZ_refl fun x hx => sameN_refl n x (List.all_eq_true.mp h2 x hx)
    | obj _ _ _ => cases h
    | exc _ _ _ => cases h
    | cau _ _ _ _ _ => cases h
    | raw _ => cases h
    | seq _ => cases h
    | non => rfl
    | _ => simp [sameN]
section
variable {P : Program} {w : World} {K : PySem.W.Frag} {mg : Str → Option Value} {base : Heap}
def preSame (n : Nat) (_ : Ml) (as : List D) : Prop := ∃ a b, as = [a, b] ∧ okN n a = true ∧ okN n b = true
def postSame (n : Nat) (as : List D) (r : D) : Prop := ∀ a b, as = [a, b] → r = .bl (sameN n a b)
theorem fn_never {f : Addr} {fd : FuncData} {ps : List Str} {k : Nat} {pre : Ml → List D → Prop} {post : List D → D → Prop} (h : ∀ M as, ¬ pre M as) : FnOk P w K mg base CX0 k f fd ps (spF K pre post) :=
  ⟨fun vs H Q E ⟨M, _, as, _, _, hp, _⟩ => (h M as hp).elim, fun A outer s H args us vs Q E _ _ _ _ ⟨M, _, as, _, _, hp, _⟩ => (h M as hp).elim⟩
theorem ok_same (T : Tx K mg) : ∀ n, FnOk P w K mg base CX0 n T.f__law_same T.fd__law_same ["_law_found", "_law_due"] (spF K (preSame n) (postSame n))
  | 0 => fn_never fun M as ⟨a, b, _, h, _⟩ => by cases h
  | n + 1 => by
    have G_Lsame := ok_same T n
    have B_Lsame : Binds K T.fd__law_same ["_law_found", "_law_due"] [] := T.F__law_same.binds fun _ _ _ _ _ _ us hl => match us, hl with | [_, _], _ => rfl
    refine fn_run T.F__law_same sc_Lsame (fun M as ⟨a, b, e, _⟩ => by rw [e]; rfl) (fun cdv A outer s H E hr => ⟨_, (pss_cons (ps_if (PW.pt (pw_or (pt_cmpR op_isN (pv 1) pe_non (nomark _)) (pw_or1 (pt_cmpR op_isN (pv 0) pe_non (nomark _))))) (pss_one (ps_ret (pe_and (pe_cmpR op_isN (pv 1) pe_non (nomark _)) (pe_one (pe_cmpR op_isN (pv 0) pe_non (nomark _)))))) pss_nil)
  (pss_cons (ps_if (pt_val (pe_callB (q_isiT (K := K)) (by rfl) T.b_isinstance bt_isinstance (pa_cons (pv 1) (pa_cons (pe_tup (pa_cons (pe_ty bt_list T.b_list) (pa_cons (pe_ty bt_tuple T.b_tuple) pa_nil))) pa_nil)))) (pss_cons (ps_if (PW.pt (pw_or (pt_cmpR op_ne (pe_callB (q_isi (K := K)) (by rfl) T.b_isinstance bt_isinstance (pa_cons (pv 0) (pa_cons (pe_ty bt_list T.b_list) pa_nil))) (pe_callB (q_isi (K := K)) (by rfl) T.b_isinstance bt_isinstance (pa_cons (pv 1) (pa_cons (pe_ty bt_list T.b_list) pa_nil))) (nomark _)) (pw_or1 (pt_cmpR op_ne (pe_callB (q_isi (K := K)) (by rfl) T.b_isinstance bt_isinstance (pa_cons (pv 0) (pa_cons (pe_ty bt_tuple T.b_tuple) pa_nil))) (pe_callB (q_isi (K := K)) (by rfl) T.b_isinstance bt_isinstance (pa_cons (pv 1) (pa_cons (pe_ty bt_tuple T.b_tuple) pa_nil))) (nomark _))))) (pss_one (ps_ret pe_bl)) pss_nil)
    (pss_one (ps_ret (pe_and (pe_cmpR op_eq (pe_callB (q_len (K := K)) (by rfl) T.b_len bt_len (pa_cons (pv 0) pa_nil)) (pe_callB (q_len (K := K)) (by rfl) T.b_len bt_len (pa_cons (pv 1) pa_nil)) (nomark _)) (pe_one (pe_callB (q_all (K := K)) (by rfl) T.b_all bt_all (pa_cons (pe_lc (own := [("_law_low", 2), ("_law_high", 3)]) (g := (gTup K 2 (gCons (gName 2) (gCons (gName 3) gNil)))) (tt := tYes) (by rfl) sc_Lsame.nd (q_zip (K := K) T.b_zip (pa_cons (pv 0) (pa_cons (pv 1) pa_nil))) (blkOk_by (own := [("_law_low", 2), ("_law_high", 3)]) (N := n_Lsame) (sc := defScope s_Lsame) (by decide +kernel)) (fun _ _ _ _ _ => (q_tup (K := K) (n := 2) rfl (pgs_cons (pg_name (i := 2) sc_Lsame.nd rfl (Or.inl rfl)) (pgs_cons (pg_name (i := 3) sc_Lsame.nd rfl (Or.inl rfl)) pgs_nil)))) (fun _ _ _ _ _ => pts_nil) (fun _ _ _ _ _ => (pe_call G_Lsame hr (by rfl) T.m__law_same T.F__law_same.kp B_Lsame .nil pass0 (pa_cons (pv 2) (pa_cons (pv 3) pa_nil))))) pa_nil))))))) pss_nil)
  (pss_cons (ps_if (PW.pt (pw_or (pt_cmpR op_ne (pe_callB (q_isi (K := K)) (by rfl) T.b_isinstance bt_isinstance (pa_cons (pv 0) (pa_cons (pe_ty bt_bool T.b_bool) pa_nil))) (pe_callB (q_isi (K := K)) (by rfl) T.b_isinstance bt_isinstance (pa_cons (pv 1) (pa_cons (pe_ty bt_bool T.b_bool) pa_nil))) (nomark _)) (pw_or1 (pt_cmpR op_ne (pe_callB (q_isi (K := K)) (by rfl) T.b_isinstance bt_isinstance (pa_cons (pv 0) (pa_cons (pe_ty bt_int T.b_int) pa_nil))) (pe_callB (q_isi (K := K)) (by rfl) T.b_isinstance bt_isinstance (pa_cons (pv 1) (pa_cons (pe_ty bt_int T.b_int) pa_nil))) (nomark _))))) (pss_one (ps_ret pe_bl)) pss_nil)
  (pss_one (ps_ret (pe_and (pe_cmpR op_eq (pe_callB (q_isi (K := K)) (by rfl) T.b_isinstance bt_isinstance (pa_cons (pv 0) (pa_cons (pe_ty bt_str T.b_str) pa_nil))) (pe_callB (q_isi (K := K)) (by rfl) T.b_isinstance bt_isinstance (pa_cons (pv 1) (pa_cons (pe_ty bt_str T.b_str) pa_nil))) (nomark _)) (pe_one (pe_cmpR op_eq (pv 0) (pv 1) (nomark _))))))))), fun M as ⟨a, b, e, ha, hb⟩ => ?_⟩)
    subst e
    show Rg.Run K M [some a, some b, none, none] _ _
    have key : ∀ c : Bool, c = sameN (n + 1) a b → postSame (n + 1) [a, b] (.bl c) := fun c hc a' b' e => by cases e; rw [hc]
    have seq : ∀ xs ys : List D, ((a = .list xs ∧ b = .list ys) ∨ (a = .tup xs ∧ b = .tup ys)) → Ev K M [some a, some b, none, none]
        (tAndV (tOp rEq (tCB (fun xs H Q => ∃ x n, xs = [x] ∧ LenV K x H n ∧ Q (V.int (n : Nat)) H) (tCons (tVar 0) tNil)) (tCB (fun xs H Q => ∃ x n, xs = [x] ∧ LenV K x H n ∧ Q (V.int (n : Nat)) H) (tCons (tVar 1) tNil)))
          (tCB (rAll K) (tCons (tLc (iZipA K (tCons (tVar 0) (tCons (tVar 1) tNil))) (gTup K 2 (gCons (gName 2) (gCons (gName 3) gNil))) tYes (tCall (spF K (preSame n) (postSame n)) [] E0 (tCons (tVar 2) (tCons (tVar 3) tNil))) [2, 3]) tNil)))
        (· = .bl (decide ((xs.length : Int) = ys.length) && allZ (sameN n) xs ys)) := fun xs ys hxy => by
      have hx : okN (n + 1) (.list xs) = true := by rcases hxy with ⟨rfl, _⟩ | ⟨rfl, _⟩ <;> exact ha
      have hy : okN (n + 1) (.list ys) = true := by rcases hxy with ⟨_, rfl⟩ | ⟨_, rfl⟩ <;> exact hb
      simp only [okN, Bool.and_eq_true, decide_eq_true_eq] at hx hy
      refine ev_andB ?_ fun _ => ?_
      · rcases hxy with ⟨rfl, rfl⟩ | ⟨rfl, rfl⟩ <;> walk_at "ev"
      · have hz : zipD xs ys = (xs.zip ys).map fun p => D.tup [p.1, p.2] := rfl
        apply ev_cb1
        · apply ea1
          · refine ev_lcM (cs := xs.zip ys) (inj := fun p => D.tup [p.1, p.2]) (f := fun p => .bl (sameN n p.1 p.2)) (ei_zip (ea1 (ev_var rfl) (ea1 (ev_var rfl) ea_nil)) hxy) (by rw [List.length_zip]; omega) fun c hc => ?_
            refine eg_tup (egs_cons (egs_cons (egs_nil ?_)))
            refine (ev_call1 (ea1 (ev_var rfl) (ea1 (ev_var rfl) ea_nil)) fun _ _ => ⟨c.1, c.2, rfl, ?_, ?_⟩).weak fun r q => q c.1 c.2 rfl
            · exact List.all_eq_true.mp hx.2 _ (List.of_mem_zip hc).1
            · exact List.all_eq_true.mp hy.2 _ (List.of_mem_zip hc).2
          · exact ea_nil
        · rw [show ((xs.zip ys).map fun p => D.bl (sameN n p.1 p.2)) = ((xs.zip ys).map fun p => sameN n p.1 p.2).map D.bl by rw [List.map_map]; rfl,
            show allZ (sameN n) xs ys = ((xs.zip ys).map fun p => sameN n p.1 p.2).all id by rw [List.all_map]; rfl]
          exact cd_all
    cases b with
    | obj _ _ _ => cases hb
    | exc _ _ _ => cases hb
    | cau _ _ _ _ _ => cases hb
    | raw _ => cases hb
    | seq _ => cases hb
    | non =>
      cases a with
      | obj _ _ _ => cases ha
      | exc _ _ _ => cases ha
      | cau _ _ _ _ _ => cases ha
      | raw _ => cases ha
      | seq _ => cases ha
      | _ =>
        refine run_seq ?_
        apply run_ifT
        · walk_at "et"
        · rfl
        · apply run_ret1
          · walk_at "ev"
          · exact key _ rfl
    | list ys =>
      cases a with
      | obj _ _ _ => cases ha
      | exc _ _ _ => cases ha
      | cau _ _ _ _ _ => cases ha
      | raw _ => cases ha
      | seq _ => cases ha
      | non =>
        refine run_seq ?_
        apply run_ifT
        · walk_at "et"
        · rfl
        · apply run_ret1
          · walk_at "ev"
          · exact key _ rfl
      | list xs =>
        refine run_seq ?_
        apply run_ifF
        · walk_at "et"
        · rfl
        refine run_next (run_seq ?_)
        apply run_ifT
        · walk_at "et"
        · rfl
        refine run_seq ?_
        apply run_ifF
        · walk_at "et"
        · rfl
        exact run_next (run_ret1 (seq xs ys (.inl ⟨rfl, rfl⟩)) (key _ rfl))
      | _ =>
        refine run_seq ?_
        apply run_ifF
        · walk_at "et"
        · rfl
        refine run_next (run_seq ?_)
        apply run_ifT
        · walk_at "et"
        · rfl
        refine run_seq ?_
        apply run_ifT
        · walk_at "et"
        · rfl
        exact run_ret1 ev_cbl (key _ rfl)
    | tup ys =>
      cases a with
      | obj _ _ _ => cases ha
      | exc _ _ _ => cases ha
      | cau _ _ _ _ _ => cases ha
      | raw _ => cases ha
      | seq _ => cases ha
      | non =>
        refine run_seq ?_
        apply run_ifT
        · walk_at "et"
        · rfl
        · apply run_ret1
          · walk_at "ev"
          · exact key _ rfl
      | tup xs =>
        refine run_seq ?_
        apply run_ifF
        · walk_at "et"
        · rfl
        refine run_next (run_seq ?_)
        apply run_ifT
        · walk_at "et"
        · rfl
        refine run_seq ?_
        apply run_ifF
        · walk_at "et"
        · rfl
        exact run_next (run_ret1 (seq xs ys (.inr ⟨rfl, rfl⟩)) (key _ rfl))
      | _ =>
        refine run_seq ?_
        apply run_ifF
        · walk_at "et"
        · rfl
        refine run_next (run_seq ?_)
        apply run_ifT
        · walk_at "et"
        · rfl
        refine run_seq ?_
        apply run_ifT
        · walk_at "et"
        · rfl
        exact run_ret1 ev_cbl (key _ rfl)
    | _ =>
      cases a with
      | obj _ _ _ => cases ha
      | exc _ _ _ => cases ha
      | cau _ _ _ _ _ => cases ha
      | raw _ => cases ha
      | seq _ => cases ha
      | non =>
        refine run_seq ?_
        apply run_ifT
        · walk_at "et"
        · rfl
        · apply run_ret1
          · walk_at "ev"
          · exact key _ rfl
      | _ =>
        refine run_seq ?_
        apply run_ifF
        · walk_at "et"
        · rfl
        refine run_next (run_seq ?_)
        apply run_ifF
        · walk_at "et"
        · rfl
        refine run_next (run_seq ?_)
        first
        | (apply run_ifT
           · walk_at "et"
           · rfl
           exact run_ret1 ev_cbl (key _ rfl))
        | (apply run_ifF
           · walk_at "et"
           · rfl
           refine run_next ?_
           apply run_ret1
           · walk_at "ev"
           · exact key _ rfl)
end
end K0
namespace K0
open PySem L2 Rg RZ PyProof.Rows
local macro_rules | `(tactic| walk_at "ev") => `(tactic| first
  | with_reducible assumption
  | ((with_reducible apply ev_var); exact rfl)
  | with_reducible exact ev_cint
  | with_reducible exact ev_cbl
  | with_reducible exact ev_cnon
  | with_reducible exact ev_cstr
  | with_reducible exact ev_craw
  | ((with_reducible apply ev_tup1); walk_at "ea"; exact Nat.le_of_ble_eq_true rfl)
  | ((with_reducible apply ev_lst1); walk_at "ea"; exact Nat.le_of_ble_eq_true rfl)
  | ((with_reducible apply ev_op1); walk_at "ev"; walk_at "ev"; walk_at "od")
  | ((with_reducible apply ev_un1); walk_at "ev"; exact ud_neg)
  | ((with_reducible apply ev_isSeq); walk_at "ev"; walk_at "ea"; exact rfl; exact rfl)
  | ((with_reducible apply ev_cb1); walk_at "ea"; walk_at "cd")
  | ((with_reducible apply ev_chainB); walk_at "ev"; walk_at "ev"; walk_at "od"; walk_at "ev"; walk_at "od")
  | ((with_reducible apply ev_andF); walk_at "ev"; exact rfl)
  | ((with_reducible apply ev_andT); walk_at "ev"; exact rfl; walk_at "ev")
  | ((with_reducible apply ev_andB); walk_at "ev"; intro _; walk_at "ev")
  | ((with_reducible apply ev_orT); walk_at "ev"; exact rfl)
  | ((with_reducible apply ev_orF); walk_at "ev"; exact rfl; walk_at "ev")
  | ((with_reducible apply ev_orB); walk_at "ev"; intro _; walk_at "ev")
  | ((with_reducible apply ev_notV); walk_at "ev"))
local macro_rules | `(tactic| walk_at "et") => `(tactic| first
  | ((with_reducible apply et_B); walk_at "ev")
  | ((with_reducible apply et_test); walk_at "ev")
  | ((with_reducible apply et_not); walk_at "et")
  | ((with_reducible apply et_orT); walk_at "et"; exact rfl)
  | ((with_reducible apply et_orF); walk_at "et"; exact rfl; walk_at "et")
  | ((with_reducible apply et_or); walk_at "et"; intro _; walk_at "et")
  | ((with_reducible apply et_andF); walk_at "et"; exact rfl)
  | ((with_reducible apply et_andT); walk_at "et"; exact rfl; walk_at "et")
  | ((with_reducible apply et_and); walk_at "et"; intro _; walk_at "et"))
local macro_rules | `(tactic| walk_at "ea") => `(tactic| first
  | with_reducible exact ea_nil
  | ((with_reducible apply ea1); walk_at "ev"; walk_at "ea"))
local macro_rules | `(tactic| walk_at "od") => `(tactic| first
  | with_reducible exact od_addI
  | with_reducible exact od_subI
  | ((with_reducible apply od_addS); (try simp only [PySem.Str.length_append]); omega)
  | ((with_reducible apply od_catL); exact Nat.le_of_ble_eq_true rfl)
  | ((with_reducible apply od_modI); first | decide | omega)
  | ((with_reducible apply od_mulI); first | (exact Or.inr ⟨by decide, by decide⟩) | (exact Or.inl ⟨by decide, by decide⟩) | (exact Or.inl ⟨by omega, by omega⟩) | (exact Or.inr ⟨by omega, by omega⟩))
  | ((with_reducible apply od_divI); first | (exact ⟨by decide, by decide⟩) | (exact ⟨by omega, by omega⟩))
  | ((with_reducible apply od_powI); exact ⟨by decide, by decide, by decide⟩)
  | with_reducible exact od_leI
  | with_reducible exact od_ltI
  | with_reducible exact od_gtI
  | with_reducible exact od_geI
  | with_reducible exact od_eqI
  | with_reducible exact od_eqB
  | with_reducible exact od_neB
  | with_reducible exact od_neI
  | with_reducible exact od_eqS
  | with_reducible exact od_inS
  | ((with_reducible apply od_none); exact rfl)
  | ((with_reducible apply od_ix); exact rfl))
local macro_rules | `(tactic| walk_at "cd") => `(tactic| first
  | ((with_reducible apply cd_isStr); exact rfl)
  | ((with_reducible apply cd_isInt); exact rfl)
  | ((with_reducible apply cd_isBool); exact rfl)
  | ((with_reducible apply cd_isList); exact rfl)
  | ((with_reducible apply cd_isTuple); exact rfl)
  | ((with_reducible apply cd_isi); assumption)
  | ((with_reducible apply cd_len); assumption)
  | ((with_reducible apply cd_len); exact rfl)
  | with_reducible exact cd_intI
  | with_reducible exact cd_listof
  | ((with_reducible apply cd_str); assumption)
  | with_reducible exact cd_all)
local macro_rules | `(tactic| walk_at "px") => `(tactic| first
  | ((with_reducible apply px_var); exact rfl)
  | with_reducible exact px_c
  | ((with_reducible apply px_op); walk_at "px"; walk_at "px"; walk_at "pr")
  | ((with_reducible apply px_cb); walk_at "pa"; walk_at "pr")
  | ((with_reducible apply px_test); walk_at "px")
  | ((with_reducible apply px_B); walk_at "px")
  | ((with_reducible apply px_and); walk_at "px"; walk_at "px"))
local macro_rules | `(tactic| walk_at "pa") => `(tactic| first
  | with_reducible exact px_nil
  | ((with_reducible apply px_cons); walk_at "px"; walk_at "pa"))
local macro_rules | `(tactic| walk_at "pr") => `(tactic| first
  | exact px_addI
  | (apply px_ix; assumption; exact rfl)
  | (apply px_ix; assumption; assumption)
  | exact px_eqI
  | exact fun Q q => ⟨_, _, rfl, rfl, q⟩
  | exact fun Q q => ⟨_, _, rfl, rfl, (Or.inr ⟨by decide, by decide⟩), q⟩
  | exact fun Q q => ⟨_, _, rfl, rfl, (Or.inl ⟨by omega, by omega⟩), q⟩
  | exact fun Q q => ⟨_, _, rfl, rfl, (Or.inr ⟨by omega, by omega⟩), q⟩
  | exact fun Q q => ⟨_, _, rfl, rfl, ⟨by decide, by decide⟩, q⟩
  | exact fun Q q => ⟨_, _, rfl, rfl, ⟨by omega, by omega⟩, q⟩
  | exact fun Q q => ⟨_, _, rfl, rfl, ⟨by decide, by decide, by decide⟩, q⟩
  | exact fun Q q => ⟨_, _, rfl, rfl, (by decide), q⟩
  | exact fun Q q => ⟨_, _, rfl, rfl, (by omega), q⟩
  | (apply px_len; assumption)
  | exact px_intI
  | exact px_abs)
local macro_rules | `(tactic| walk_at "fg") => `(tactic| repeat first | exact Fg.nil | apply Fg.keep | apply Fg.drop)
section
variable {P : Program} {w : World} {K : PySem.W.Frag} {mg : Str → Option Value} {base : Heap}
theorem ok_draw (T : Tx K mg) : FnOk P w K mg base CX0 1 T.f__law_draw T.fd__law_draw ["_law_bag_here", "_law_many"] (spF K (preDraw K) postDraw) := by
  refine T.F__law_draw.ok sc_Ldraw (fun vs H Q E h => ?_) (fun cdv A outer s H vs Q E hr h => ?_)
  · obtain ⟨b, m, c, ns, i, r, mx, n, rfl, _⟩ := draw_of h
    rfl
  · obtain ⟨b, m, c, ns, i, r, mx, n, rfl, h0, h1, hb, hc, ne, hl, i0, r0, m0, m1, q⟩ := draw_of h
    refine ⟨_, (pss_cons (ps_asg (pe_op (q_add (K := K)) (pe_ix (q_ix (K := K)) (pv 0) pe_int (fun _ _ => rfl)) pe_int) (pg_sub (pv 0) pe_int set_list))
  (pss_cons (ps_if (PW.pt (pw_and (pt_cmpR op_eq (pe_ix (q_ix (K := K)) (pv 0) pe_int (fun _ _ => rfl)) pe_int (nomark _)) (pw_and1 (pt_cmpR op_lt (pe_ix (q_ix (K := K)) (pv 0) pe_int (fun _ _ => rfl)) (pe_callB (q_len (K := K)) (by rfl) T.b_len bt_len (pa_cons (pe_ix (q_ix (K := K)) (pv 0) pe_int (fun _ _ => rfl)) pa_nil)) (nomark _))))) (pss_cons (ps_set (i := 2) sc_Ldraw.nd rfl (Or.inl rfl) (pe_callB call_abs (by rfl) T.b_abs bt_abs (pa_cons (pe_ix (q_ix (K := K)) (pe_ix (q_ix (K := K)) (pv 0) pe_int (fun _ _ => rfl)) (pe_ix (q_ix (K := K)) (pv 0) pe_int (fun _ _ => rfl)) (fun _ _ => rfl)) pa_nil)))
    (pss_cons (ps_asg (pe_op (q_add (K := K)) (pe_ix (q_ix (K := K)) (pv 0) pe_int (fun _ _ => rfl)) pe_int) (pg_sub (pv 0) pe_int set_list))
    (pss_one (ps_if (pt_cmpR op_ge (pv 2) (pe_op op_pow pe_int pe_int) (nomark _)) (pss_one (ps_asg (pv 2) (pg_sub (pv 0) pe_int set_list))) (pss_one (ps_asg (pe_op op_modN (pe_callTy call_int1 (by rfl) T.b_int bt_int (pa_cons (pe_op (q_add (K := K)) (pe_op (q_add (K := K)) (pe_op op_mul (pe_ix (q_ix (K := K)) (pv 0) pe_int (fun _ _ => rfl)) pe_int) (pe_op op_mul (pe_op op_modN (pe_callTy call_int1 (by rfl) T.b_int bt_int (pa_cons (pv 2) pa_nil)) pe_int) pe_int)) pe_int) pa_nil)) pe_int) (pg_sub (pv 0) pe_int set_list))))))) pss_nil)
  (pss_cons (ps_if (pt_cmpR op_gt (pe_ix (q_ix (K := K)) (pv 0) pe_int (fun _ _ => rfl)) pe_int (nomark _)) (pss_cons (ps_set (i := 3) sc_Ldraw.nd rfl (Or.inl rfl) (pe_op op_modN (pe_callTy call_int1 (by rfl) T.b_int bt_int (pa_cons (pe_ix (q_ix (K := K)) (pv 0) pe_int (fun _ _ => rfl)) pa_nil)) (pv 1)))
    (pss_cons (ps_asg (pe_op op_fdivN (pe_ix (q_ix (K := K)) (pv 0) pe_int (fun _ _ => rfl)) (pv 1)) (pg_sub (pv 0) pe_int set_list))
    (pss_one (ps_ret (pv 3))))) pss_nil)
  (pss_cons (ps_set (i := 4) sc_Ldraw.nd rfl (Or.inl rfl) (pe_op op_modN (pe_callTy call_int1 (by rfl) T.b_int bt_int (pa_cons (pe_op (q_add (K := K)) (pe_op op_mul (pe_ix (q_ix (K := K)) (pv 0) pe_int (fun _ _ => rfl)) (pe_ix (q_ix (K := K)) (pv 0) pe_int (fun _ _ => rfl))) (pe_op op_mul (pe_ix (q_ix (K := K)) (pv 0) pe_int (fun _ _ => rfl)) pe_int)) pa_nil)) pe_int))
  (pss_cons (ps_asg (pe_op op_modN (pe_callTy call_int1 (by rfl) T.b_int bt_int (pa_cons (pe_op (q_add (K := K)) (pe_op (q_add (K := K)) (pe_op op_mul (pv 4) pe_int) (pe_op op_mul (pe_ix (q_ix (K := K)) (pv 0) pe_int (fun _ _ => rfl)) pe_int)) pe_int) pa_nil)) pe_int) (pg_sub (pv 0) pe_int set_list))
  (pss_one (ps_ret (pe_op op_modN (pe_callTy call_int1 (by rfl) T.b_int bt_int (pa_cons (pe_op (q_add (K := K)) (pe_op op_fdivN (pe_ix (q_ix (K := K)) (pv 0) pe_int (fun _ _ => rfl)) pe_int) (pe_op op_mul (pe_op op_modN (pe_callTy call_int1 (by rfl) T.b_int bt_int (pa_cons (pe_ix (q_ix (K := K)) (pv 0) pe_int (fun _ _ => rfl)) pa_nil)) pe_int) pe_int)) pa_nil)) (pv 1))))))))), ?_⟩
    rw [show L2.start n_Ldraw [V.ref b, V.int m] = [some (.ref b), some (.int m), none, none, none] from rfl]
    refine at_upd hb ?_
    have hb0 : upd H b (bagL c i r mx n) b = some (bagL c i r mx n) := upd_same
    refine st_bag (ys := [.ref c, .int i, .int r, .int mx, .int (n + 1)]) (v := .int (n + 1)) (k := 4) (j := 4) (by walk_at "px") (by walk_at "px") (by walk_at "px") rfl rfl ?_
    show tSeq ?fst ?rest ?Z _ _
    have tail : ∀ (x2 : Option V) (i r mx n : Int), 0 ≤ i → 0 ≤ r → 0 ≤ mx → mx < 2147483648 → ?rest ?Z [some (.ref b), some (.int m), x2, none, none] (upd H b (bagL c i r mx n)) := by
      intro x2 i r mx n i0 r0 m0 m1
      have hb1 : upd H b (bagL c i r mx n) b = some (bagL c i r mx n) := upd_same
      refine st_if (c := decide (0 < r)) (by walk_at "px") (fun e => ?_) (fun e => ?_)
      · have hr : 0 < r := of_decide_eq_true e
        refine st_set (v := .int (r.fmod m)) (by walk_at "px") ?_
        refine st_bag (ys := [.ref c, .int i, .int (r.fdiv m), .int mx, .int n]) (v := .int (r.fdiv m)) (k := 2) (j := 2) (by walk_at "px") (by walk_at "px") (by walk_at "px") rfl rfl ?_
        refine st_ret (v := .int (r.fmod m)) (by walk_at "px") ?_
        exact q _ i _ mx n (fmod_bd h0).1 (fmod_bd h0).2 i0 (fdiv_nn r0 h0) m0 m1
      · refine st_next ?_
        dsimp only
        refine st_setE (φ := fun _ => True) ⟨_, by walk_at "px", trivial⟩ fun sd _ => ?_
        refine st_bagE (k := 3) (j := 3) (φ := fun k => 0 ≤ k ∧ k < 2147483648) (f := fun k => [.ref c, .int i, .int r, .int k, .int n]) ⟨_, by walk_at "px", fmod_lt (by decide) (by decide)⟩ (by walk_at "px") (by walk_at "px") rfl (fun _ => rfl) fun mx2 hm => ?_
        have hm0 := hm.1
        have hm1 := hm.2
        have hb2 : upd H b (bagL c i r mx2 n) b = some (bagL c i r mx2 n) := upd_same
        refine st_retE (φ := fun k => 0 ≤ k ∧ k < m) ⟨_, by walk_at "px", fmod_lt h0 (Int.le_refl m)⟩ fun d hd => ?_
        exact q d i r mx2 n hd.1 hd.2 i0 r0 hm.1 hm.2
    have hb1 : upd H b (bagL c i r mx (n + 1)) b = some (bagL c i r mx (n + 1)) := upd_same
    have hc1 : upd H b (bagL c i r mx (n + 1)) c = some (HO.lst (List.map V.int ns)) := by rw [upd_ne ne]; exact hc
    refine st_if (c := decide (r = 0) && decide (i < (ns.length : Int))) ?_ (fun e => ?_) (fun e => ?_)
    · rw [show (ns.length : Int) = ((ns.map V.int).length : Nat) by rw [List.length_map]]
      walk_at "px"
    · have e2 : r = 0 ∧ i < (ns.length : Int) := by simpa using e
      have hi : (ns.map V.int)[i.toNat]? = some (.int (ns.getD i.toNat 0)) := by
        rw [List.getElem?_map, List.getElem?_eq_getElem (show i.toNat < ns.length by omega), List.getD_eq_getElem?_getD, List.getElem?_eq_getElem (show i.toNat < ns.length by omega)]
        rfl
      have ha : atI (ns.map V.int) i = some (.int (ns.getD i.toNat 0)) := by
        unfold atI ixN
        rw [List.length_map, if_pos i0, if_pos e2.2]
        exact hi
      generalize ns.getD i.toNat 0 = cell at ha
      refine st_setE (φ := fun k => 0 ≤ k) ⟨_, by walk_at "px", ?_⟩ fun ac hac => ?_
      · split <;> omega
      refine st_bag (ys := [.ref c, .int (i + 1), .int r, .int mx, .int (n + 1)]) (v := .int (i + 1)) (k := 1) (j := 1) (by walk_at "px") (by walk_at "px") (by walk_at "px") rfl rfl ?_
      have hb2 : upd H b (bagL c (i + 1) r mx (n + 1)) b = some (bagL c (i + 1) r mx (n + 1)) := upd_same
      refine st_if (c := decide ((10 : Int) ^ (18 : Int).toNat ≤ ac)) (by walk_at "px") (fun e => ?_) (fun e => ?_)
      · refine st_bagN (ys := [.ref c, .int (i + 1), .int ac, .int mx, .int (n + 1)]) (v := .int ac) (k := 2) (j := 2) (by walk_at "px") (by walk_at "px") (by walk_at "px") rfl rfl ?_
        exact tail _ (i + 1) ac mx (n + 1) (by omega) hac m0 m1
      · refine st_bagNE (k := 3) (j := 3) (φ := fun k => 0 ≤ k ∧ k < 2147483648) (f := fun k => [.ref c, .int (i + 1), .int r, .int k, .int (n + 1)]) ⟨_, by walk_at "px", fmod_lt (by decide) (by decide)⟩ (by walk_at "px") (by walk_at "px") rfl (fun _ => rfl) fun mx2 hm => ?_
        exact tail _ (i + 1) r mx2 (n + 1) (by omega) r0 hm.1 hm.2
    · exact tail none i r mx (n + 1) i0 r0 m0 m1
end
end K0
namespace K0
open PySem L2 Rg RZ PyProof.Rows
local macro_rules | `(tactic| walk_at "ev") => `(tactic| first
  | with_reducible assumption
  | ((with_reducible apply ev_var); exact rfl)
  | with_reducible exact ev_cint
  | with_reducible exact ev_cbl
  | with_reducible exact ev_cnon
  | with_reducible exact ev_cstr
  | with_reducible exact ev_craw
  | ((with_reducible apply ev_tup1); walk_at "ea"; exact Nat.le_of_ble_eq_true rfl)
  | ((with_reducible apply ev_lst1); walk_at "ea"; exact Nat.le_of_ble_eq_true rfl)
  | ((with_reducible apply ev_op1); walk_at "ev"; walk_at "ev"; walk_at "od")
  | ((with_reducible apply ev_un1); walk_at "ev"; exact ud_neg)
  | ((with_reducible apply ev_isSeq); walk_at "ev"; walk_at "ea"; exact rfl; exact rfl)
  | ((with_reducible apply ev_cb1); walk_at "ea"; walk_at "cd")
  | ((with_reducible apply ev_chainB); walk_at "ev"; walk_at "ev"; walk_at "od"; walk_at "ev"; walk_at "od")
  | ((with_reducible apply ev_andF); walk_at "ev"; exact rfl)
  | ((with_reducible apply ev_andT); walk_at "ev"; exact rfl; walk_at "ev")
  | ((with_reducible apply ev_andB); walk_at "ev"; intro _; walk_at "ev")
  | ((with_reducible apply ev_orT); walk_at "ev"; exact rfl)
  | ((with_reducible apply ev_orF); walk_at "ev"; exact rfl; walk_at "ev")
  | ((with_reducible apply ev_orB); walk_at "ev"; intro _; walk_at "ev")
  | ((with_reducible apply ev_notV); walk_at "ev"))
local macro_rules | `(tactic| walk_at "et") => `(tactic| first
  | ((with_reducible apply et_B); walk_at "ev")
  | ((with_reducible apply et_test); walk_at "ev")
  | ((with_reducible apply et_not); walk_at "et")
  | ((with_reducible apply et_orT); walk_at "et"; exact rfl)
  | ((with_reducible apply et_orF); walk_at "et"; exact rfl; walk_at "et")
  | ((with_reducible apply et_or); walk_at "et"; intro _; walk_at "et")
  | ((with_reducible apply et_andF); walk_at "et"; exact rfl)
  | ((with_reducible apply et_andT); walk_at "et"; exact rfl; walk_at "et")
  | ((with_reducible apply et_and); walk_at "et"; intro _; walk_at "et"))
local macro_rules | `(tactic| walk_at "ea") => `(tactic| first
  | with_reducible exact ea_nil
  | ((with_reducible apply ea1); walk_at "ev"; walk_at "ea"))
local macro_rules | `(tactic| walk_at "od") => `(tactic| first
  | with_reducible exact od_addI
  | with_reducible exact od_subI
  | ((with_reducible apply od_addS); (try simp only [PySem.Str.length_append]); omega)
  | ((with_reducible apply od_catL); exact Nat.le_of_ble_eq_true rfl)
  | ((with_reducible apply od_modI); first | decide | omega)
  | ((with_reducible apply od_mulI); first | (exact Or.inr ⟨by decide, by decide⟩) | (exact Or.inl ⟨by decide, by decide⟩) | (exact Or.inl ⟨by omega, by omega⟩) | (exact Or.inr ⟨by omega, by omega⟩))
  | ((with_reducible apply od_divI); first | (exact ⟨by decide, by decide⟩) | (exact ⟨by omega, by omega⟩))
  | ((with_reducible apply od_powI); exact ⟨by decide, by decide, by decide⟩)
  | with_reducible exact od_leI
  | with_reducible exact od_ltI
  | with_reducible exact od_gtI
  | with_reducible exact od_geI
  | with_reducible exact od_eqI
  | with_reducible exact od_eqB
  | with_reducible exact od_neB
  | with_reducible exact od_neI
  | with_reducible exact od_eqS
  | with_reducible exact od_inS
  | ((with_reducible apply od_none); exact rfl)
  | ((with_reducible apply od_ix); exact rfl))
local macro_rules | `(tactic| walk_at "cd") => `(tactic| first
  | ((with_reducible apply cd_isStr); exact rfl)
  | ((with_reducible apply cd_isInt); exact rfl)
  | ((with_reducible apply cd_isBool); exact rfl)
  | ((with_reducible apply cd_isList); exact rfl)
  | ((with_reducible apply cd_isTuple); exact rfl)
  | ((with_reducible apply cd_isi); assumption)
  | ((with_reducible apply cd_len); assumption)
  | ((with_reducible apply cd_len); exact rfl)
  | with_reducible exact cd_intI
  | with_reducible exact cd_listof
  | ((with_reducible apply cd_str); assumption)
  | with_reducible exact cd_all)
local macro_rules | `(tactic| walk_at "px") => `(tactic| first
  | ((with_reducible apply px_var); exact rfl)
  | with_reducible exact px_c
  | ((with_reducible apply px_op); walk_at "px"; walk_at "px"; walk_at "pr")
  | ((with_reducible apply px_cb); walk_at "pa"; walk_at "pr")
  | ((with_reducible apply px_test); walk_at "px")
  | ((with_reducible apply px_B); walk_at "px")
  | ((with_reducible apply px_and); walk_at "px"; walk_at "px"))
local macro_rules | `(tactic| walk_at "pa") => `(tactic| first
  | with_reducible exact px_nil
  | ((with_reducible apply px_cons); walk_at "px"; walk_at "pa"))
local macro_rules | `(tactic| walk_at "pr") => `(tactic| first
  | exact px_addI
  | (apply px_ix; assumption; exact rfl)
  | (apply px_ix; assumption; assumption)
  | exact px_eqI
  | exact fun Q q => ⟨_, _, rfl, rfl, q⟩
  | exact fun Q q => ⟨_, _, rfl, rfl, (Or.inr ⟨by decide, by decide⟩), q⟩
  | exact fun Q q => ⟨_, _, rfl, rfl, (Or.inl ⟨by omega, by omega⟩), q⟩
  | exact fun Q q => ⟨_, _, rfl, rfl, (Or.inr ⟨by omega, by omega⟩), q⟩
  | exact fun Q q => ⟨_, _, rfl, rfl, ⟨by decide, by decide⟩, q⟩
  | exact fun Q q => ⟨_, _, rfl, rfl, ⟨by omega, by omega⟩, q⟩
  | exact fun Q q => ⟨_, _, rfl, rfl, ⟨by decide, by decide, by decide⟩, q⟩
  | exact fun Q q => ⟨_, _, rfl, rfl, (by decide), q⟩
  | exact fun Q q => ⟨_, _, rfl, rfl, (by omega), q⟩
  | (apply px_len; assumption)
  | exact px_intI
  | exact px_abs)
local macro_rules | `(tactic| walk_at "fg") => `(tactic| repeat first | exact Fg.nil | apply Fg.keep | apply Fg.drop)
def spBag (K : PySem.W.Frag) : Sp := fun vs H Q _ => ∃ (a : Addr) (ns : List Int), vs = [.ref a] ∧ SqL K H a (ns.map V.int) ∧ ns.length ≤ 63 ∧ ∀ b G' H', Wd0 [(b, IsBag K)] G' H' → Q (.ref b) H'
/-- what stands for ever may change again, where nothing else is told -/
theorem thaw {G H : Hp} {p : Addr} {o : HO} {φ : Hp → HO → Prop} (w : Wd0 [] G H) (e : G p = some o) (f : φ (fun a => if a = p then none else G a) o) (mo : ∀ G1 G2 o, Same G1 G2 → φ G1 o → φ G2 o)   : Wd0 [(p, φ)] (fun a => if a = p then none else G a) H := by
  refine ⟨fun a u h => ?_, fun m hm => ?_, fun m hm => ?_, by simp⟩
  · replace h : (if a = p then none else G a) = some u := h
    split at h
    · cases h
    · exact w.sub a u h
  · simp only [List.mem_singleton] at hm
    subst hm
    exact ⟨if_pos rfl, o, w.sub _ _ e, f⟩
  · simp only [List.mem_singleton] at hm
    subst hm
    exact mo
theorem RpAll.ints_of {K : PySem.W.Frag} {G : Hp} {vs : List V} : ∀ {ds : List D} {ns : List Int}, RpAll K G vs ds → ds = ns.map D.int → vs = ns.map V.int := fun r e => by subst e; exact r.int_inv
theorem cutD_ints (ns : List Int) (h : ns.length ≤ 63) : Rg.cutD (ns.map D.int) none (some 63) = ns.map D.int := by
  unfold Rg.cutD
  rw [HT.sIx_none, List.drop_zero, List.length_map]
  apply List.take_of_length_le
  rw [List.length_map]
  have : HT.sIx ns.length ns.length (some 63) = min 63 ns.length := HT.sIx_nat ns.length ns.length 63
  omega
section
variable {P : Program} {w : World} {K : PySem.W.Frag} {mg : Str → Option Value} {base : Heap}
theorem ok_bag (T : Tx K mg) : FnOk P w K mg base CX0 1 T.f__law_bag T.fd__law_bag ["_law_script"] (spBag K) := by
  refine T.F__law_bag.ok sc_Lbag (fun vs H Q E h => ?_) (fun cdv A outer s H vs Q E hr h => ?_)
  · obtain ⟨a, ns, rfl, _⟩ := h
    rfl
  · obtain ⟨a, ns, rfl, hS, hl, q⟩ := h
    refine ⟨_, (pss_cons (ps_set (i := 1) sc_Lbag.nd rfl (Or.inl rfl) pe_int)
  (pss_cons (ps_for PassesOwn.never rfl (q_itany (K := K) (pe_slice (q_sl (K := K)) (pv 0) po_none (po_some pe_int))) (pg_name (i := 2) sc_Lbag.nd rfl (Or.inl rfl))
    (pss_one (ps_set (i := 1) sc_Lbag.nd rfl (Or.inl rfl) (pe_op op_modN (pe_callTy call_int1 (by rfl) T.b_int bt_int (pa_cons (pe_op (q_add (K := K)) (pe_op (q_add (K := K)) (pe_op op_mul (pv 1) pe_int) (pe_op op_mul (pe_op op_modN (pe_callTy call_int1 (by rfl) T.b_int bt_int (pa_cons (pv 2) pa_nil)) pe_int) pe_int)) pe_int) pa_nil)) pe_int))))
  (pss_one (ps_ret (pe_lst (pa_cons (pe_callTy (q_listof (K := K)) (by rfl) T.b_list bt_list (pa_cons (pe_slice (q_sl (K := K)) (pv 0) po_none (po_some pe_int)) pa_nil)) (pa_cons pe_int (pa_cons pe_int (pa_cons (pv 1) (pa_cons pe_int pa_nil)))))))))), ?_⟩
    rw [show L2.start n_Lbag [V.ref a] = [some (.ref a), none, none] from rfl]
    have sg : Sg K H [some (.ref a), none, none] [some (.seq (ns.map D.int)), none, none] := ⟨rfl, fun i d e => by
      match i, e with
      | 0, e => cases e; exact ⟨.ref a, rfl, .seq hS (RpAll.ints ns)⟩
      | 1, e => cases e
      | 2, e => cases e⟩
    have wd : Wd m0 H H := ⟨⟨Same.refl H, fun p hp => (by cases hp), fun p hp => (by cases hp), by simp⟩, fun _ _ _ _ _ z => z.elim⟩
    refine run_at (K := K) (E := { nx := fun _ => False, rt := fun d => ∃ m : Int, 0 ≤ m ∧ m < 2147483648 ∧ d = .list [.list (ns.map D.int), .int 0, .int 0, .int m, .int 0] }) ?_ sg wd ⟨fun _ _ _ _ e => e.elim, fun v d G' H' ⟨m, m0, m1, e⟩ s' r' w' => ?_, fun _ _ _ _ e => e.elim, fun _ _ _ _ e => e.elim⟩
    · have hcut : ∀ ds : DS, ds[0]? = some (some (.seq (ns.map D.int))) → Ev K m0 ds (tSl (rSlU K) (tVar 0) tNoPart (tPart (tC (V.int 63)))) (· = .list (ns.map D.int)) := fun ds h => by
        have e2 := ev_slQ (K := K) (M := m0) (ev_var h) eo_none (eo_some (i := 63) ev_cint)
        rw [cutD_ints ns hl] at e2
        exact e2
      refine run_asg1 ev_cint ?_
      refine run_seq (run_for (ei_any (hcut _ rfl) rfl) fun es he => ?_)
      subst he
      refine ⟨fun _ ds => ∃ (m : Int) (x : Option D), 0 ≤ m ∧ m < 2147483648 ∧ ds = [some (.seq (ns.map D.int)), some (.int m), x], ⟨_, none, by decide, by decide, rfl⟩, fun i d ds' hd ⟨m, x, m0, m1, e⟩ => ?_, fun ds' ⟨m, x, m0, m1, e⟩ => ?_⟩
      · subst e
        rw [List.getElem?_map] at hd
        cases hn : ns[i]? with
        | none => rw [hn] at hd; cases hd
        | some n =>
          rw [hn] at hd
          cases hd
          refine eg_name ?_
          refine run_asgN (ev_intP (φ := fun k => 0 ≤ k ∧ k < 2147483648) ⟨_, by walk_at "ev", fmod_lt (by decide) (by decide)⟩) fun d ⟨m', hm, e⟩ => ⟨m', some (.int n), hm.1, hm.2, by rw [e]; rfl⟩
      · subst e
        have hc := hcut [some (.seq (ns.map D.int)), some (.int m), x] rfl
        apply run_ret1
        · walk_at "ev"
        · exact ⟨m, m0, m1, rfl⟩
    · subst e
      obtain ⟨b, us, rfl, hb, ru⟩ := r'.list_ex
      cases ru with
      | cons p1 ru =>
        cases ru with
        | cons p2 ru =>
          cases ru with
          | cons p3 ru =>
            cases ru with
            | cons p4 ru =>
              cases ru with
              | cons p5 ru =>
                cases ru
                cases p2; cases p3; cases p4; cases p5
                obtain ⟨c, ws, rfl, hc, rc⟩ := p1.list_ex
                have ew := rc.int_inv
                subst ew
                refine q b _ H' (thaw w'.toWd0 hb ⟨c, ns, 0, 0, m, 0, rfl, ?_, hl, Int.le_refl 0, Int.le_refl 0, m0, m1⟩ IsBag.mono)
                have ne : c ≠ b := fun e => by
                  rw [e, hb] at hc
                  cases ns <;> cases hc
                exact (if_neg ne).trans hc
theorem B_draw (T : Tx K mg) : Binds K T.fd__law_draw ["_law_bag_here", "_law_many"] [] := T.F__law_draw.binds fun _ _ _ _ _ _ us hl => match us, hl with | [_, _], _ => rfl
theorem ok_of (T : Tx K mg) : FnOk P w K mg base CX0 2 T.f__law_of T.fd__law_of ["_law_bag_here", "_law_some"] (spF K (preOf K) postOf) := by
  have G_Ldraw := ok_draw (P := P) (w := w) (base := base) T
  have B_Ldraw := B_draw T
  refine fn_run T.F__law_of sc_Lof (fun M as ⟨_, _, _, e, _⟩ => by rw [e]; rfl) (fun cdv A outer s H E hr => ⟨_, (pss_one (ps_ret (pe_ix (q_ix (K := K)) (pv 1) (pe_call G_Ldraw (hr.mono (by decide)) (by rfl) T.m__law_draw T.F__law_draw.kp B_Ldraw .nil pass0 (pa_cons (pv 0) (pa_cons (pe_callB (q_len (K := K)) (by rfl) T.b_len bt_len (pa_cons (pv 1) pa_nil)) pa_nil))) (fun _ _ => rfl)))), fun M as ⟨b, d, es, e, hm, h, hl, hq, h0, h1⟩ => ?_⟩)
  subst e
  exact run_of_body hm h hl hq h0 h1 fun e he b' d' es' e1 e2 => by
    cases e1
    rw [h] at e2
    cases e2
    exact he
end
end K0
namespace K0
open PySem L2 Rg RZ PyProof.Rows
local macro_rules | `(tactic| walk_at "ev") => `(tactic| first
  | with_reducible assumption
  | ((with_reducible apply ev_var); exact rfl)
  | with_reducible exact ev_cint
  | with_reducible exact ev_cbl
  | with_reducible exact ev_cnon
  | with_reducible exact ev_cstr
  | with_reducible exact ev_craw
  | ((with_reducible apply ev_tup1); walk_at "ea"; exact Nat.le_of_ble_eq_true rfl)
  | ((with_reducible apply ev_lst1); walk_at "ea"; exact Nat.le_of_ble_eq_true rfl)
  | ((with_reducible apply ev_op1); walk_at "ev"; walk_at "ev"; walk_at "od")
  | ((with_reducible apply ev_un1); walk_at "ev"; exact ud_neg)
  | ((with_reducible apply ev_isSeq); walk_at "ev"; walk_at "ea"; exact rfl; exact rfl)
  | ((with_reducible apply ev_cb1); walk_at "ea"; walk_at "cd")
  | ((with_reducible apply ev_chainB); walk_at "ev"; walk_at "ev"; walk_at "od"; walk_at "ev"; walk_at "od")
  | ((with_reducible apply ev_andF); walk_at "ev"; exact rfl)
  | ((with_reducible apply ev_andT); walk_at "ev"; exact rfl; walk_at "ev")
  | ((with_reducible apply ev_andB); walk_at "ev"; intro _; walk_at "ev")
  | ((with_reducible apply ev_orT); walk_at "ev"; exact rfl)
  | ((with_reducible apply ev_orF); walk_at "ev"; exact rfl; walk_at "ev")
  | ((with_reducible apply ev_orB); walk_at "ev"; intro _; walk_at "ev")
  | ((with_reducible apply ev_notV); walk_at "ev"))
local macro_rules | `(tactic| walk_at "et") => `(tactic| first
  | ((with_reducible apply et_B); walk_at "ev")
  | ((with_reducible apply et_test); walk_at "ev")
  | ((with_reducible apply et_not); walk_at "et")
  | ((with_reducible apply et_orT); walk_at "et"; exact rfl)
  | ((with_reducible apply et_orF); walk_at "et"; exact rfl; walk_at "et")
  | ((with_reducible apply et_or); walk_at "et"; intro _; walk_at "et")
  | ((with_reducible apply et_andF); walk_at "et"; exact rfl)
  | ((with_reducible apply et_andT); walk_at "et"; exact rfl; walk_at "et")
  | ((with_reducible apply et_and); walk_at "et"; intro _; walk_at "et"))
local macro_rules | `(tactic| walk_at "ea") => `(tactic| first
  | with_reducible exact ea_nil
  | ((with_reducible apply ea1); walk_at "ev"; walk_at "ea"))
local macro_rules | `(tactic| walk_at "od") => `(tactic| first
  | with_reducible exact od_addI
  | with_reducible exact od_subI
  | ((with_reducible apply od_addS); (try simp only [PySem.Str.length_append]); omega)
  | ((with_reducible apply od_catL); exact Nat.le_of_ble_eq_true rfl)
  | ((with_reducible apply od_modI); first | decide | omega)
  | ((with_reducible apply od_mulI); first | (exact Or.inr ⟨by decide, by decide⟩) | (exact Or.inl ⟨by decide, by decide⟩) | (exact Or.inl ⟨by omega, by omega⟩) | (exact Or.inr ⟨by omega, by omega⟩))
  | ((with_reducible apply od_divI); first | (exact ⟨by decide, by decide⟩) | (exact ⟨by omega, by omega⟩))
  | ((with_reducible apply od_powI); exact ⟨by decide, by decide, by decide⟩)
  | with_reducible exact od_leI
  | with_reducible exact od_ltI
  | with_reducible exact od_gtI
  | with_reducible exact od_geI
  | with_reducible exact od_eqI
  | with_reducible exact od_eqB
  | with_reducible exact od_neB
  | with_reducible exact od_neI
  | with_reducible exact od_eqS
  | with_reducible exact od_inS
  | ((with_reducible apply od_none); exact rfl)
  | ((with_reducible apply od_ix); exact rfl))
local macro_rules | `(tactic| walk_at "cd") => `(tactic| first
  | ((with_reducible apply cd_isStr); exact rfl)
  | ((with_reducible apply cd_isInt); exact rfl)
  | ((with_reducible apply cd_isBool); exact rfl)
  | ((with_reducible apply cd_isList); exact rfl)
  | ((with_reducible apply cd_isTuple); exact rfl)
  | ((with_reducible apply cd_isi); assumption)
  | ((with_reducible apply cd_len); assumption)
  | ((with_reducible apply cd_len); exact rfl)
  | with_reducible exact cd_intI
  | with_reducible exact cd_listof
  | ((with_reducible apply cd_str); assumption)
  | with_reducible exact cd_all)
local macro_rules | `(tactic| walk_at "px") => `(tactic| first
  | ((with_reducible apply px_var); exact rfl)
  | with_reducible exact px_c
  | ((with_reducible apply px_op); walk_at "px"; walk_at "px"; walk_at "pr")
  | ((with_reducible apply px_cb); walk_at "pa"; walk_at "pr")
  | ((with_reducible apply px_test); walk_at "px")
  | ((with_reducible apply px_B); walk_at "px")
  | ((with_reducible apply px_and); walk_at "px"; walk_at "px"))
local macro_rules | `(tactic| walk_at "pa") => `(tactic| first
  | with_reducible exact px_nil
  | ((with_reducible apply px_cons); walk_at "px"; walk_at "pa"))
local macro_rules | `(tactic| walk_at "pr") => `(tactic| first
  | exact px_addI
  | (apply px_ix; assumption; exact rfl)
  | (apply px_ix; assumption; assumption)
  | exact px_eqI
  | exact fun Q q => ⟨_, _, rfl, rfl, q⟩
  | exact fun Q q => ⟨_, _, rfl, rfl, (Or.inr ⟨by decide, by decide⟩), q⟩
  | exact fun Q q => ⟨_, _, rfl, rfl, (Or.inl ⟨by omega, by omega⟩), q⟩
  | exact fun Q q => ⟨_, _, rfl, rfl, (Or.inr ⟨by omega, by omega⟩), q⟩
  | exact fun Q q => ⟨_, _, rfl, rfl, ⟨by decide, by decide⟩, q⟩
  | exact fun Q q => ⟨_, _, rfl, rfl, ⟨by omega, by omega⟩, q⟩
  | exact fun Q q => ⟨_, _, rfl, rfl, ⟨by decide, by decide, by decide⟩, q⟩
  | exact fun Q q => ⟨_, _, rfl, rfl, (by decide), q⟩
  | exact fun Q q => ⟨_, _, rfl, rfl, (by omega), q⟩
  | (apply px_len; assumption)
  | exact px_intI
  | exact px_abs)
local macro_rules | `(tactic| walk_at "fg") => `(tactic| repeat first | exact Fg.nil | apply Fg.keep | apply Fg.drop)
local macro_rules | `(tactic| walk_at "ev") => `(tactic| ((with_reducible apply ev_xmk); walk_at "ea"; exact rfl; exact Nat.le_of_ble_eq_true rfl))
local macro_rules | `(tactic| walk_at "ev") => `(tactic| ((with_reducible apply ev_xmkK); walk_at "ea"; exact rfl; exact rfl))
def nmL : List (List Str) := ([["value"], ["value"], ["value"], ["value"], ["value"], ["value"], ["value"], ["value"], ["value"], ["value"], ["value"], ["value"], ["at"], ["at"], ["at"], ["at"], ["line"], ["name"], ["name"], ["end"]] : List (List Str)) ++ ([["end"], ["subject", "most"], ["train", "step"], ["train", "step", "element"], ["train", "element", "holder"], ["train", "other"], ["train"], ["train"], ["train", "step"], [], [], ["train", "step", "element"], [], ["period"], ["name"], ["end"], ["entry"], []] : List (List Str))
def cdL : List Str := (["InvalidName", "InvalidNumber", "InvalidSection", "InvalidTimes", "InvalidStep", "InvalidStanding", "InvalidRow", "InvalidTable", "InvalidDelays", "InvalidPeriod", "InvalidHeights", "InvalidDeed", "InvalidTurn", "InvalidWait", "InvalidWish", "InvalidJourney", "InvalidText", "DuplicateName", "InUse", "TakenEnd"] : List Str) ++ (["LooseEnd", "TooMany", "MisplacedStep", "OwnRing", "Refused", "Lacking", "Unready", "Finished", "Barred", "NoDay", "Doomed", "NeverCleared", "NoPeriod", "TooShort", "UnknownName", "UnknownEnd", "UnknownEntry", "NothingLeft"] : List Str)
section
variable {P : Program} {w : World} {K : PySem.W.Frag} {mg : Str → Option Value} {base : Heap}
def cl (T : Tx K mg) : List Addr := [T.c_InvalidName, T.c_InvalidNumber, T.c_InvalidSection, T.c_InvalidTimes, T.c_InvalidStep, T.c_InvalidStanding, T.c_InvalidRow, T.c_InvalidTable, T.c_InvalidDelays, T.c_InvalidPeriod, T.c_InvalidHeights, T.c_InvalidDeed, T.c_InvalidTurn, T.c_InvalidWait, T.c_InvalidWish, T.c_InvalidJourney, T.c_InvalidText, T.c_DuplicateName, T.c_InUse, T.c_TakenEnd, T.c_LooseEnd, T.c_TooMany, T.c_MisplacedStep, T.c_OwnRing, T.c_Refused, T.c_Lacking, T.c_Unready, T.c_Finished, T.c_Barred, T.c_NoDay, T.c_Doomed, T.c_NeverCleared, T.c_NoPeriod, T.c_TooShort, T.c_UnknownName, T.c_UnknownEnd, T.c_UnknownEntry, T.c_NothingLeft]
abbrev wid (k : Nat) : Nat := (nmL.getD k []).length
def errK (T : Tx K mg) (a b c : D) (k : Nat) : D := excD ((cl T).getD k 0) (nmL.getD k []) (cdL.getD k "") ([a, b, c].take (wid k))
def rows (T : Tx K mg) (a b c : D) : List D := (List.range 38).map (errK T a b c)
theorem x_of (T : Tx K mg) : ∀ k : Nat, k < 38 → Xg K ((cl T).getD k 0)
  | 0, _ => T.x_InvalidName
  | 1, _ => T.x_InvalidNumber
  | 2, _ => T.x_InvalidSection
  | 3, _ => T.x_InvalidTimes
  | 4, _ => T.x_InvalidStep
  | 5, _ => T.x_InvalidStanding
  | 6, _ => T.x_InvalidRow
  | 7, _ => T.x_InvalidTable
  | 8, _ => T.x_InvalidDelays
  | 9, _ => T.x_InvalidPeriod
  | 10, _ => T.x_InvalidHeights
  | 11, _ => T.x_InvalidDeed
  | 12, _ => T.x_InvalidTurn
  | 13, _ => T.x_InvalidWait
  | 14, _ => T.x_InvalidWish
  | 15, _ => T.x_InvalidJourney
  | 16, _ => T.x_InvalidText
  | 17, _ => T.x_DuplicateName
  | 18, _ => T.x_InUse
  | 19, _ => T.x_TakenEnd
  | 20, _ => T.x_LooseEnd
  | 21, _ => T.x_TooMany
  | 22, _ => T.x_MisplacedStep
  | 23, _ => T.x_OwnRing
  | 24, _ => T.x_Refused
  | 25, _ => T.x_Lacking
  | 26, _ => T.x_Unready
  | 27, _ => T.x_Finished
  | 28, _ => T.x_Barred
  | 29, _ => T.x_NoDay
  | 30, _ => T.x_Doomed
  | 31, _ => T.x_NeverCleared
  | 32, _ => T.x_NoPeriod
  | 33, _ => T.x_TooShort
  | 34, _ => T.x_UnknownName
  | 35, _ => T.x_UnknownEnd
  | 36, _ => T.x_UnknownEntry
  | 37, _ => T.x_NothingLeft
  | n + 38, h => absurd h (by omega)
theorem no_of (T : Tx K mg) : ∀ k : Nat, k < 38 → ∀ f ∈ (("code" : Str) :: nmL.getD k []), PySem.W.findIn K (.ref ((cl T).getD k 0)) f = some none
  | 0, _ => T.no_InvalidName
  | 1, _ => T.no_InvalidNumber
  | 2, _ => T.no_InvalidSection
  | 3, _ => T.no_InvalidTimes
  | 4, _ => T.no_InvalidStep
  | 5, _ => T.no_InvalidStanding
  | 6, _ => T.no_InvalidRow
  | 7, _ => T.no_InvalidTable
  | 8, _ => T.no_InvalidDelays
  | 9, _ => T.no_InvalidPeriod
  | 10, _ => T.no_InvalidHeights
  | 11, _ => T.no_InvalidDeed
  | 12, _ => T.no_InvalidTurn
  | 13, _ => T.no_InvalidWait
  | 14, _ => T.no_InvalidWish
  | 15, _ => T.no_InvalidJourney
  | 16, _ => T.no_InvalidText
  | 17, _ => T.no_DuplicateName
  | 18, _ => T.no_InUse
  | 19, _ => T.no_TakenEnd
  | 20, _ => T.no_LooseEnd
  | 21, _ => T.no_TooMany
  | 22, _ => T.no_MisplacedStep
  | 23, _ => T.no_OwnRing
  | 24, _ => T.no_Refused
  | 25, _ => T.no_Lacking
  | 26, _ => T.no_Unready
  | 27, _ => T.no_Finished
  | 28, _ => T.no_Barred
  | 29, _ => T.no_NoDay
  | 30, _ => T.no_Doomed
  | 31, _ => T.no_NeverCleared
  | 32, _ => T.no_NoPeriod
  | 33, _ => T.no_TooShort
  | 34, _ => T.no_UnknownName
  | 35, _ => T.no_UnknownEnd
  | 36, _ => T.no_UnknownEntry
  | 37, _ => T.no_NothingLeft
  | n + 38, h => absurd h (by omega)
theorem ev_is (T : Tx K mg) {a b c : D} {k : Nat} (hk : k < 38) (j : Nat) (hj : j < 38) {M : Mt} {ds : DS} {te : TE} (he : Ev K M ds te (· = errK T a b c k)) : Ev K M ds (tCB (rOrC (rIsi K) (rIsX K)) (tCons te (tCons (tC (.ref ((cl T).getD j 0))) tNil))) (· = .bl (decide (j = k))) :=
  ev_cb1 (ea1 he (ea1 ev_craw ea_nil)) (cd_isX (x_of T k hk) (.own _) (T.kit k hk j hj))
theorem ev_code (T : Tx K mg) {a b c : D} {k : Nat} (hk : k < 38) {M : Mt} {ds : DS} {te : TE} (he : Ev K M ds te (· = errK T a b c k)) : Ev K M ds (tXget K "code" te) (· = .str (cdL.getD k "")) := by
  refine ev_xget he (x_of T k hk) (no_of T k hk _ List.mem_cons_self) ?_
  have key : ∀ (ns : List Str) (vs : List D) (x : Str), ns.length = vs.length → (∀ n ∈ ns, ("code" : Str) ≠ n) → fldD (ns ++ [("code" : Str)]) (vs ++ [.str x]) "code" = some (.str x) := by
    intro ns
    induction ns with
    | nil => intro vs x h _; cases vs with | nil => rfl | cons _ _ => cases h
    | cons n ns ih =>
      intro vs x h hn
      cases vs with
      | nil => cases h
      | cons v vs =>
        show (if ("code" : Str) = n then some v else fldD (ns ++ [("code" : Str)]) (vs ++ [.str x]) "code") = some (.str x)
        rw [if_neg (hn n List.mem_cons_self)]
        exact ih vs x (Nat.succ.inj h) fun n' h' => hn n' (List.mem_cons_of_mem _ h')
  have hw : ∀ k < 38, wid k ≤ 3 ∧ ∀ n ∈ nmL.getD k [], ("code" : Str) ≠ n := by decide +kernel
  refine key _ _ _ ?_ fun n hn => (hw k hk).2 n (List.mem_reverse.mp hn)
  have h3 : (nmL.getD k []).length ≤ 3 := (hw k hk).1
  rw [List.length_reverse, List.length_reverse, List.length_take]
  show (nmL.getD k []).length = min (nmL.getD k []).length 3
  omega
/-! ### _law_fields -/
def preFl (T : Tx K mg) (_ : Ml) (as : List D) : Prop := ∃ a b c k, k < 38 ∧ as = [errK T a b c k]
def postFl (T : Tx K mg) (as : List D) (r : D) : Prop := ∀ a b c k, k < 38 → as = [errK T a b c k] → r = .tup ([a, b, c].take (wid k))
def preF1 (T : Tx K mg) (a b c : D) (k : Nat) (_ : Ml) (as : List D) : Prop := as = [errK T a b c k]
def postF1 (a b c : D) (k : Nat) (_ : List D) (r : D) : Prop := r = .tup ([a, b, c].take (wid k))
theorem fld1 (T : Tx K mg) {a b c : D} {k : Nat} (hk : k < 38) {M : Mt} {ds : DS} {te : TE} {f : Str} {d : D} {ns : List Str} (hn : nmL.getD k [] = ns) (hf : f ∈ ns) (hd : fldD (excN ns) (excV (cdL.getD k "") ([a, b, c].take ns.length)) f = some d) (he : Ev K M ds te (· = errK T a b c k)) : Ev K M ds (tXget K f te) (· = d) := by
  refine ev_xget he (x_of T k hk) (no_of T k hk f (List.mem_cons_of_mem _ (by rw [hn]; exact hf))) ?_
  show fldD (excN (nmL.getD k [])) (excV (cdL.getD k "") ([a, b, c].take (nmL.getD k []).length)) f = some d
  rw [hn]
  exact hd
theorem ok_fields (T : Tx K mg) (a b c : D) (k : Nat) (hk : k < 38) : FnOk P w K mg base CX0 1 T.f__law_fields T.fd__law_fields ["_law_e"] (spF K (preF1 T a b c k) (postF1 a b c k)) := by
  refine fn_run T.F__law_fields sc_Lfields (fun M as e => by rw [e]; rfl) (fun cdv A outer s H E hr => ⟨_, (pss_cons (ps_if (pt_cmpR (q_in (K := K)) (q_xget (K := K) (pv 0)) (pe_lst (pa_cons pe_str (pa_cons pe_str (pa_cons pe_str (pa_cons pe_str (pa_cons pe_str (pa_cons pe_str (pa_cons pe_str (pa_cons pe_str (pa_cons pe_str (pa_cons pe_str (pa_cons pe_str (pa_cons pe_str pa_nil))))))))))))) (by rfl)) (pss_one (ps_ret (pe_tup (pa_cons (q_xget (K := K) (pv 0)) pa_nil)))) pss_nil)
  (pss_cons (ps_if (pt_cmpR (q_in (K := K)) (q_xget (K := K) (pv 0)) (pe_lst (pa_cons pe_str (pa_cons pe_str (pa_cons pe_str (pa_cons pe_str pa_nil))))) (by rfl)) (pss_one (ps_ret (pe_tup (pa_cons (q_xget (K := K) (pv 0)) pa_nil)))) pss_nil)
  (pss_cons (ps_if (pt_cmpR (q_in (K := K)) (q_xget (K := K) (pv 0)) (pe_lst (pa_cons pe_str (pa_cons pe_str (pa_cons pe_str pa_nil)))) (by rfl)) (pss_one (ps_ret (pe_tup (pa_cons (q_xget (K := K) (pv 0)) pa_nil)))) pss_nil)
  (pss_cons (ps_if (pt_cmpR (q_in (K := K)) (q_xget (K := K) (pv 0)) (pe_lst (pa_cons pe_str (pa_cons pe_str (pa_cons pe_str pa_nil)))) (by rfl)) (pss_one (ps_ret (pe_tup (pa_cons (q_xget (K := K) (pv 0)) pa_nil)))) pss_nil)
  (pss_cons (ps_if (pt_cmpR (q_in (K := K)) (q_xget (K := K) (pv 0)) (pe_lst (pa_cons pe_str (pa_cons pe_str pa_nil))) (by rfl)) (pss_one (ps_ret (pe_tup (pa_cons (q_xget (K := K) (pv 0)) (pa_cons (q_xget (K := K) (pv 0)) pa_nil))))) pss_nil)
  (pss_cons (ps_if (pt_cmpR (q_in (K := K)) (q_xget (K := K) (pv 0)) (pe_lst (pa_cons pe_str (pa_cons pe_str pa_nil))) (by rfl)) (pss_one (ps_ret (pe_tup (pa_cons (q_xget (K := K) (pv 0)) (pa_cons (q_xget (K := K) (pv 0)) (pa_cons (q_xget (K := K) (pv 0)) pa_nil)))))) pss_nil)
  (pss_cons (ps_if (pt_cmpR (q_in (K := K)) (q_xget (K := K) (pv 0)) (pe_lst (pa_cons pe_str (pa_cons pe_str pa_nil))) (by rfl)) (pss_one (ps_ret (pe_tup (pa_cons (q_xget (K := K) (pv 0)) pa_nil)))) pss_nil)
  (pss_cons (ps_if (pt_cmpR op_eq (q_xget (K := K) (pv 0)) pe_str (nomark _)) (pss_one (ps_ret (pe_tup (pa_cons (q_xget (K := K) (pv 0)) (pa_cons (q_xget (K := K) (pv 0)) pa_nil))))) pss_nil)
  (pss_cons (ps_if (pt_cmpR op_eq (q_xget (K := K) (pv 0)) pe_str (nomark _)) (pss_one (ps_ret (pe_tup (pa_cons (q_xget (K := K) (pv 0)) (pa_cons (q_xget (K := K) (pv 0)) (pa_cons (q_xget (K := K) (pv 0)) pa_nil)))))) pss_nil)
  (pss_cons (ps_if (pt_cmpR op_eq (q_xget (K := K) (pv 0)) pe_str (nomark _)) (pss_one (ps_ret (pe_tup (pa_cons (q_xget (K := K) (pv 0)) (pa_cons (q_xget (K := K) (pv 0)) pa_nil))))) pss_nil)
  (pss_cons (ps_if (pt_cmpR op_eq (q_xget (K := K) (pv 0)) pe_str (nomark _)) (pss_one (ps_ret (pe_tup (pa_cons (q_xget (K := K) (pv 0)) pa_nil)))) pss_nil)
  (pss_cons (ps_if (pt_cmpR op_eq (q_xget (K := K) (pv 0)) pe_str (nomark _)) (pss_one (ps_ret (pe_tup (pa_cons (q_xget (K := K) (pv 0)) pa_nil)))) pss_nil)
  (pss_one (ps_ret (pe_ifExp (pt_cmpR op_eq (q_xget (K := K) (pv 0)) pe_str (nomark _)) (pe_tup (pa_cons (q_xget (K := K) (pv 0)) pa_nil)) (pe_tup pa_nil)))))))))))))))), fun M as e => ?_⟩)
  subst e
  show Rg.Run K M [some (errK T a b c k)] _ _
  have hc : Ev K M [some (errK T a b c k)] (tXget K "code" (tVar 0)) (· = .str (cdL.getD k "")) := ev_code T hk (ev_var rfl)
  have put : ∀ d, d = .tup ([a, b, c].take (wid k)) → postF1 a b c k [errK T a b c k] d := fun d e => e
  refine run_seq (run_if1 (c := inV (.str (cdL.getD k "")) [V.str "InvalidName", V.str "InvalidNumber", V.str "InvalidSection", V.str "InvalidTimes", V.str "InvalidStep", V.str "InvalidStanding", V.str "InvalidRow", V.str "InvalidTable", V.str "InvalidDelays", V.str "InvalidPeriod", V.str "InvalidHeights", V.str "InvalidDeed"]) (et_B (ev_op1 hc (by walk_at "ev") (od_inQ (.inl rfl) rfl (xs := [V.str "InvalidName", V.str "InvalidNumber", V.str "InvalidSection", V.str "InvalidTimes", V.str "InvalidStep", V.str "InvalidStanding", V.str "InvalidRow", V.str "InvalidTable", V.str "InvalidDelays", V.str "InvalidPeriod", V.str "InvalidHeights", V.str "InvalidDeed"]) rfl))) (fun e0 => ?_) fun e0 => run_next ?_)
  · have hn : nmL.getD k [] = (["value"] : List Str) := by
      have z : ∀ k < 38, inV (.str (cdL.getD k "")) [V.str "InvalidName", V.str "InvalidNumber", V.str "InvalidSection", V.str "InvalidTimes", V.str "InvalidStep", V.str "InvalidStanding", V.str "InvalidRow", V.str "InvalidTable", V.str "InvalidDelays", V.str "InvalidPeriod", V.str "InvalidHeights", V.str "InvalidDeed"] = true → nmL.getD k [] = (["value"] : List Str) := by decide +kernel
      exact z k hk e0
    refine run_ret1 (ev_tup1 (ea1 (fld1 T hk hn (by decide) (by rfl) (ev_var rfl)) ea_nil) (Nat.le_of_ble_eq_true rfl)) (put _ ?_)
    rw [show wid k = 1 by unfold wid; rw [hn]; rfl]
    rfl
  refine run_seq (run_if1 (c := inV (.str (cdL.getD k "")) [V.str "InvalidTurn", V.str "InvalidWait", V.str "InvalidWish", V.str "InvalidJourney"]) (et_B (ev_op1 hc (by walk_at "ev") (od_inQ (.inl rfl) rfl (xs := [V.str "InvalidTurn", V.str "InvalidWait", V.str "InvalidWish", V.str "InvalidJourney"]) rfl))) (fun e1 => ?_) fun e1 => run_next ?_)
  · have hn : nmL.getD k [] = (["at"] : List Str) := by
      have z : ∀ k < 38, inV (.str (cdL.getD k "")) [V.str "InvalidTurn", V.str "InvalidWait", V.str "InvalidWish", V.str "InvalidJourney"] = true → nmL.getD k [] = (["at"] : List Str) := by decide +kernel
      exact z k hk e1
    refine run_ret1 (ev_tup1 (ea1 (fld1 T hk hn (by decide) (by rfl) (ev_var rfl)) ea_nil) (Nat.le_of_ble_eq_true rfl)) (put _ ?_)
    rw [show wid k = 1 by unfold wid; rw [hn]; rfl]
    rfl
  refine run_seq (run_if1 (c := inV (.str (cdL.getD k "")) [V.str "DuplicateName", V.str "InUse", V.str "UnknownName"]) (et_B (ev_op1 hc (by walk_at "ev") (od_inQ (.inl rfl) rfl (xs := [V.str "DuplicateName", V.str "InUse", V.str "UnknownName"]) rfl))) (fun e2 => ?_) fun e2 => run_next ?_)
  · have hn : nmL.getD k [] = (["name"] : List Str) := by
      have z : ∀ k < 38, inV (.str (cdL.getD k "")) [V.str "DuplicateName", V.str "InUse", V.str "UnknownName"] = true → nmL.getD k [] = (["name"] : List Str) := by decide +kernel
      exact z k hk e2
    refine run_ret1 (ev_tup1 (ea1 (fld1 T hk hn (by decide) (by rfl) (ev_var rfl)) ea_nil) (Nat.le_of_ble_eq_true rfl)) (put _ ?_)
    rw [show wid k = 1 by unfold wid; rw [hn]; rfl]
    rfl
  refine run_seq (run_if1 (c := inV (.str (cdL.getD k "")) [V.str "TakenEnd", V.str "LooseEnd", V.str "UnknownEnd"]) (et_B (ev_op1 hc (by walk_at "ev") (od_inQ (.inl rfl) rfl (xs := [V.str "TakenEnd", V.str "LooseEnd", V.str "UnknownEnd"]) rfl))) (fun e3 => ?_) fun e3 => run_next ?_)
  · have hn : nmL.getD k [] = (["end"] : List Str) := by
      have z : ∀ k < 38, inV (.str (cdL.getD k "")) [V.str "TakenEnd", V.str "LooseEnd", V.str "UnknownEnd"] = true → nmL.getD k [] = (["end"] : List Str) := by decide +kernel
      exact z k hk e3
    refine run_ret1 (ev_tup1 (ea1 (fld1 T hk hn (by decide) (by rfl) (ev_var rfl)) ea_nil) (Nat.le_of_ble_eq_true rfl)) (put _ ?_)
    rw [show wid k = 1 by unfold wid; rw [hn]; rfl]
    rfl
  refine run_seq (run_if1 (c := inV (.str (cdL.getD k "")) [V.str "MisplacedStep", V.str "Barred"]) (et_B (ev_op1 hc (by walk_at "ev") (od_inQ (.inl rfl) rfl (xs := [V.str "MisplacedStep", V.str "Barred"]) rfl))) (fun e4 => ?_) fun e4 => run_next ?_)
  · have hn : nmL.getD k [] = (["train", "step"] : List Str) := by
      have z : ∀ k < 38, inV (.str (cdL.getD k "")) [V.str "MisplacedStep", V.str "Barred"] = true → nmL.getD k [] = (["train", "step"] : List Str) := by decide +kernel
      exact z k hk e4
    refine run_ret1 (ev_tup1 (ea1 (fld1 T hk hn (by decide) (by rfl) (ev_var rfl)) (ea1 (fld1 T hk hn (by decide) (by rfl) (ev_var rfl)) ea_nil)) (Nat.le_of_ble_eq_true rfl)) (put _ ?_)
    rw [show wid k = 2 by unfold wid; rw [hn]; rfl]
    rfl
  refine run_seq (run_if1 (c := inV (.str (cdL.getD k "")) [V.str "OwnRing", V.str "NeverCleared"]) (et_B (ev_op1 hc (by walk_at "ev") (od_inQ (.inl rfl) rfl (xs := [V.str "OwnRing", V.str "NeverCleared"]) rfl))) (fun e5 => ?_) fun e5 => run_next ?_)
  · have hn : nmL.getD k [] = (["train", "step", "element"] : List Str) := by
      have z : ∀ k < 38, inV (.str (cdL.getD k "")) [V.str "OwnRing", V.str "NeverCleared"] = true → nmL.getD k [] = (["train", "step", "element"] : List Str) := by decide +kernel
      exact z k hk e5
    refine run_ret1 (ev_tup1 (ea1 (fld1 T hk hn (by decide) (by rfl) (ev_var rfl)) (ea1 (fld1 T hk hn (by decide) (by rfl) (ev_var rfl)) (ea1 (fld1 T hk hn (by decide) (by rfl) (ev_var rfl)) ea_nil))) (Nat.le_of_ble_eq_true rfl)) (put _ ?_)
    rw [show wid k = 3 by unfold wid; rw [hn]; rfl]
    rfl
  refine run_seq (run_if1 (c := inV (.str (cdL.getD k "")) [V.str "Unready", V.str "Finished"]) (et_B (ev_op1 hc (by walk_at "ev") (od_inQ (.inl rfl) rfl (xs := [V.str "Unready", V.str "Finished"]) rfl))) (fun e6 => ?_) fun e6 => run_next ?_)
  · have hn : nmL.getD k [] = (["train"] : List Str) := by
      have z : ∀ k < 38, inV (.str (cdL.getD k "")) [V.str "Unready", V.str "Finished"] = true → nmL.getD k [] = (["train"] : List Str) := by decide +kernel
      exact z k hk e6
    refine run_ret1 (ev_tup1 (ea1 (fld1 T hk hn (by decide) (by rfl) (ev_var rfl)) ea_nil) (Nat.le_of_ble_eq_true rfl)) (put _ ?_)
    rw [show wid k = 1 by unfold wid; rw [hn]; rfl]
    rfl
  refine run_seq (run_if1 (c := decide ((cdL.getD k "") = ("TooMany" : Str))) (et_B (ev_op1 hc ev_cstr od_eqS)) (fun e7 => ?_) fun e7 => run_next ?_)
  · have hn : nmL.getD k [] = (["subject", "most"] : List Str) := by
      have z : ∀ k < 38, decide ((cdL.getD k "") = ("TooMany" : Str)) = true → nmL.getD k [] = (["subject", "most"] : List Str) := by decide +kernel
      exact z k hk e7
    refine run_ret1 (ev_tup1 (ea1 (fld1 T hk hn (by decide) (by rfl) (ev_var rfl)) (ea1 (fld1 T hk hn (by decide) (by rfl) (ev_var rfl)) ea_nil)) (Nat.le_of_ble_eq_true rfl)) (put _ ?_)
    rw [show wid k = 2 by unfold wid; rw [hn]; rfl]
    rfl
  refine run_seq (run_if1 (c := decide ((cdL.getD k "") = ("Refused" : Str))) (et_B (ev_op1 hc ev_cstr od_eqS)) (fun e8 => ?_) fun e8 => run_next ?_)
  · have hn : nmL.getD k [] = (["train", "element", "holder"] : List Str) := by
      have z : ∀ k < 38, decide ((cdL.getD k "") = ("Refused" : Str)) = true → nmL.getD k [] = (["train", "element", "holder"] : List Str) := by decide +kernel
      exact z k hk e8
    refine run_ret1 (ev_tup1 (ea1 (fld1 T hk hn (by decide) (by rfl) (ev_var rfl)) (ea1 (fld1 T hk hn (by decide) (by rfl) (ev_var rfl)) (ea1 (fld1 T hk hn (by decide) (by rfl) (ev_var rfl)) ea_nil))) (Nat.le_of_ble_eq_true rfl)) (put _ ?_)
    rw [show wid k = 3 by unfold wid; rw [hn]; rfl]
    rfl
  refine run_seq (run_if1 (c := decide ((cdL.getD k "") = ("Lacking" : Str))) (et_B (ev_op1 hc ev_cstr od_eqS)) (fun e9 => ?_) fun e9 => run_next ?_)
  · have hn : nmL.getD k [] = (["train", "other"] : List Str) := by
      have z : ∀ k < 38, decide ((cdL.getD k "") = ("Lacking" : Str)) = true → nmL.getD k [] = (["train", "other"] : List Str) := by decide +kernel
      exact z k hk e9
    refine run_ret1 (ev_tup1 (ea1 (fld1 T hk hn (by decide) (by rfl) (ev_var rfl)) (ea1 (fld1 T hk hn (by decide) (by rfl) (ev_var rfl)) ea_nil)) (Nat.le_of_ble_eq_true rfl)) (put _ ?_)
    rw [show wid k = 2 by unfold wid; rw [hn]; rfl]
    rfl
  refine run_seq (run_if1 (c := decide ((cdL.getD k "") = ("InvalidText" : Str))) (et_B (ev_op1 hc ev_cstr od_eqS)) (fun e10 => ?_) fun e10 => run_next ?_)
  · have hn : nmL.getD k [] = (["line"] : List Str) := by
      have z : ∀ k < 38, decide ((cdL.getD k "") = ("InvalidText" : Str)) = true → nmL.getD k [] = (["line"] : List Str) := by decide +kernel
      exact z k hk e10
    refine run_ret1 (ev_tup1 (ea1 (fld1 T hk hn (by decide) (by rfl) (ev_var rfl)) ea_nil) (Nat.le_of_ble_eq_true rfl)) (put _ ?_)
    rw [show wid k = 1 by unfold wid; rw [hn]; rfl]
    rfl
  refine run_seq (run_if1 (c := decide ((cdL.getD k "") = ("UnknownEntry" : Str))) (et_B (ev_op1 hc ev_cstr od_eqS)) (fun e11 => ?_) fun e11 => run_next ?_)
  · have hn : nmL.getD k [] = (["entry"] : List Str) := by
      have z : ∀ k < 38, decide ((cdL.getD k "") = ("UnknownEntry" : Str)) = true → nmL.getD k [] = (["entry"] : List Str) := by decide +kernel
      exact z k hk e11
    refine run_ret1 (ev_tup1 (ea1 (fld1 T hk hn (by decide) (by rfl) (ev_var rfl)) ea_nil) (Nat.le_of_ble_eq_true rfl)) (put _ ?_)
    rw [show wid k = 1 by unfold wid; rw [hn]; rfl]
    rfl
  have ht : EvT K M [some (errK T a b c k)] (tB (tOp rEq (tXget K "code" (tVar 0)) (tC (.str "TooShort")))) (· = decide ((cdL.getD k "") = ("TooShort" : Str))) := et_B (ev_op1 hc ev_cstr od_eqS)
  cases eL : decide ((cdL.getD k "") = ("TooShort" : Str)) with
  | true =>
    have hn : nmL.getD k [] = (["period"] : List Str) := by
      have z : ∀ k < 38, decide ((cdL.getD k "") = ("TooShort" : Str)) = true → nmL.getD k [] = (["period"] : List Str) := by decide +kernel
      exact z k hk eL
    refine run_ret1 (ev_ifT ht eL (ev_tup1 (ea1 (fld1 T hk hn (by decide) (by rfl) (ev_var rfl)) ea_nil) (Nat.le_of_ble_eq_true rfl))) (put _ ?_)
    rw [show wid k = 1 by unfold wid; rw [hn]; rfl]
    rfl
  | false =>
    have hn : nmL.getD k [] = [] := by
      have z : ∀ k < 38, ((inV (.str (cdL.getD k "")) [V.str "InvalidName", V.str "InvalidNumber", V.str "InvalidSection", V.str "InvalidTimes", V.str "InvalidStep", V.str "InvalidStanding", V.str "InvalidRow", V.str "InvalidTable", V.str "InvalidDelays", V.str "InvalidPeriod", V.str "InvalidHeights", V.str "InvalidDeed"]) || (inV (.str (cdL.getD k "")) [V.str "InvalidTurn", V.str "InvalidWait", V.str "InvalidWish", V.str "InvalidJourney"]) || (inV (.str (cdL.getD k "")) [V.str "DuplicateName", V.str "InUse", V.str "UnknownName"]) || (inV (.str (cdL.getD k "")) [V.str "TakenEnd", V.str "LooseEnd", V.str "UnknownEnd"]) || (inV (.str (cdL.getD k "")) [V.str "MisplacedStep", V.str "Barred"]) || (inV (.str (cdL.getD k "")) [V.str "OwnRing", V.str "NeverCleared"]) || (inV (.str (cdL.getD k "")) [V.str "Unready", V.str "Finished"]) || (decide ((cdL.getD k "") = ("TooMany" : Str))) || (decide ((cdL.getD k "") = ("Refused" : Str))) || (decide ((cdL.getD k "") = ("Lacking" : Str))) || (decide ((cdL.getD k "") = ("InvalidText" : Str))) || (decide ((cdL.getD k "") = ("UnknownEntry" : Str)))) = false → decide ((cdL.getD k "") = ("TooShort" : Str)) = false → nmL.getD k [] = [] := by decide +kernel
      exact z k hk (by rw [e0, e1, e2, e3, e4, e5, e6, e7, e8, e9, e10, e11]; rfl) eL
    refine run_ret1 (ev_ifF ht eL (ev_tup1 ea_nil (Nat.le_of_ble_eq_true rfl))) (put _ ?_)
    rw [show wid k = 0 by unfold wid; rw [hn]; rfl]
    rfl
/-! ### _law_codes, _law_by_name, _law_by_place -/
def pre0 (_ : Ml) (as : List D) : Prop := as = []
def postCodes (_ : List D) (r : D) : Prop := r = .list (cdL.map D.str)
theorem ok_codes (T : Tx K mg) : FnOk P w K mg base CX0 1 T.f__law_codes T.fd__law_codes [] (spF K pre0 postCodes) := by
  refine fn_run T.F__law_codes sc_Lcodes (fun M as e => by rw [e]; rfl) (fun cdv A outer s H E hr => ⟨_, (pss_cons (ps_set (i := 0) sc_Lcodes.nd rfl (Or.inl rfl) (pe_lst (pa_cons pe_str (pa_cons pe_str (pa_cons pe_str (pa_cons pe_str (pa_cons pe_str (pa_cons pe_str pa_nil))))))))
  (pss_cons (ps_set (i := 0) sc_Lcodes.nd rfl (Or.inl rfl) (pe_op (q_add (K := K)) (pv 0) (pe_lst (pa_cons pe_str (pa_cons pe_str (pa_cons pe_str (pa_cons pe_str (pa_cons pe_str (pa_cons pe_str pa_nil)))))))))
  (pss_cons (ps_set (i := 0) sc_Lcodes.nd rfl (Or.inl rfl) (pe_op (q_add (K := K)) (pv 0) (pe_lst (pa_cons pe_str (pa_cons pe_str (pa_cons pe_str (pa_cons pe_str (pa_cons pe_str (pa_cons pe_str (pa_cons pe_str pa_nil))))))))))
  (pss_cons (ps_set (i := 0) sc_Lcodes.nd rfl (Or.inl rfl) (pe_op (q_add (K := K)) (pv 0) (pe_lst (pa_cons pe_str (pa_cons pe_str (pa_cons pe_str (pa_cons pe_str (pa_cons pe_str (pa_cons pe_str (pa_cons pe_str (pa_cons pe_str pa_nil)))))))))))
  (pss_cons (ps_set (i := 0) sc_Lcodes.nd rfl (Or.inl rfl) (pe_op (q_add (K := K)) (pv 0) (pe_lst (pa_cons pe_str (pa_cons pe_str (pa_cons pe_str (pa_cons pe_str (pa_cons pe_str (pa_cons pe_str (pa_cons pe_str (pa_cons pe_str pa_nil)))))))))))
  (pss_one (ps_ret (pe_op (q_add (K := K)) (pv 0) (pe_lst (pa_cons pe_str (pa_cons pe_str (pa_cons pe_str pa_nil)))))))))))), fun M as e => ?_⟩)
  subst e
  show Rg.Run K M [none] _ _
  refine run_asg1 (by walk_at "ev") ?_
  refine run_asg1 (by walk_at "ev") ?_
  refine run_asg1 (by walk_at "ev") ?_
  refine run_asg1 (by walk_at "ev") ?_
  refine run_asg1 (by walk_at "ev") ?_
  apply run_ret1
  · walk_at "ev"
  · exact rfl
def pre3 (a b c : D) (_ : Ml) (as : List D) : Prop := as = [a, b, c]
def postRows (T : Tx K mg) (a b c : D) (_ : List D) (r : D) : Prop := r = .list (rows T a b c)
theorem ok_byname (T : Tx K mg) (a b c : D) : FnOk P w K mg base CX0 3 T.f__law_by_name T.fd__law_by_name ["_law_first", "_law_second", "_law_third"] (spF K (pre3 a b c) (postRows T a b c)) := by
  refine fn_run T.F__law_by_name sc_Lbyname (fun M as e => by rw [e]; rfl) (fun cdv A outer s H E hr => ⟨_, (pss_cons (ps_set (i := 3) sc_Lbyname.nd rfl (Or.inl rfl) (pe_lst (pa_cons (pe_xmkK (ks := ["value"]) T.x_InvalidName.toXc T.i_InvalidName T.t_InvalidName (G_init_InvalidName T) (hr.mono (by decide)) (KB_init_InvalidName T) pass0 (by rfl) T.m_InvalidName (pk_cons (pv 0) pk_nil)) (pa_cons (pe_xmkK (ks := ["value"]) T.x_InvalidNumber.toXc T.i_InvalidNumber T.t_InvalidNumber (G_init_InvalidNumber T) (hr.mono (by decide)) (KB_init_InvalidNumber T) pass0 (by rfl) T.m_InvalidNumber (pk_cons (pv 0) pk_nil)) (pa_cons (pe_xmkK (ks := ["value"]) T.x_InvalidSection.toXc T.i_InvalidSection T.t_InvalidSection (G_init_InvalidSection T) (hr.mono (by decide)) (KB_init_InvalidSection T) pass0 (by rfl) T.m_InvalidSection (pk_cons (pv 0) pk_nil)) (pa_cons (pe_xmkK (ks := ["value"]) T.x_InvalidTimes.toXc T.i_InvalidTimes T.t_InvalidTimes (G_init_InvalidTimes T) (hr.mono (by decide)) (KB_init_InvalidTimes T) pass0 (by rfl) T.m_InvalidTimes (pk_cons (pv 0) pk_nil)) pa_nil))))))
  (pss_cons (ps_set (i := 3) sc_Lbyname.nd rfl (Or.inl rfl) (pe_op (q_add (K := K)) (pv 3) (pe_lst (pa_cons (pe_xmkK (ks := ["value"]) T.x_InvalidStep.toXc T.i_InvalidStep T.t_InvalidStep (G_init_InvalidStep T) (hr.mono (by decide)) (KB_init_InvalidStep T) pass0 (by rfl) T.m_InvalidStep (pk_cons (pv 0) pk_nil)) (pa_cons (pe_xmkK (ks := ["value"]) T.x_InvalidStanding.toXc T.i_InvalidStanding T.t_InvalidStanding (G_init_InvalidStanding T) (hr.mono (by decide)) (KB_init_InvalidStanding T) pass0 (by rfl) T.m_InvalidStanding (pk_cons (pv 0) pk_nil)) (pa_cons (pe_xmkK (ks := ["value"]) T.x_InvalidRow.toXc T.i_InvalidRow T.t_InvalidRow (G_init_InvalidRow T) (hr.mono (by decide)) (KB_init_InvalidRow T) pass0 (by rfl) T.m_InvalidRow (pk_cons (pv 0) pk_nil)) pa_nil))))))
  (pss_cons (ps_set (i := 3) sc_Lbyname.nd rfl (Or.inl rfl) (pe_op (q_add (K := K)) (pv 3) (pe_lst (pa_cons (pe_xmkK (ks := ["value"]) T.x_InvalidTable.toXc T.i_InvalidTable T.t_InvalidTable (G_init_InvalidTable T) (hr.mono (by decide)) (KB_init_InvalidTable T) pass0 (by rfl) T.m_InvalidTable (pk_cons (pv 0) pk_nil)) (pa_cons (pe_xmkK (ks := ["value"]) T.x_InvalidDelays.toXc T.i_InvalidDelays T.t_InvalidDelays (G_init_InvalidDelays T) (hr.mono (by decide)) (KB_init_InvalidDelays T) pass0 (by rfl) T.m_InvalidDelays (pk_cons (pv 0) pk_nil)) (pa_cons (pe_xmkK (ks := ["value"]) T.x_InvalidPeriod.toXc T.i_InvalidPeriod T.t_InvalidPeriod (G_init_InvalidPeriod T) (hr.mono (by decide)) (KB_init_InvalidPeriod T) pass0 (by rfl) T.m_InvalidPeriod (pk_cons (pv 0) pk_nil)) pa_nil))))))
  (pss_cons (ps_set (i := 3) sc_Lbyname.nd rfl (Or.inl rfl) (pe_op (q_add (K := K)) (pv 3) (pe_lst (pa_cons (pe_xmkK (ks := ["value"]) T.x_InvalidHeights.toXc T.i_InvalidHeights T.t_InvalidHeights (G_init_InvalidHeights T) (hr.mono (by decide)) (KB_init_InvalidHeights T) pass0 (by rfl) T.m_InvalidHeights (pk_cons (pv 0) pk_nil)) (pa_cons (pe_xmkK (ks := ["value"]) T.x_InvalidDeed.toXc T.i_InvalidDeed T.t_InvalidDeed (G_init_InvalidDeed T) (hr.mono (by decide)) (KB_init_InvalidDeed T) pass0 (by rfl) T.m_InvalidDeed (pk_cons (pv 0) pk_nil)) (pa_cons (pe_xmkK (ks := ["at"]) T.x_InvalidTurn.toXc T.i_InvalidTurn T.t_InvalidTurn (G_init_InvalidTurn T) (hr.mono (by decide)) (KB_init_InvalidTurn T) pass0 (by rfl) T.m_InvalidTurn (pk_cons (pv 0) pk_nil)) (pa_cons (pe_xmkK (ks := ["at"]) T.x_InvalidWait.toXc T.i_InvalidWait T.t_InvalidWait (G_init_InvalidWait T) (hr.mono (by decide)) (KB_init_InvalidWait T) pass0 (by rfl) T.m_InvalidWait (pk_cons (pv 0) pk_nil)) pa_nil)))))))
  (pss_cons (ps_set (i := 3) sc_Lbyname.nd rfl (Or.inl rfl) (pe_op (q_add (K := K)) (pv 3) (pe_lst (pa_cons (pe_xmkK (ks := ["at"]) T.x_InvalidWish.toXc T.i_InvalidWish T.t_InvalidWish (G_init_InvalidWish T) (hr.mono (by decide)) (KB_init_InvalidWish T) pass0 (by rfl) T.m_InvalidWish (pk_cons (pv 0) pk_nil)) (pa_cons (pe_xmkK (ks := ["at"]) T.x_InvalidJourney.toXc T.i_InvalidJourney T.t_InvalidJourney (G_init_InvalidJourney T) (hr.mono (by decide)) (KB_init_InvalidJourney T) pass0 (by rfl) T.m_InvalidJourney (pk_cons (pv 0) pk_nil)) (pa_cons (pe_xmkK (ks := ["line"]) T.x_InvalidText.toXc T.i_InvalidText T.t_InvalidText (G_init_InvalidText T) (hr.mono (by decide)) (KB_init_InvalidText T) pass0 (by rfl) T.m_InvalidText (pk_cons (pv 0) pk_nil)) (pa_cons (pe_xmkK (ks := ["name"]) T.x_DuplicateName.toXc T.i_DuplicateName T.t_DuplicateName (G_init_DuplicateName T) (hr.mono (by decide)) (KB_init_DuplicateName T) pass0 (by rfl) T.m_DuplicateName (pk_cons (pv 0) pk_nil)) pa_nil)))))))
  (pss_cons (ps_set (i := 3) sc_Lbyname.nd rfl (Or.inl rfl) (pe_op (q_add (K := K)) (pv 3) (pe_lst (pa_cons (pe_xmkK (ks := ["name"]) T.x_InUse.toXc T.i_InUse T.t_InUse (G_init_InUse T) (hr.mono (by decide)) (KB_init_InUse T) pass0 (by rfl) T.m_InUse (pk_cons (pv 0) pk_nil)) (pa_cons (pe_xmkK (ks := ["end"]) T.x_TakenEnd.toXc T.i_TakenEnd T.t_TakenEnd (G_init_TakenEnd T) (hr.mono (by decide)) (KB_init_TakenEnd T) pass0 (by rfl) T.m_TakenEnd (pk_cons (pv 0) pk_nil)) (pa_cons (pe_xmkK (ks := ["end"]) T.x_LooseEnd.toXc T.i_LooseEnd T.t_LooseEnd (G_init_LooseEnd T) (hr.mono (by decide)) (KB_init_LooseEnd T) pass0 (by rfl) T.m_LooseEnd (pk_cons (pv 0) pk_nil)) (pa_cons (pe_xmkK (ks := ["most", "subject"]) T.x_TooMany.toXc T.i_TooMany T.t_TooMany (G_init_TooMany T) (hr.mono (by decide)) (KB_init_TooMany T) pass0 (by rfl) T.m_TooMany (pk_cons (pv 1) (pk_cons (pv 0) pk_nil))) pa_nil)))))))
  (pss_cons (ps_set (i := 3) sc_Lbyname.nd rfl (Or.inl rfl) (pe_op (q_add (K := K)) (pv 3) (pe_lst (pa_cons (pe_xmkK (ks := ["step", "train"]) T.x_MisplacedStep.toXc T.i_MisplacedStep T.t_MisplacedStep (G_init_MisplacedStep T) (hr.mono (by decide)) (KB_init_MisplacedStep T) pass0 (by rfl) T.m_MisplacedStep (pk_cons (pv 1) (pk_cons (pv 0) pk_nil))) (pa_cons (pe_xmkK (ks := ["element", "step", "train"]) T.x_OwnRing.toXc T.i_OwnRing T.t_OwnRing (G_init_OwnRing T) (hr.mono (by decide)) (KB_init_OwnRing T) pass0 (by rfl) T.m_OwnRing (pk_cons (pv 2) (pk_cons (pv 1) (pk_cons (pv 0) pk_nil)))) pa_nil)))))
  (pss_cons (ps_set (i := 3) sc_Lbyname.nd rfl (Or.inl rfl) (pe_op (q_add (K := K)) (pv 3) (pe_lst (pa_cons (pe_xmkK (ks := ["holder", "element", "train"]) T.x_Refused.toXc T.i_Refused T.t_Refused (G_init_Refused T) (hr.mono (by decide)) (KB_init_Refused T) pass0 (by rfl) T.m_Refused (pk_cons (pv 2) (pk_cons (pv 1) (pk_cons (pv 0) pk_nil)))) (pa_cons (pe_xmkK (ks := ["other", "train"]) T.x_Lacking.toXc T.i_Lacking T.t_Lacking (G_init_Lacking T) (hr.mono (by decide)) (KB_init_Lacking T) pass0 (by rfl) T.m_Lacking (pk_cons (pv 1) (pk_cons (pv 0) pk_nil))) pa_nil)))))
  (pss_cons (ps_set (i := 3) sc_Lbyname.nd rfl (Or.inl rfl) (pe_op (q_add (K := K)) (pv 3) (pe_lst (pa_cons (pe_xmkK (ks := ["train"]) T.x_Unready.toXc T.i_Unready T.t_Unready (G_init_Unready T) (hr.mono (by decide)) (KB_init_Unready T) pass0 (by rfl) T.m_Unready (pk_cons (pv 0) pk_nil)) (pa_cons (pe_xmkK (ks := ["train"]) T.x_Finished.toXc T.i_Finished T.t_Finished (G_init_Finished T) (hr.mono (by decide)) (KB_init_Finished T) pass0 (by rfl) T.m_Finished (pk_cons (pv 0) pk_nil)) (pa_cons (pe_xmkK (ks := ["step", "train"]) T.x_Barred.toXc T.i_Barred T.t_Barred (G_init_Barred T) (hr.mono (by decide)) (KB_init_Barred T) pass0 (by rfl) T.m_Barred (pk_cons (pv 1) (pk_cons (pv 0) pk_nil))) (pa_cons (pe_xmkK (ks := []) T.x_NoDay.toXc T.i_NoDay T.t_NoDay (G_init_NoDay T) (hr.mono (by decide)) (KB_init_NoDay T) pass0 (by rfl) T.m_NoDay pk_nil) (pa_cons (pe_xmkK (ks := []) T.x_Doomed.toXc T.i_Doomed T.t_Doomed (G_init_Doomed T) (hr.mono (by decide)) (KB_init_Doomed T) pass0 (by rfl) T.m_Doomed pk_nil) pa_nil))))))))
  (pss_cons (ps_set (i := 3) sc_Lbyname.nd rfl (Or.inl rfl) (pe_op (q_add (K := K)) (pv 3) (pe_lst (pa_cons (pe_xmkK (ks := ["element", "step", "train"]) T.x_NeverCleared.toXc T.i_NeverCleared T.t_NeverCleared (G_init_NeverCleared T) (hr.mono (by decide)) (KB_init_NeverCleared T) pass0 (by rfl) T.m_NeverCleared (pk_cons (pv 2) (pk_cons (pv 1) (pk_cons (pv 0) pk_nil)))) (pa_cons (pe_xmkK (ks := []) T.x_NoPeriod.toXc T.i_NoPeriod T.t_NoPeriod (G_init_NoPeriod T) (hr.mono (by decide)) (KB_init_NoPeriod T) pass0 (by rfl) T.m_NoPeriod pk_nil) (pa_cons (pe_xmkK (ks := ["period"]) T.x_TooShort.toXc T.i_TooShort T.t_TooShort (G_init_TooShort T) (hr.mono (by decide)) (KB_init_TooShort T) pass0 (by rfl) T.m_TooShort (pk_cons (pv 0) pk_nil)) pa_nil))))))
  (pss_one (ps_ret (pe_op (q_add (K := K)) (pv 3) (pe_lst (pa_cons (pe_xmkK (ks := ["name"]) T.x_UnknownName.toXc T.i_UnknownName T.t_UnknownName (G_init_UnknownName T) (hr.mono (by decide)) (KB_init_UnknownName T) pass0 (by rfl) T.m_UnknownName (pk_cons (pv 0) pk_nil)) (pa_cons (pe_xmkK (ks := ["end"]) T.x_UnknownEnd.toXc T.i_UnknownEnd T.t_UnknownEnd (G_init_UnknownEnd T) (hr.mono (by decide)) (KB_init_UnknownEnd T) pass0 (by rfl) T.m_UnknownEnd (pk_cons (pv 0) pk_nil)) (pa_cons (pe_xmkK (ks := ["entry"]) T.x_UnknownEntry.toXc T.i_UnknownEntry T.t_UnknownEntry (G_init_UnknownEntry T) (hr.mono (by decide)) (KB_init_UnknownEntry T) pass0 (by rfl) T.m_UnknownEntry (pk_cons (pv 0) pk_nil)) (pa_cons (pe_xmkK (ks := []) T.x_NothingLeft.toXc T.i_NothingLeft T.t_NothingLeft (G_init_NothingLeft T) (hr.mono (by decide)) (KB_init_NothingLeft T) pass0 (by rfl) T.m_NothingLeft pk_nil) pa_nil)))))))))))))))))), fun M as e => ?_⟩)
  subst e
  show Rg.Run K M [some a, some b, some c, none] _ _
  refine run_asg1 (by walk_at "ev") ?_
  refine run_asg1 (by walk_at "ev") ?_
  refine run_asg1 (by walk_at "ev") ?_
  refine run_asg1 (by walk_at "ev") ?_
  refine run_asg1 (by walk_at "ev") ?_
  refine run_asg1 (by walk_at "ev") ?_
  refine run_asg1 (by walk_at "ev") ?_
  refine run_asg1 (by walk_at "ev") ?_
  refine run_asg1 (by walk_at "ev") ?_
  refine run_asg1 (by walk_at "ev") ?_
  apply run_ret1
  · walk_at "ev"
  · exact rfl
theorem ok_byplace (T : Tx K mg) (a b c : D) : FnOk P w K mg base CX0 3 T.f__law_by_place T.fd__law_by_place ["_law_first", "_law_second", "_law_third"] (spF K (pre3 a b c) (postRows T a b c)) := by
  refine fn_run T.F__law_by_place sc_Lbyplace (fun M as e => by rw [e]; rfl) (fun cdv A outer s H E hr => ⟨_, (pss_cons (ps_set (i := 3) sc_Lbyplace.nd rfl (Or.inl rfl) (pe_lst (pa_cons (pe_xmk T.x_InvalidName.toXc T.i_InvalidName T.t_InvalidName (G_init_InvalidName T) (hr.mono (by decide)) (B_init_InvalidName T) .nil pass0 (by rfl) T.m_InvalidName (pa_cons (pv 0) pa_nil)) (pa_cons (pe_xmk T.x_InvalidNumber.toXc T.i_InvalidNumber T.t_InvalidNumber (G_init_InvalidNumber T) (hr.mono (by decide)) (B_init_InvalidNumber T) .nil pass0 (by rfl) T.m_InvalidNumber (pa_cons (pv 0) pa_nil)) (pa_cons (pe_xmk T.x_InvalidSection.toXc T.i_InvalidSection T.t_InvalidSection (G_init_InvalidSection T) (hr.mono (by decide)) (B_init_InvalidSection T) .nil pass0 (by rfl) T.m_InvalidSection (pa_cons (pv 0) pa_nil)) (pa_cons (pe_xmk T.x_InvalidTimes.toXc T.i_InvalidTimes T.t_InvalidTimes (G_init_InvalidTimes T) (hr.mono (by decide)) (B_init_InvalidTimes T) .nil pass0 (by rfl) T.m_InvalidTimes (pa_cons (pv 0) pa_nil)) (pa_cons (pe_xmk T.x_InvalidStep.toXc T.i_InvalidStep T.t_InvalidStep (G_init_InvalidStep T) (hr.mono (by decide)) (B_init_InvalidStep T) .nil pass0 (by rfl) T.m_InvalidStep (pa_cons (pv 0) pa_nil)) pa_nil)))))))
  (pss_cons (ps_set (i := 3) sc_Lbyplace.nd rfl (Or.inl rfl) (pe_op (q_add (K := K)) (pv 3) (pe_lst (pa_cons (pe_xmk T.x_InvalidStanding.toXc T.i_InvalidStanding T.t_InvalidStanding (G_init_InvalidStanding T) (hr.mono (by decide)) (B_init_InvalidStanding T) .nil pass0 (by rfl) T.m_InvalidStanding (pa_cons (pv 0) pa_nil)) (pa_cons (pe_xmk T.x_InvalidRow.toXc T.i_InvalidRow T.t_InvalidRow (G_init_InvalidRow T) (hr.mono (by decide)) (B_init_InvalidRow T) .nil pass0 (by rfl) T.m_InvalidRow (pa_cons (pv 0) pa_nil)) (pa_cons (pe_xmk T.x_InvalidTable.toXc T.i_InvalidTable T.t_InvalidTable (G_init_InvalidTable T) (hr.mono (by decide)) (B_init_InvalidTable T) .nil pass0 (by rfl) T.m_InvalidTable (pa_cons (pv 0) pa_nil)) (pa_cons (pe_xmk T.x_InvalidDelays.toXc T.i_InvalidDelays T.t_InvalidDelays (G_init_InvalidDelays T) (hr.mono (by decide)) (B_init_InvalidDelays T) .nil pass0 (by rfl) T.m_InvalidDelays (pa_cons (pv 0) pa_nil)) pa_nil)))))))
  (pss_cons (ps_set (i := 3) sc_Lbyplace.nd rfl (Or.inl rfl) (pe_op (q_add (K := K)) (pv 3) (pe_lst (pa_cons (pe_xmk T.x_InvalidPeriod.toXc T.i_InvalidPeriod T.t_InvalidPeriod (G_init_InvalidPeriod T) (hr.mono (by decide)) (B_init_InvalidPeriod T) .nil pass0 (by rfl) T.m_InvalidPeriod (pa_cons (pv 0) pa_nil)) (pa_cons (pe_xmk T.x_InvalidHeights.toXc T.i_InvalidHeights T.t_InvalidHeights (G_init_InvalidHeights T) (hr.mono (by decide)) (B_init_InvalidHeights T) .nil pass0 (by rfl) T.m_InvalidHeights (pa_cons (pv 0) pa_nil)) (pa_cons (pe_xmk T.x_InvalidDeed.toXc T.i_InvalidDeed T.t_InvalidDeed (G_init_InvalidDeed T) (hr.mono (by decide)) (B_init_InvalidDeed T) .nil pass0 (by rfl) T.m_InvalidDeed (pa_cons (pv 0) pa_nil)) (pa_cons (pe_xmk T.x_InvalidTurn.toXc T.i_InvalidTurn T.t_InvalidTurn (G_init_InvalidTurn T) (hr.mono (by decide)) (B_init_InvalidTurn T) .nil pass0 (by rfl) T.m_InvalidTurn (pa_cons (pv 0) pa_nil)) (pa_cons (pe_xmk T.x_InvalidWait.toXc T.i_InvalidWait T.t_InvalidWait (G_init_InvalidWait T) (hr.mono (by decide)) (B_init_InvalidWait T) .nil pass0 (by rfl) T.m_InvalidWait (pa_cons (pv 0) pa_nil)) pa_nil))))))))
  (pss_cons (ps_set (i := 3) sc_Lbyplace.nd rfl (Or.inl rfl) (pe_op (q_add (K := K)) (pv 3) (pe_lst (pa_cons (pe_xmk T.x_InvalidWish.toXc T.i_InvalidWish T.t_InvalidWish (G_init_InvalidWish T) (hr.mono (by decide)) (B_init_InvalidWish T) .nil pass0 (by rfl) T.m_InvalidWish (pa_cons (pv 0) pa_nil)) (pa_cons (pe_xmk T.x_InvalidJourney.toXc T.i_InvalidJourney T.t_InvalidJourney (G_init_InvalidJourney T) (hr.mono (by decide)) (B_init_InvalidJourney T) .nil pass0 (by rfl) T.m_InvalidJourney (pa_cons (pv 0) pa_nil)) (pa_cons (pe_xmk T.x_InvalidText.toXc T.i_InvalidText T.t_InvalidText (G_init_InvalidText T) (hr.mono (by decide)) (B_init_InvalidText T) .nil pass0 (by rfl) T.m_InvalidText (pa_cons (pv 0) pa_nil)) (pa_cons (pe_xmk T.x_DuplicateName.toXc T.i_DuplicateName T.t_DuplicateName (G_init_DuplicateName T) (hr.mono (by decide)) (B_init_DuplicateName T) .nil pass0 (by rfl) T.m_DuplicateName (pa_cons (pv 0) pa_nil)) (pa_cons (pe_xmk T.x_InUse.toXc T.i_InUse T.t_InUse (G_init_InUse T) (hr.mono (by decide)) (B_init_InUse T) .nil pass0 (by rfl) T.m_InUse (pa_cons (pv 0) pa_nil)) pa_nil))))))))
  (pss_cons (ps_set (i := 3) sc_Lbyplace.nd rfl (Or.inl rfl) (pe_op (q_add (K := K)) (pv 3) (pe_lst (pa_cons (pe_xmk T.x_TakenEnd.toXc T.i_TakenEnd T.t_TakenEnd (G_init_TakenEnd T) (hr.mono (by decide)) (B_init_TakenEnd T) .nil pass0 (by rfl) T.m_TakenEnd (pa_cons (pv 0) pa_nil)) (pa_cons (pe_xmk T.x_LooseEnd.toXc T.i_LooseEnd T.t_LooseEnd (G_init_LooseEnd T) (hr.mono (by decide)) (B_init_LooseEnd T) .nil pass0 (by rfl) T.m_LooseEnd (pa_cons (pv 0) pa_nil)) (pa_cons (pe_xmk T.x_TooMany.toXc T.i_TooMany T.t_TooMany (G_init_TooMany T) (hr.mono (by decide)) (B_init_TooMany T) .nil pass0 (by rfl) T.m_TooMany (pa_cons (pv 0) (pa_cons (pv 1) pa_nil))) (pa_cons (pe_xmk T.x_MisplacedStep.toXc T.i_MisplacedStep T.t_MisplacedStep (G_init_MisplacedStep T) (hr.mono (by decide)) (B_init_MisplacedStep T) .nil pass0 (by rfl) T.m_MisplacedStep (pa_cons (pv 0) (pa_cons (pv 1) pa_nil))) pa_nil)))))))
  (pss_cons (ps_set (i := 3) sc_Lbyplace.nd rfl (Or.inl rfl) (pe_op (q_add (K := K)) (pv 3) (pe_lst (pa_cons (pe_xmk T.x_OwnRing.toXc T.i_OwnRing T.t_OwnRing (G_init_OwnRing T) (hr.mono (by decide)) (B_init_OwnRing T) .nil pass0 (by rfl) T.m_OwnRing (pa_cons (pv 0) (pa_cons (pv 1) (pa_cons (pv 2) pa_nil)))) (pa_cons (pe_xmk T.x_Refused.toXc T.i_Refused T.t_Refused (G_init_Refused T) (hr.mono (by decide)) (B_init_Refused T) .nil pass0 (by rfl) T.m_Refused (pa_cons (pv 0) (pa_cons (pv 1) (pa_cons (pv 2) pa_nil)))) (pa_cons (pe_xmk T.x_Lacking.toXc T.i_Lacking T.t_Lacking (G_init_Lacking T) (hr.mono (by decide)) (B_init_Lacking T) .nil pass0 (by rfl) T.m_Lacking (pa_cons (pv 0) (pa_cons (pv 1) pa_nil))) (pa_cons (pe_xmk T.x_Unready.toXc T.i_Unready T.t_Unready (G_init_Unready T) (hr.mono (by decide)) (B_init_Unready T) .nil pass0 (by rfl) T.m_Unready (pa_cons (pv 0) pa_nil)) pa_nil)))))))
  (pss_cons (ps_set (i := 3) sc_Lbyplace.nd rfl (Or.inl rfl) (pe_op (q_add (K := K)) (pv 3) (pe_lst (pa_cons (pe_xmk T.x_Finished.toXc T.i_Finished T.t_Finished (G_init_Finished T) (hr.mono (by decide)) (B_init_Finished T) .nil pass0 (by rfl) T.m_Finished (pa_cons (pv 0) pa_nil)) (pa_cons (pe_xmk T.x_Barred.toXc T.i_Barred T.t_Barred (G_init_Barred T) (hr.mono (by decide)) (B_init_Barred T) .nil pass0 (by rfl) T.m_Barred (pa_cons (pv 0) (pa_cons (pv 1) pa_nil))) (pa_cons (pe_xmkK (ks := []) T.x_NoDay.toXc T.i_NoDay T.t_NoDay (G_init_NoDay T) (hr.mono (by decide)) (KB_init_NoDay T) pass0 (by rfl) T.m_NoDay pk_nil) (pa_cons (pe_xmkK (ks := []) T.x_Doomed.toXc T.i_Doomed T.t_Doomed (G_init_Doomed T) (hr.mono (by decide)) (KB_init_Doomed T) pass0 (by rfl) T.m_Doomed pk_nil) (pa_cons (pe_xmk T.x_NeverCleared.toXc T.i_NeverCleared T.t_NeverCleared (G_init_NeverCleared T) (hr.mono (by decide)) (B_init_NeverCleared T) .nil pass0 (by rfl) T.m_NeverCleared (pa_cons (pv 0) (pa_cons (pv 1) (pa_cons (pv 2) pa_nil)))) pa_nil))))))))
  (pss_one (ps_ret (pe_op (q_add (K := K)) (pv 3) (pe_lst (pa_cons (pe_xmkK (ks := []) T.x_NoPeriod.toXc T.i_NoPeriod T.t_NoPeriod (G_init_NoPeriod T) (hr.mono (by decide)) (KB_init_NoPeriod T) pass0 (by rfl) T.m_NoPeriod pk_nil) (pa_cons (pe_xmk T.x_TooShort.toXc T.i_TooShort T.t_TooShort (G_init_TooShort T) (hr.mono (by decide)) (B_init_TooShort T) .nil pass0 (by rfl) T.m_TooShort (pa_cons (pv 0) pa_nil)) (pa_cons (pe_xmk T.x_UnknownName.toXc T.i_UnknownName T.t_UnknownName (G_init_UnknownName T) (hr.mono (by decide)) (B_init_UnknownName T) .nil pass0 (by rfl) T.m_UnknownName (pa_cons (pv 0) pa_nil)) (pa_cons (pe_xmk T.x_UnknownEnd.toXc T.i_UnknownEnd T.t_UnknownEnd (G_init_UnknownEnd T) (hr.mono (by decide)) (B_init_UnknownEnd T) .nil pass0 (by rfl) T.m_UnknownEnd (pa_cons (pv 0) pa_nil)) (pa_cons (pe_xmk T.x_UnknownEntry.toXc T.i_UnknownEntry T.t_UnknownEntry (G_init_UnknownEntry T) (hr.mono (by decide)) (B_init_UnknownEntry T) .nil pass0 (by rfl) T.m_UnknownEntry (pa_cons (pv 0) pa_nil)) (pa_cons (pe_xmkK (ks := []) T.x_NothingLeft.toXc T.i_NothingLeft T.t_NothingLeft (G_init_NothingLeft T) (hr.mono (by decide)) (KB_init_NothingLeft T) pass0 (by rfl) T.m_NothingLeft pk_nil) pa_nil))))))))))))))))), fun M as e => ?_⟩)
  subst e
  show Rg.Run K M [some a, some b, some c, none] _ _
  refine run_asg1 (by walk_at "ev") ?_
  refine run_asg1 (by walk_at "ev") ?_
  refine run_asg1 (by walk_at "ev") ?_
  refine run_asg1 (by walk_at "ev") ?_
  refine run_asg1 (by walk_at "ev") ?_
  refine run_asg1 (by walk_at "ev") ?_
  refine run_asg1 (by walk_at "ev") ?_
  apply run_ret1
  · walk_at "ev"
  · exact rfl
/-! ### _law_classes -/
def isL38 (k : Nat) : List D := (List.range 38).map fun j => .bl (decide (j = k))
def postCls (k : Nat) (_ : List D) (r : D) : Prop := r = .list (isL38 k)
theorem ok_classes (T : Tx K mg) (a b c : D) (k : Nat) (hk : k < 38) : FnOk P w K mg base CX0 1 T.f__law_classes T.fd__law_classes ["_law_e"] (spF K (preF1 T a b c k) (postCls k)) := by
  refine fn_run T.F__law_classes sc_Lclasses (fun M as e => by rw [e]; rfl) (fun cdv A outer s H E hr => ⟨_, (pss_cons (ps_set (i := 1) sc_Lclasses.nd rfl (Or.inl rfl) (pe_lst (pa_cons (pe_callB (q_isiU (K := K)) (by rfl) T.b_isinstance bt_isinstance (pa_cons (pv 0) (pa_cons (pe_cls rfl T.m_InvalidName) pa_nil))) (pa_cons (pe_callB (q_isiU (K := K)) (by rfl) T.b_isinstance bt_isinstance (pa_cons (pv 0) (pa_cons (pe_cls rfl T.m_InvalidNumber) pa_nil))) (pa_cons (pe_callB (q_isiU (K := K)) (by rfl) T.b_isinstance bt_isinstance (pa_cons (pv 0) (pa_cons (pe_cls rfl T.m_InvalidSection) pa_nil))) pa_nil)))))
  (pss_cons (ps_set (i := 1) sc_Lclasses.nd rfl (Or.inl rfl) (pe_op (q_add (K := K)) (pv 1) (pe_lst (pa_cons (pe_callB (q_isiU (K := K)) (by rfl) T.b_isinstance bt_isinstance (pa_cons (pv 0) (pa_cons (pe_cls rfl T.m_InvalidTimes) pa_nil))) (pa_cons (pe_callB (q_isiU (K := K)) (by rfl) T.b_isinstance bt_isinstance (pa_cons (pv 0) (pa_cons (pe_cls rfl T.m_InvalidStep) pa_nil))) (pa_cons (pe_callB (q_isiU (K := K)) (by rfl) T.b_isinstance bt_isinstance (pa_cons (pv 0) (pa_cons (pe_cls rfl T.m_InvalidStanding) pa_nil))) pa_nil))))))
  (pss_cons (ps_set (i := 1) sc_Lclasses.nd rfl (Or.inl rfl) (pe_op (q_add (K := K)) (pv 1) (pe_lst (pa_cons (pe_callB (q_isiU (K := K)) (by rfl) T.b_isinstance bt_isinstance (pa_cons (pv 0) (pa_cons (pe_cls rfl T.m_InvalidRow) pa_nil))) (pa_cons (pe_callB (q_isiU (K := K)) (by rfl) T.b_isinstance bt_isinstance (pa_cons (pv 0) (pa_cons (pe_cls rfl T.m_InvalidTable) pa_nil))) (pa_cons (pe_callB (q_isiU (K := K)) (by rfl) T.b_isinstance bt_isinstance (pa_cons (pv 0) (pa_cons (pe_cls rfl T.m_InvalidDelays) pa_nil))) pa_nil))))))
  (pss_cons (ps_set (i := 1) sc_Lclasses.nd rfl (Or.inl rfl) (pe_op (q_add (K := K)) (pv 1) (pe_lst (pa_cons (pe_callB (q_isiU (K := K)) (by rfl) T.b_isinstance bt_isinstance (pa_cons (pv 0) (pa_cons (pe_cls rfl T.m_InvalidPeriod) pa_nil))) (pa_cons (pe_callB (q_isiU (K := K)) (by rfl) T.b_isinstance bt_isinstance (pa_cons (pv 0) (pa_cons (pe_cls rfl T.m_InvalidHeights) pa_nil))) (pa_cons (pe_callB (q_isiU (K := K)) (by rfl) T.b_isinstance bt_isinstance (pa_cons (pv 0) (pa_cons (pe_cls rfl T.m_InvalidDeed) pa_nil))) pa_nil))))))
  (pss_cons (ps_set (i := 1) sc_Lclasses.nd rfl (Or.inl rfl) (pe_op (q_add (K := K)) (pv 1) (pe_lst (pa_cons (pe_callB (q_isiU (K := K)) (by rfl) T.b_isinstance bt_isinstance (pa_cons (pv 0) (pa_cons (pe_cls rfl T.m_InvalidTurn) pa_nil))) (pa_cons (pe_callB (q_isiU (K := K)) (by rfl) T.b_isinstance bt_isinstance (pa_cons (pv 0) (pa_cons (pe_cls rfl T.m_InvalidWait) pa_nil))) (pa_cons (pe_callB (q_isiU (K := K)) (by rfl) T.b_isinstance bt_isinstance (pa_cons (pv 0) (pa_cons (pe_cls rfl T.m_InvalidWish) pa_nil))) pa_nil))))))
  (pss_cons (ps_set (i := 1) sc_Lclasses.nd rfl (Or.inl rfl) (pe_op (q_add (K := K)) (pv 1) (pe_lst (pa_cons (pe_callB (q_isiU (K := K)) (by rfl) T.b_isinstance bt_isinstance (pa_cons (pv 0) (pa_cons (pe_cls rfl T.m_InvalidJourney) pa_nil))) (pa_cons (pe_callB (q_isiU (K := K)) (by rfl) T.b_isinstance bt_isinstance (pa_cons (pv 0) (pa_cons (pe_cls rfl T.m_InvalidText) pa_nil))) (pa_cons (pe_callB (q_isiU (K := K)) (by rfl) T.b_isinstance bt_isinstance (pa_cons (pv 0) (pa_cons (pe_cls rfl T.m_DuplicateName) pa_nil))) pa_nil))))))
  (pss_cons (ps_set (i := 1) sc_Lclasses.nd rfl (Or.inl rfl) (pe_op (q_add (K := K)) (pv 1) (pe_lst (pa_cons (pe_callB (q_isiU (K := K)) (by rfl) T.b_isinstance bt_isinstance (pa_cons (pv 0) (pa_cons (pe_cls rfl T.m_InUse) pa_nil))) (pa_cons (pe_callB (q_isiU (K := K)) (by rfl) T.b_isinstance bt_isinstance (pa_cons (pv 0) (pa_cons (pe_cls rfl T.m_TakenEnd) pa_nil))) (pa_cons (pe_callB (q_isiU (K := K)) (by rfl) T.b_isinstance bt_isinstance (pa_cons (pv 0) (pa_cons (pe_cls rfl T.m_LooseEnd) pa_nil))) (pa_cons (pe_callB (q_isiU (K := K)) (by rfl) T.b_isinstance bt_isinstance (pa_cons (pv 0) (pa_cons (pe_cls rfl T.m_TooMany) pa_nil))) pa_nil)))))))
  (pss_cons (ps_set (i := 1) sc_Lclasses.nd rfl (Or.inl rfl) (pe_op (q_add (K := K)) (pv 1) (pe_lst (pa_cons (pe_callB (q_isiU (K := K)) (by rfl) T.b_isinstance bt_isinstance (pa_cons (pv 0) (pa_cons (pe_cls rfl T.m_MisplacedStep) pa_nil))) (pa_cons (pe_callB (q_isiU (K := K)) (by rfl) T.b_isinstance bt_isinstance (pa_cons (pv 0) (pa_cons (pe_cls rfl T.m_OwnRing) pa_nil))) (pa_cons (pe_callB (q_isiU (K := K)) (by rfl) T.b_isinstance bt_isinstance (pa_cons (pv 0) (pa_cons (pe_cls rfl T.m_Refused) pa_nil))) (pa_cons (pe_callB (q_isiU (K := K)) (by rfl) T.b_isinstance bt_isinstance (pa_cons (pv 0) (pa_cons (pe_cls rfl T.m_Lacking) pa_nil))) pa_nil)))))))
  (pss_cons (ps_set (i := 1) sc_Lclasses.nd rfl (Or.inl rfl) (pe_op (q_add (K := K)) (pv 1) (pe_lst (pa_cons (pe_callB (q_isiU (K := K)) (by rfl) T.b_isinstance bt_isinstance (pa_cons (pv 0) (pa_cons (pe_cls rfl T.m_Unready) pa_nil))) (pa_cons (pe_callB (q_isiU (K := K)) (by rfl) T.b_isinstance bt_isinstance (pa_cons (pv 0) (pa_cons (pe_cls rfl T.m_Finished) pa_nil))) (pa_cons (pe_callB (q_isiU (K := K)) (by rfl) T.b_isinstance bt_isinstance (pa_cons (pv 0) (pa_cons (pe_cls rfl T.m_Barred) pa_nil))) (pa_cons (pe_callB (q_isiU (K := K)) (by rfl) T.b_isinstance bt_isinstance (pa_cons (pv 0) (pa_cons (pe_cls rfl T.m_NoDay) pa_nil))) pa_nil)))))))
  (pss_cons (ps_set (i := 1) sc_Lclasses.nd rfl (Or.inl rfl) (pe_op (q_add (K := K)) (pv 1) (pe_lst (pa_cons (pe_callB (q_isiU (K := K)) (by rfl) T.b_isinstance bt_isinstance (pa_cons (pv 0) (pa_cons (pe_cls rfl T.m_Doomed) pa_nil))) (pa_cons (pe_callB (q_isiU (K := K)) (by rfl) T.b_isinstance bt_isinstance (pa_cons (pv 0) (pa_cons (pe_cls rfl T.m_NeverCleared) pa_nil))) (pa_cons (pe_callB (q_isiU (K := K)) (by rfl) T.b_isinstance bt_isinstance (pa_cons (pv 0) (pa_cons (pe_cls rfl T.m_NoPeriod) pa_nil))) (pa_cons (pe_callB (q_isiU (K := K)) (by rfl) T.b_isinstance bt_isinstance (pa_cons (pv 0) (pa_cons (pe_cls rfl T.m_TooShort) pa_nil))) pa_nil)))))))
  (pss_cons (ps_set (i := 1) sc_Lclasses.nd rfl (Or.inl rfl) (pe_op (q_add (K := K)) (pv 1) (pe_lst (pa_cons (pe_callB (q_isiU (K := K)) (by rfl) T.b_isinstance bt_isinstance (pa_cons (pv 0) (pa_cons (pe_cls rfl T.m_UnknownName) pa_nil))) (pa_cons (pe_callB (q_isiU (K := K)) (by rfl) T.b_isinstance bt_isinstance (pa_cons (pv 0) (pa_cons (pe_cls rfl T.m_UnknownEnd) pa_nil))) (pa_cons (pe_callB (q_isiU (K := K)) (by rfl) T.b_isinstance bt_isinstance (pa_cons (pv 0) (pa_cons (pe_cls rfl T.m_UnknownEntry) pa_nil))) pa_nil))))))
  (pss_one (ps_ret (pe_op (q_add (K := K)) (pv 1) (pe_lst (pa_cons (pe_callB (q_isiU (K := K)) (by rfl) T.b_isinstance bt_isinstance (pa_cons (pv 0) (pa_cons (pe_cls rfl T.m_NothingLeft) pa_nil))) pa_nil)))))))))))))))), fun M as e => ?_⟩)
  subst e
  show Rg.Run K M [some (errK T a b c k), none] _ _
  refine run_asg1 (ev_lst1 (ea1 (ev_is T hk 0 (by decide) (ev_var rfl)) (ea1 (ev_is T hk 1 (by decide) (ev_var rfl)) (ea1 (ev_is T hk 2 (by decide) (ev_var rfl)) ea_nil))) (Nat.le_of_ble_eq_true rfl)) ?_
  refine run_asg1 (ev_op1 (ev_var rfl) (ev_lst1 (ea1 (ev_is T hk 3 (by decide) (ev_var rfl)) (ea1 (ev_is T hk 4 (by decide) (ev_var rfl)) (ea1 (ev_is T hk 5 (by decide) (ev_var rfl)) ea_nil))) (Nat.le_of_ble_eq_true rfl)) (od_catL (Nat.le_of_ble_eq_true rfl))) ?_
  refine run_asg1 (ev_op1 (ev_var rfl) (ev_lst1 (ea1 (ev_is T hk 6 (by decide) (ev_var rfl)) (ea1 (ev_is T hk 7 (by decide) (ev_var rfl)) (ea1 (ev_is T hk 8 (by decide) (ev_var rfl)) ea_nil))) (Nat.le_of_ble_eq_true rfl)) (od_catL (Nat.le_of_ble_eq_true rfl))) ?_
  refine run_asg1 (ev_op1 (ev_var rfl) (ev_lst1 (ea1 (ev_is T hk 9 (by decide) (ev_var rfl)) (ea1 (ev_is T hk 10 (by decide) (ev_var rfl)) (ea1 (ev_is T hk 11 (by decide) (ev_var rfl)) ea_nil))) (Nat.le_of_ble_eq_true rfl)) (od_catL (Nat.le_of_ble_eq_true rfl))) ?_
  refine run_asg1 (ev_op1 (ev_var rfl) (ev_lst1 (ea1 (ev_is T hk 12 (by decide) (ev_var rfl)) (ea1 (ev_is T hk 13 (by decide) (ev_var rfl)) (ea1 (ev_is T hk 14 (by decide) (ev_var rfl)) ea_nil))) (Nat.le_of_ble_eq_true rfl)) (od_catL (Nat.le_of_ble_eq_true rfl))) ?_
  refine run_asg1 (ev_op1 (ev_var rfl) (ev_lst1 (ea1 (ev_is T hk 15 (by decide) (ev_var rfl)) (ea1 (ev_is T hk 16 (by decide) (ev_var rfl)) (ea1 (ev_is T hk 17 (by decide) (ev_var rfl)) ea_nil))) (Nat.le_of_ble_eq_true rfl)) (od_catL (Nat.le_of_ble_eq_true rfl))) ?_
  refine run_asg1 (ev_op1 (ev_var rfl) (ev_lst1 (ea1 (ev_is T hk 18 (by decide) (ev_var rfl)) (ea1 (ev_is T hk 19 (by decide) (ev_var rfl)) (ea1 (ev_is T hk 20 (by decide) (ev_var rfl)) (ea1 (ev_is T hk 21 (by decide) (ev_var rfl)) ea_nil)))) (Nat.le_of_ble_eq_true rfl)) (od_catL (Nat.le_of_ble_eq_true rfl))) ?_
  refine run_asg1 (ev_op1 (ev_var rfl) (ev_lst1 (ea1 (ev_is T hk 22 (by decide) (ev_var rfl)) (ea1 (ev_is T hk 23 (by decide) (ev_var rfl)) (ea1 (ev_is T hk 24 (by decide) (ev_var rfl)) (ea1 (ev_is T hk 25 (by decide) (ev_var rfl)) ea_nil)))) (Nat.le_of_ble_eq_true rfl)) (od_catL (Nat.le_of_ble_eq_true rfl))) ?_
  refine run_asg1 (ev_op1 (ev_var rfl) (ev_lst1 (ea1 (ev_is T hk 26 (by decide) (ev_var rfl)) (ea1 (ev_is T hk 27 (by decide) (ev_var rfl)) (ea1 (ev_is T hk 28 (by decide) (ev_var rfl)) (ea1 (ev_is T hk 29 (by decide) (ev_var rfl)) ea_nil)))) (Nat.le_of_ble_eq_true rfl)) (od_catL (Nat.le_of_ble_eq_true rfl))) ?_
  refine run_asg1 (ev_op1 (ev_var rfl) (ev_lst1 (ea1 (ev_is T hk 30 (by decide) (ev_var rfl)) (ea1 (ev_is T hk 31 (by decide) (ev_var rfl)) (ea1 (ev_is T hk 32 (by decide) (ev_var rfl)) (ea1 (ev_is T hk 33 (by decide) (ev_var rfl)) ea_nil)))) (Nat.le_of_ble_eq_true rfl)) (od_catL (Nat.le_of_ble_eq_true rfl))) ?_
  refine run_asg1 (ev_op1 (ev_var rfl) (ev_lst1 (ea1 (ev_is T hk 34 (by decide) (ev_var rfl)) (ea1 (ev_is T hk 35 (by decide) (ev_var rfl)) (ea1 (ev_is T hk 36 (by decide) (ev_var rfl)) ea_nil))) (Nat.le_of_ble_eq_true rfl)) (od_catL (Nat.le_of_ble_eq_true rfl))) ?_
  exact run_ret1 (ev_op1 (ev_var rfl) (ev_lst1 (ea1 (ev_is T hk 37 (by decide) (ev_var rfl)) ea_nil) (Nat.le_of_ble_eq_true rfl)) (od_catL (Nat.le_of_ble_eq_true rfl))) rfl
/-! ### _law_caught -/
def saidL : List Str := ["day InvalidText", "missing UnknownEntry", "nothing NothingLeft"]
def errs3 (T : Tx K mg) (d : D) : List D := [excD T.c_InvalidText ["line"] "InvalidText" [d], excD T.c_UnknownEntry ["entry"] "UnknownEntry" [d], excD T.c_NothingLeft [] "NothingLeft" []]
def preCa (i : Nat) (d : D) (_ : Ml) (as : List D) : Prop := as = [.int (i : Int), d]
def postCa (i : Nat) (_ : List D) (r : D) : Prop := r = .str (saidL.getD i "")
theorem ok_caught (T : Tx K mg) (d : D) (i : Nat) (hi : i < 3) : FnOk P w K mg base CX0 3 T.f__law_caught T.fd__law_caught ["_law_way", "_law_thing"] (spF K (preCa i d) (postCa i)) := by
  refine fn_run T.F__law_caught sc_Lcaught (fun M as e => by rw [e]; rfl) (fun cdv A outer s H E hr => ⟨_, (pss_one (ps_tryH rfl rfl sc_Lcaught.nd takes0 (fun W pn xe tk _ => (pss_cons (ps_if (pt_cmpR op_eq (pv 0) pe_int (nomark _)) (pss_one (ps_rz rfl tk (pmk_x T.x_InvalidText.toXc T.i_InvalidText T.t_InvalidText (G_init_InvalidText T) (hr.mono (by decide)) (B_init_InvalidText T) .nil pass0 (by rfl) T.m_InvalidText (pa_cons (pv 1) pa_nil)))) pss_nil)
    (pss_cons (ps_if (pt_cmpR op_eq (pv 0) pe_int (nomark _)) (pss_one (ps_rz rfl tk (pmk_x T.x_UnknownEntry.toXc T.i_UnknownEntry T.t_UnknownEntry (G_init_UnknownEntry T) (hr.mono (by decide)) (B_init_UnknownEntry T) .nil pass0 (by rfl) T.m_UnknownEntry (pa_cons (pv 1) pa_nil)))) pss_nil)
    (pss_one (ps_rz rfl tk (pmk_xK (ks := []) T.x_NothingLeft.toXc T.i_NothingLeft T.t_NothingLeft (G_init_NothingLeft T) (hr.mono (by decide)) (KB_init_NothingLeft T) pass0 (by rfl) T.m_NothingLeft pk_nil)))))) (HdOk.name (i := 2) (ht_name ⟨by rfl, by decide, .inl T.m_DayError⟩) rfl rfl (fun p _ hf => (pss_one (ps_ret (pe_op (q_add (K := K)) pe_str (q_xq (K := K) List.mem_cons_self hf (pv 2)))))) (HdOk.name (i := 2) (ht_name ⟨by rfl, by decide, .inl T.m_Missing⟩) rfl rfl (fun p _ hf => (pss_one (ps_ret (pe_op (q_add (K := K)) pe_str (q_xq (K := K) List.mem_cons_self hf (pv 2)))))) (HdOk.name (i := 2) (ht_name ⟨by rfl, by decide, .inl T.m_NothingLeft⟩) rfl rfl (fun p _ hf => (pss_one (ps_ret (pe_op (q_add (K := K)) pe_str (q_xq (K := K) List.mem_cons_self hf (pv 2)))))) HdOk.nil))))), fun M as e => ?_⟩)
  subst e
  show Rg.Run K M [some (.int (i : Int)), some d, none] _ _
  refine run_try (fun x' ds' => x' = (errs3 T d).getD i .non ∧ ds' = [some (.int (i : Int)), some d, none]) (fun W => ?_) (fun x' ds' ⟨e1, e2⟩ => ?_)
  · have exk : ∀ x, x = (errs3 T d).getD i .non → Exk K (M.tr K W fun x' ds' => x' = (errs3 T d).getD i .non ∧ ds' = [some (.int (i : Int)), some d, none]) x [some (.int (i : Int)), some d, none] := fun x e => exk_D rfl ⟨e, rfl⟩
    match i, hi, exk with
    | 0, _, exk =>
      refine run_seq ?_
      apply run_ifT
      · walk_at "et"
      · rfl
      exact run_raise rfl (ea1 (ev_var rfl) ea_nil) rfl (exk _ rfl)
    | 1, _, exk =>
      refine run_seq ?_
      apply run_ifF
      · walk_at "et"
      · rfl
      refine run_next ?_
      refine run_seq ?_
      apply run_ifT
      · walk_at "et"
      · rfl
      exact run_raise rfl (ea1 (ev_var rfl) ea_nil) rfl (exk _ rfl)
    | 2, _, exk =>
      refine run_seq ?_
      apply run_ifF
      · walk_at "et"
      · rfl
      refine run_next ?_
      refine run_seq ?_
      apply run_ifF
      · walk_at "et"
      · rfl
      refine run_next ?_
      exact run_raiseK rfl ea_nil rfl rfl (exk _ rfl)
  · subst e2
    match i, hi, e1 with
    | 0, _, e1 =>
      subst e1
      refine ⟨true, T.eT, fun _ p dd hz => ?_, (fun e => nomatch e)⟩
      exact run_ret1 (ev_op1 ev_cstr (ev_xq (ev_var rfl) hz T.x_InvalidText (T.no_InvalidText _ (by decide)) (by rfl)) (od_addS (by decide +kernel))) (congrArg D.str (by decide +kernel))
    | 1, _, e1 =>
      subst e1
      refine ⟨false, T.eE1, (fun e => nomatch e), fun _ => ⟨true, T.eE2, fun _ p dd hz => ?_, (fun e => nomatch e)⟩⟩
      exact run_ret1 (ev_op1 ev_cstr (ev_xq (ev_var rfl) hz T.x_UnknownEntry (T.no_UnknownEntry _ (by decide)) (by rfl)) (od_addS (by decide +kernel))) (congrArg D.str (by decide +kernel))
    | 2, _, e1 =>
      subst e1
      refine ⟨false, T.eN1, (fun e => nomatch e), fun _ => ⟨false, T.eN2, (fun e => nomatch e), fun _ => ⟨true, T.eN3, fun _ p dd hz => ?_, (fun e => nomatch e)⟩⟩⟩
      exact run_ret1 (ev_op1 ev_cstr (ev_xq (ev_var rfl) hz T.x_NothingLeft (T.no_NothingLeft _ (by decide)) (by rfl)) (od_addS (by decide +kernel))) (congrArg D.str (by decide +kernel))
end
end K0
namespace K0
open PySem L2 Rg RZ PyProof.Rows
local macro_rules | `(tactic| walk_at "ev") => `(tactic| first
  | with_reducible assumption
  | ((with_reducible apply ev_var); exact rfl)
  | with_reducible exact ev_cint
  | with_reducible exact ev_cbl
  | with_reducible exact ev_cnon
  | with_reducible exact ev_cstr
  | with_reducible exact ev_craw
  | ((with_reducible apply ev_tup1); walk_at "ea"; exact Nat.le_of_ble_eq_true rfl)
  | ((with_reducible apply ev_lst1); walk_at "ea"; exact Nat.le_of_ble_eq_true rfl)
  | ((with_reducible apply ev_op1); walk_at "ev"; walk_at "ev"; walk_at "od")
  | ((with_reducible apply ev_un1); walk_at "ev"; exact ud_neg)
  | ((with_reducible apply ev_isSeq); walk_at "ev"; walk_at "ea"; exact rfl; exact rfl)
  | ((with_reducible apply ev_cb1); walk_at "ea"; walk_at "cd")
  | ((with_reducible apply ev_chainB); walk_at "ev"; walk_at "ev"; walk_at "od"; walk_at "ev"; walk_at "od")
  | ((with_reducible apply ev_andF); walk_at "ev"; exact rfl)
  | ((with_reducible apply ev_andT); walk_at "ev"; exact rfl; walk_at "ev")
  | ((with_reducible apply ev_andB); walk_at "ev"; intro _; walk_at "ev")
  | ((with_reducible apply ev_orT); walk_at "ev"; exact rfl)
  | ((with_reducible apply ev_orF); walk_at "ev"; exact rfl; walk_at "ev")
  | ((with_reducible apply ev_orB); walk_at "ev"; intro _; walk_at "ev")
  | ((with_reducible apply ev_notV); walk_at "ev"))
local macro_rules | `(tactic| walk_at "et") => `(tactic| first
  | ((with_reducible apply et_B); walk_at "ev")
  | ((with_reducible apply et_test); walk_at "ev")
  | ((with_reducible apply et_not); walk_at "et")
  | ((with_reducible apply et_orT); walk_at "et"; exact rfl)
  | ((with_reducible apply et_orF); walk_at "et"; exact rfl; walk_at "et")
  | ((with_reducible apply et_or); walk_at "et"; intro _; walk_at "et")
  | ((with_reducible apply et_andF); walk_at "et"; exact rfl)
  | ((with_reducible apply et_andT); walk_at "et"; exact rfl; walk_at "et")
  | ((with_reducible apply et_and); walk_at "et"; intro _; walk_at "et"))
local macro_rules | `(tactic| walk_at "ea") => `(tactic| first
  | with_reducible exact ea_nil
  | ((with_reducible apply ea1); walk_at "ev"; walk_at "ea"))
local macro_rules | `(tactic| walk_at "od") => `(tactic| first
  | with_reducible exact od_addI
  | with_reducible exact od_subI
  | ((with_reducible apply od_addS); (try simp only [PySem.Str.length_append]); omega)
  | ((with_reducible apply od_catL); exact Nat.le_of_ble_eq_true rfl)
  | ((with_reducible apply od_modI); first | decide | omega)
  | ((with_reducible apply od_mulI); first | (exact Or.inr ⟨by decide, by decide⟩) | (exact Or.inl ⟨by decide, by decide⟩) | (exact Or.inl ⟨by omega, by omega⟩) | (exact Or.inr ⟨by omega, by omega⟩))
  | ((with_reducible apply od_divI); first | (exact ⟨by decide, by decide⟩) | (exact ⟨by omega, by omega⟩))
  | ((with_reducible apply od_powI); exact ⟨by decide, by decide, by decide⟩)
  | with_reducible exact od_leI
  | with_reducible exact od_ltI
  | with_reducible exact od_gtI
  | with_reducible exact od_geI
  | with_reducible exact od_eqI
  | with_reducible exact od_eqB
  | with_reducible exact od_neB
  | with_reducible exact od_neI
  | with_reducible exact od_eqS
  | with_reducible exact od_inS
  | ((with_reducible apply od_none); exact rfl)
  | ((with_reducible apply od_ix); exact rfl))
local macro_rules | `(tactic| walk_at "cd") => `(tactic| first
  | ((with_reducible apply cd_isStr); exact rfl)
  | ((with_reducible apply cd_isInt); exact rfl)
  | ((with_reducible apply cd_isBool); exact rfl)
  | ((with_reducible apply cd_isList); exact rfl)
  | ((with_reducible apply cd_isTuple); exact rfl)
  | ((with_reducible apply cd_isi); assumption)
  | ((with_reducible apply cd_len); assumption)
  | ((with_reducible apply cd_len); exact rfl)
  | with_reducible exact cd_intI
  | with_reducible exact cd_listof
  | ((with_reducible apply cd_str); assumption)
  | with_reducible exact cd_all)
local macro_rules | `(tactic| walk_at "px") => `(tactic| first
  | ((with_reducible apply px_var); exact rfl)
  | with_reducible exact px_c
  | ((with_reducible apply px_op); walk_at "px"; walk_at "px"; walk_at "pr")
  | ((with_reducible apply px_cb); walk_at "pa"; walk_at "pr")
  | ((with_reducible apply px_test); walk_at "px")
  | ((with_reducible apply px_B); walk_at "px")
  | ((with_reducible apply px_and); walk_at "px"; walk_at "px"))
local macro_rules | `(tactic| walk_at "pa") => `(tactic| first
  | with_reducible exact px_nil
  | ((with_reducible apply px_cons); walk_at "px"; walk_at "pa"))
local macro_rules | `(tactic| walk_at "pr") => `(tactic| first
  | exact px_addI
  | (apply px_ix; assumption; exact rfl)
  | (apply px_ix; assumption; assumption)
  | exact px_eqI
  | exact fun Q q => ⟨_, _, rfl, rfl, q⟩
  | exact fun Q q => ⟨_, _, rfl, rfl, (Or.inr ⟨by decide, by decide⟩), q⟩
  | exact fun Q q => ⟨_, _, rfl, rfl, (Or.inl ⟨by omega, by omega⟩), q⟩
  | exact fun Q q => ⟨_, _, rfl, rfl, (Or.inr ⟨by omega, by omega⟩), q⟩
  | exact fun Q q => ⟨_, _, rfl, rfl, ⟨by decide, by decide⟩, q⟩
  | exact fun Q q => ⟨_, _, rfl, rfl, ⟨by omega, by omega⟩, q⟩
  | exact fun Q q => ⟨_, _, rfl, rfl, ⟨by decide, by decide, by decide⟩, q⟩
  | exact fun Q q => ⟨_, _, rfl, rfl, (by decide), q⟩
  | exact fun Q q => ⟨_, _, rfl, rfl, (by omega), q⟩
  | (apply px_len; assumption)
  | exact px_intI
  | exact px_abs)
local macro_rules | `(tactic| walk_at "fg") => `(tactic| repeat first | exact Fg.nil | apply Fg.keep | apply Fg.drop)
section
variable {P : Program} {w : World} {K : PySem.W.Frag} {mg : Str → Option Value} {base : Heap}
def spLaw (K : PySem.W.Frag) : Sp := fun vs H Q _ => ∃ (a : Addr) (ns : List Int), vs = [.ref a] ∧ SqL K H a (ns.map V.int) ∧ ns.length ≤ 63 ∧ ∀ H', Q (.bl true) H'
theorem B_bag (T : Tx K mg) : Binds K T.fd__law_bag ["_law_script"] [] := T.F__law_bag.binds fun _ _ _ _ _ _ us hl => match us, hl with | [_], _ => rfl
theorem B_of (T : Tx K mg) : Binds K T.fd__law_of ["_law_bag_here", "_law_some"] [] := T.F__law_of.binds fun _ _ _ _ _ _ us hl => match us, hl with | [_, _], _ => rfl
theorem B_same (T : Tx K mg) : Binds K T.fd__law_same ["_law_found", "_law_due"] [] := T.F__law_same.binds fun _ _ _ _ _ _ us hl => match us, hl with | [_, _], _ => rfl
theorem B_fields (T : Tx K mg) : Binds K T.fd__law_fields ["_law_e"] [] := T.F__law_fields.binds fun _ _ _ _ _ _ us hl => match us, hl with | [_], _ => rfl
theorem B_classes (T : Tx K mg) : Binds K T.fd__law_classes ["_law_e"] [] := T.F__law_classes.binds fun _ _ _ _ _ _ us hl => match us, hl with | [_], _ => rfl
theorem B_codes (T : Tx K mg) : Binds K T.fd__law_codes [] [] := T.F__law_codes.binds fun _ _ _ _ _ _ us hl => match us, hl with | [], _ => rfl
theorem B_byname (T : Tx K mg) : Binds K T.fd__law_by_name ["_law_first", "_law_second", "_law_third"] [] := T.F__law_by_name.binds fun _ _ _ _ _ _ us hl => match us, hl with | [_, _, _], _ => rfl
theorem B_byplace (T : Tx K mg) : Binds K T.fd__law_by_place ["_law_first", "_law_second", "_law_third"] [] := T.F__law_by_place.binds fun _ _ _ _ _ _ us hl => match us, hl with | [_, _, _], _ => rfl
theorem B_caught (T : Tx K mg) : Binds K T.fd__law_caught ["_law_way", "_law_thing"] [] := T.F__law_caught.binds fun _ _ _ _ _ _ us hl => match us, hl with | [_, _], _ => rfl
theorem gn_of {i : Nat} {v : V} {σ : L2.St} {H : Hp} {Q : L2.St → Hp → Prop} (h : Q (σ.set i (some v)) H) : gName i v σ H Q := h
abbrev Ix : Type := D × D × D × Fin 38
def menu : List D := [.non, .bl true, .int 0, .int (-1), .int ((10 : Int) ^ (9 : Int).toNat), .str "", .str "abc", .tup [], .list [.str "a"], .tup [.str "a", .int 2], .list [.tup [.str "a", .int 0]], .str "west.s.1"]
theorem menu_ok : ∀ d, d ∈ menu → okN 4 d = true := by
  intro d h
  unfold menu at h
  repeat (rcases List.mem_cons.mp h with rfl | h; · rfl)
  cases h
theorem range_at {n k : Nat} {d : D} (h : (rangeD 0 n)[k]? = some d) : k < n ∧ d = .int (k : Int) := by
  unfold rangeD at h
  rw [List.getElem?_map] at h
  by_cases hk : k < n
  · rw [List.getElem?_range hk] at h
    exact ⟨hk, (Option.some.inj h).symm.trans (congrArg D.int (Int.zero_add _))⟩
  · rw [List.getElem?_eq_none (by rw [List.length_range]; omega)] at h
    cases h
def wdL : List D := (List.range 38).map fun k => .int (wid k : Int)
theorem wid3 : ∀ k < 38, wid k ≤ 3 := by decide +kernel
theorem cut3 (a b c : D) : ∀ n : Nat, n ≤ 3 → cutD [a, b, c] none (some (n : Int)) = [a, b, c].take n
  | 0, _ => rfl
  | 1, _ => rfl
  | 2, _ => rfl
  | 3, _ => rfl
  | n + 4, h => absurd h (by omega)
theorem take_ok {a b c : D} (ha : okN 4 a = true) (hb : okN 4 b = true) (hc : okN 4 c = true) : ∀ n : Nat, n ≤ 3 → okN 5 (.tup ([a, b, c].take n)) = true
  | 0, _ => rfl
  | 1, _ => by simp [okN, ha]
  | 2, _ => by simp [okN, ha, hb]
  | 3, _ => by simp [okN, ha, hb, hc]
  | n + 4, h => absurd h (by omega)
theorem at_map {f : Nat → D} {k n : Nat} (hk : k < n) : atI ((List.range n).map f) (k : Int) = some (f k) := by
  unfold atI ixN
  rw [List.length_map, List.length_range, if_pos (by omega), if_pos (by omega)]
  show ((List.range n).map f)[((k : Int)).toNat]? = some (f k)
  rw [Int.toNat_natCast, List.getElem?_map, List.getElem?_range hk]
  rfl
theorem ev_same {M : Mt} {ds : DS} {ta tb : TE} {E : XK} {d : D} (ha : Ev K M ds ta (· = d)) (hb : Ev K M ds tb (· = d)) (hd : okN 5 d = true) : Ev K M ds (tCall (spF K (preSame 5) (postSame 5)) [] E (tCons ta (tCons tb tNil))) (· = .bl true) :=
  (ev_call1 (ea1 ha (ea1 hb ea_nil)) fun _ _ => ⟨d, d, rfl, hd, hd⟩).weak fun r q => by rw [q d d rfl, sameN_refl 5 d hd]
theorem codes_eq : (List.range 38).map (fun k => D.str (cdL.getD k "")) = cdL.map D.str := by rfl
theorem codes_ok : okN 5 (.list (cdL.map D.str)) = true := by decide +kernel
theorem is38_fl (k : Nat) : flD 2 (.list (isL38 k)) = true := by
  show (isL38 k).all (flD 1) = true
  unfold isL38
  rw [List.all_map]
  exact List.all_eq_true.mpr fun j _ => rfl
theorem ok_law (T : Tx K mg) : FnOk P w K mg base CX0 6 T.f_law T.fd_law ["_law_script"] (spLaw K) := by
  have G_Lbag := ok_bag (P := P) (w := w) (base := base) T
  have G_Lof := ok_of (P := P) (w := w) (base := base) T
  have G_Lsame := ok_same (P := P) (w := w) (base := base) T 5
  have G_Lfields := fn_any fun i : Ix => ok_fields (P := P) (w := w) (base := base) T i.1 i.2.1 i.2.2.1 i.2.2.2.1 i.2.2.2.2
  have G_Lclasses := fn_any fun i : Ix => ok_classes (P := P) (w := w) (base := base) T i.1 i.2.1 i.2.2.1 i.2.2.2.1 i.2.2.2.2
  have G_Lcodes := ok_codes (P := P) (w := w) (base := base) T
  have G_Lbyname := fn_any fun i : D × D × D => ok_byname (P := P) (w := w) (base := base) T i.1 i.2.1 i.2.2
  have G_Lbyplace := fn_any fun i : D × D × D => ok_byplace (P := P) (w := w) (base := base) T i.1 i.2.1 i.2.2
  have G_Lcaught := fn_any fun i : D × Fin 3 => ok_caught (P := P) (w := w) (base := base) T i.1 i.2.1 i.2.2
  have B_Lbag := B_bag T
  have B_Lof := B_of T
  have B_Lsame := B_same T
  have B_Lfields := B_fields T
  have B_Lclasses := B_classes T
  have B_Lcodes := B_codes T
  have B_Lbyname := B_byname T
  have B_Lbyplace := B_byplace T
  have B_Lcaught := B_caught T
  refine T.F_law.ok sc_law (fun vs H Q E h => ?_) (fun cdv A outer s H vs Q E hr h => ?_)
  · obtain ⟨a, ns, rfl, _⟩ := h
    rfl
  · obtain ⟨a, ns, rfl, hS, hl, q⟩ := h
    refine ⟨_, (pss_cons (ps_set (i := 1) sc_law.nd rfl (Or.inl rfl) (pe_call G_Lbag (hr.mono (by decide)) (by rfl) T.m__law_bag T.F__law_bag.kp B_Lbag .nil pass0 (pa_cons (pv 0) pa_nil)))
  (pss_cons (ps_set (i := 2) sc_law.nd rfl (Or.inl rfl) (pe_lst (pa_cons pe_non (pa_cons pe_bl (pa_cons pe_int (pa_cons (pe_un un_neg pe_int) (pa_cons (pe_op op_pow pe_int pe_int) (pa_cons pe_str (pa_cons pe_str (pa_cons (pe_tup pa_nil) (pa_cons (pe_lst (pa_cons pe_str pa_nil)) (pa_cons (pe_tup (pa_cons pe_str (pa_cons pe_int pa_nil))) (pa_cons (pe_lst (pa_cons (pe_tup (pa_cons pe_str (pa_cons pe_int pa_nil))) pa_nil)) (pa_cons pe_str pa_nil))))))))))))))
  (pss_cons (ps_asg (pe_tup (pa_cons (pe_call G_Lof (hr.mono (by decide)) (by rfl) T.m__law_of T.F__law_of.kp B_Lof .nil pass0 (pa_cons (pv 1) (pa_cons (pv 2) pa_nil))) (pa_cons (pe_call G_Lof (hr.mono (by decide)) (by rfl) T.m__law_of T.F__law_of.kp B_Lof .nil pass0 (pa_cons (pv 1) (pa_cons (pv 2) pa_nil))) (pa_cons (pe_call G_Lof (hr.mono (by decide)) (by rfl) T.m__law_of T.F__law_of.kp B_Lof .nil pass0 (pa_cons (pv 1) (pa_cons (pv 2) pa_nil))) pa_nil)))) (q_tup (K := K) (n := 3) rfl (pgs_cons (pg_name (i := 3) sc_law.nd rfl (Or.inr rfl)) (pgs_cons (pg_name (i := 4) sc_law.nd rfl (Or.inl rfl)) (pgs_cons (pg_name (i := 5) sc_law.nd rfl (Or.inl rfl)) pgs_nil)))))
  (pss_cons (ps_set (i := 6) sc_law.nd rfl (Or.inl rfl) (pe_op (q_add (K := K)) (pe_op (q_add (K := K)) (pe_op op_mulU (pe_lst (pa_cons pe_int pa_nil)) pe_int) (pe_lst (pa_cons pe_int (pa_cons pe_int (pa_cons pe_int (pa_cons pe_int (pa_cons pe_int (pa_cons pe_int (pa_cons pe_int (pa_cons pe_int (pa_cons pe_int (pa_cons pe_int (pa_cons pe_int (pa_cons pe_int (pa_cons pe_int pa_nil))))))))))))))) (pe_lst (pa_cons pe_int (pa_cons pe_int (pa_cons pe_int (pa_cons pe_int pa_nil)))))))
  (pss_cons (ps_for PassesOwn.never rfl (q_itany (K := K) (pe_lst (pa_cons (pe_call G_Lbyname (hr.mono (by decide)) (by rfl) T.m__law_by_name T.F__law_by_name.kp B_Lbyname .nil pass0 (pa_cons (pv 3) (pa_cons (pv 4) (pa_cons (pv 5) pa_nil)))) (pa_cons (pe_call G_Lbyplace (hr.mono (by decide)) (by rfl) T.m__law_by_place T.F__law_by_place.kp B_Lbyplace .nil pass0 (pa_cons (pv 3) (pa_cons (pv 4) (pa_cons (pv 5) pa_nil)))) pa_nil)))) (pg_name (i := 7) sc_law.nd rfl (Or.inl rfl))
    (pss_cons (ps_if (pt_not (pt_val (pe_call G_Lsame (hr.mono (by decide)) (by rfl) T.m__law_same T.F__law_same.kp B_Lsame .nil pass0 (pa_cons (pe_lc (own := [("_law_e", 9)]) (g := (gName 9)) (tt := tYes) (by rfl) sc_law.nd (q_itany (K := K) (pv 7)) (blkOk_by (own := [("_law_e", 9)]) (N := n_law) (sc := defScope s_law) (by decide +kernel)) (fun _ _ _ _ _ => (pg_name (i := 9) sc_law.nd rfl (Or.inl rfl))) (fun _ _ _ _ _ => pts_nil) (fun _ _ _ _ _ => (q_xget (K := K) (pv 9)))) (pa_cons (pe_call0 G_Lcodes (hr.mono (by decide)) (by rfl) T.m__law_codes T.F__law_codes.kp B_Lcodes .nil pass0) pa_nil))))) (pss_one (ps_ret pe_bl)) pss_nil)
    (pss_one (ps_for PassesOwn.never rfl (pi_range1 rfl T.b_range (pa_cons (pe_callB (q_len (K := K)) (by rfl) T.b_len bt_len (pa_cons (pv 7) pa_nil)) pa_nil)) (pg_name (i := 8) sc_law.nd rfl (Or.inr rfl))
      (pss_cons (ps_par rfl sc_law.nd (i := 9) (j := 10) rfl rfl (by decide) rfl rfl (pa_cons (pe_ix (q_ix (K := K)) (pv 7) (pv 8) (fun _ _ => rfl)) (pa_cons (pe_slice (q_sl (K := K)) (pe_tup (pa_cons (pv 3) (pa_cons (pv 4) (pa_cons (pv 5) pa_nil)))) po_none (po_some (pe_ix (q_ix (K := K)) (pv 6) (pv 8) (fun _ _ => rfl)))) pa_nil)) (by rfl))
      (pss_cons (ps_if (PW.pt (pw_or (pt_not (pt_val (pe_call G_Lsame (hr.mono (by decide)) (by rfl) T.m__law_same T.F__law_same.kp B_Lsame .nil pass0 (pa_cons (pe_call G_Lfields (hr.mono (by decide)) (by rfl) T.m__law_fields T.F__law_fields.kp B_Lfields .nil pass0 (pa_cons (pv 9) pa_nil)) (pa_cons (pv 10) pa_nil))))) (pw_or1 (pt_cmpR (q_neD (K := K) (room_u hr)) (pe_call G_Lclasses (hr.mono (by decide)) (by rfl) T.m__law_classes T.F__law_classes.kp B_Lclasses .nil pass0 (pa_cons (pv 9) pa_nil)) (pe_lc (own := [("_law_j", 12)]) (g := (gName 12)) (tt := tYes) (by rfl) sc_law.nd (pi_range1 rfl T.b_range (pa_cons pe_int pa_nil)) (blkOk_by (own := [("_law_j", 12)]) (N := n_law) (sc := defScope s_law) (by decide +kernel)) (fun _ _ _ _ _ => (pg_name (i := 12) sc_law.nd rfl (Or.inl rfl))) (fun _ _ _ _ _ => pts_nil) (fun _ _ _ _ _ => (pe_cmpR op_eq (pv 12) (pv 8) (nomark _)))) (nomark _))))) (pss_one (ps_ret pe_bl)) pss_nil)
      (pss_cons (ps_set (i := 11) sc_law.nd rfl (Or.inl rfl) (pe_lst (pa_cons (pe_callB (q_isiU (K := K)) (by rfl) T.b_isinstance bt_isinstance (pa_cons (pv 9) (pa_cons (pe_cls rfl T.m_DayError) pa_nil))) (pa_cons (pe_callB (q_isiU (K := K)) (by rfl) T.b_isinstance bt_isinstance (pa_cons (pv 9) (pa_cons (pe_ty PyProof.Rows.Boot.«ValueError» T.b_ValueError) pa_nil))) (pa_cons (pe_callB (q_isiU (K := K)) (by rfl) T.b_isinstance bt_isinstance (pa_cons (pv 9) (pa_cons (pe_cls rfl T.m_Missing) pa_nil))) (pa_cons (pe_callB (q_isiU (K := K)) (by rfl) T.b_isinstance bt_isinstance (pa_cons (pv 9) (pa_cons (pe_ty PyProof.Rows.Boot.«LookupError» T.b_LookupError) pa_nil))) pa_nil))))))
      (pss_one (ps_if (PW.pt (pw_or (pt_cmpR (q_neD (K := K) (room_u hr)) (pv 11) (pe_lst (pa_cons (pe_cmpR op_lt (pv 8) pe_int (nomark _)) (pa_cons (pe_cmpR op_lt (pv 8) pe_int (nomark _)) (pa_cons (pe_chain op_le op_lt pe_int (pv 8) pe_int) (pa_cons (pe_cmpR op_ge (pv 8) pe_int (nomark _)) pa_nil))))) (nomark _)) (pw_or1 (pt_cmpR op_ne (pe_callB (q_isiU (K := K)) (by rfl) T.b_isinstance bt_isinstance (pa_cons (pv 9) (pa_cons (pe_ty PyProof.Rows.Boot.«IndexError» T.b_IndexError) pa_nil))) (pe_cmpR op_eq (pv 8) pe_int (nomark _)) (nomark _))))) (pss_one (ps_ret pe_bl)) pss_nil)))))))))
  (pss_one (ps_ret (pe_cmpR (q_eqD (K := K) (room_u hr)) (pe_lc (own := [("_law_way", 13)]) (g := (gName 13)) (tt := tYes) (by rfl) sc_law.nd (pi_range1 rfl T.b_range (pa_cons pe_int pa_nil)) (blkOk_by (own := [("_law_way", 13)]) (N := n_law) (sc := defScope s_law) (by decide +kernel)) (fun _ _ _ _ _ => (pg_name (i := 13) sc_law.nd rfl (Or.inl rfl))) (fun _ _ _ _ _ => pts_nil) (fun _ _ _ _ _ => (pe_call G_Lcaught (hr.mono (by decide)) (by rfl) T.m__law_caught T.F__law_caught.kp B_Lcaught .nil pass0 (pa_cons (pv 13) (pa_cons (pv 3) pa_nil))))) (pe_lst (pa_cons pe_str (pa_cons pe_str (pa_cons pe_str pa_nil)))) (nomark _))))))))), ?_⟩
    refine ⟨.ref a, rfl, a, ns, rfl, hS, hl, fun b0 G1 H1 w1 => ?_⟩
    have hm : (b0, IsBag K) ∈ ({ l := [(b0, IsBag K)] } : Mt) := List.mem_singleton.mpr rfl
    refine gn_of ?_
    dsimp only
    refine run_at (K := K) (M := { l := [(b0, IsBag K)] }) (G := G1) (ds := [none, some (.raw (.ref b0)), none, none, none, none, none, none, none, none, none, none, none, none]) (E := { nx := fun _ => False, rt := fun d => d = .bl true }) ?_
      (sg_none (sg_some (.raw _) (sg_none (sg_none (sg_none (sg_none (sg_none (sg_none (sg_none (sg_none (sg_none (sg_none (sg_none (sg_none sg_nil)))))))))))))) ⟨w1, fun _ _ _ _ _ z => z.elim⟩
      ?_
    rotate_left
    · exact ⟨fun _ _ _ _ e => e.elim, fun v d G' H' e s' r' w' => by
          have e : d = .bl true := e
          subst e
          rw [r'.bl_inv]
          exact q H', fun _ _ _ _ e => e.elim, fun _ _ _ _ e => e.elim⟩
    refine run_asg1 (d := .list menu) (ev_eq (by walk_at "ev") (by exact rfl)) ?_
    have evo : ∀ ds : DS, ds[1]? = some (some (.raw (.ref b0))) → ds[2]? = some (some (.list menu)) → Ev K { l := [(b0, IsBag K)] } ds (tCall (spF K (preOf K) postOf) [] E0 (tCons (tVar 1) (tCons (tVar 2) tNil))) (· ∈ menu) := fun ds h1 h2 =>
      ev_of (ev_var h1) (ev_var h2) hm rfl rfl
    refine run_seq (run_asgG (ev_tup (ea_cons (evo _ rfl rfl) (ea_cons (evo _ rfl rfl) (ea_cons (evo _ rfl rfl) ea_nil))) fun as ⟨_, _, e, _, _, _, e2, _, _, _, e3, _, e4⟩ => by rw [e, e2, e3, e4]; exact (by simp)) fun d ⟨as, e, ⟨x, r, e1, hx, y, r2, e2, hy, z, r3, e3, hz, e4⟩⟩ => ?_)
    subst e4; subst e3; subst e2; subst e1; subst e
    refine eg_tup (egs_cons (egs_cons (egs_cons (egs_nil ?_))))
    have ox := menu_ok x hx
    have oy := menu_ok y hy
    have oz := menu_ok z hz
    refine run_asg1 (d := .list wdL) (ev_eq (ev_op1 (ev_op1 (ev_op1 (by walk_at "ev") ev_cint (od_rep (by decide) (by decide) (by decide))) (by walk_at "ev") (od_catL (Nat.le_of_ble_eq_true rfl))) (by walk_at "ev") (od_catL (Nat.le_of_ble_eq_true rfl))) (by exact rfl)) ?_
    have hrows : ∀ ds : DS, ds[3]? = some (some x) → ds[4]? = some (some y) → ds[5]? = some (some z) → EvA K { l := [(b0, IsBag K)] } ds (tCons (tVar 3) (tCons (tVar 4) (tCons (tVar 5) tNil))) (· = [x, y, z]) := fun ds h1 h2 h3 => ea1 (ev_var h1) (ea1 (ev_var h2) (ea1 (ev_var h3) ea_nil))
    refine run_seq (run_forF [none, none, none, some x, some y, some z, some (.list wdL), none, none, none, none, none, none, none] (ei_any (d := .list [.list (rows T x y z), .list (rows T x y z)]) (ev_lst1 (ea1 (ev_callI1 (x, y, z) (hrows _ rfl rfl rfl) (fun _ _ => rfl) fun _ e => e) (ea1 (ev_callI1 (x, y, z) (hrows _ rfl rfl rfl) (fun _ _ => rfl) fun _ e => e) ea_nil)) (Nat.le_of_ble_eq_true rfl)) rfl) (by walk_at "fg") (fun es i d he hi => ?_) ?_)
    · subst he
      have hd : d = .list (rows T x y z) := by
        match i, hi with
        | 0, hi => cases hi; rfl
        | 1, hi => cases hi; rfl
        | n + 2, hi => cases hi
      subst hd
      refine eg_name ?_
      dsimp only [List.set]
      refine run_seq (run_ifF (et_not (et_test (ev_same (d := .list (cdL.map D.str)) (ev_eq (ev_lcM (cs := List.range 38) (inj := errK T x y z) (f := fun k => D.str (cdL.getD k "")) (ei_any (ev_var rfl) rfl) (by decide) fun k hk => eg_name (ev_code T (List.mem_range.mp hk) (ev_var rfl))) (congrArg D.list codes_eq)) (ev_call1 ea_nil fun _ _ => rfl) codes_ok))) rfl (run_next ?_))
      refine run_forF [none, none, none, some x, some y, some z, some (.list wdL), some (.list (rows T x y z)), none, none, none, none, none, none] (ei_range (n := 38) (ea1 (ev_cb1 (ea1 (ev_var rfl) ea_nil) (cd_len (n := 38) rfl)) ea_nil) (by decide)) (by walk_at "fg") (fun es k d he hk0 => ?_) (by walk_at "fg")
      subst he
      obtain ⟨hk, rfl⟩ := range_at hk0
      have hk : k < 38 := hk
      refine eg_name ?_
      dsimp only [List.set]
      refine run_seq (run_par (ea1 (a := errK T x y z k) (ev_op1 (ev_var rfl) (ev_var rfl) (od_ix (at_map hk))) (ea1 (a := .tup ([x, y, z].take (wid k))) (ev_eq (ev_slT (xs := [x, y, z]) (hi := some (wid k : Int)) (ev_tup1 (ea1 (ev_var rfl) (ea1 (ev_var rfl) (ea1 (ev_var rfl) ea_nil))) (Nat.le_of_ble_eq_true rfl)) eo_none (eo_some (ev_op1 (ev_var rfl) (ev_var rfl) (od_ix (at_map (f := fun k => .int (wid k : Int)) hk))))) (congrArg D.tup (cut3 x y z _ (wid3 k hk)))) ea_nil)) fun l e => ⟨_, _, e, ?_⟩)
      dsimp only [List.set]
      refine run_seq (run_ifF (et_orF (et_not (et_test (ev_same (d := .tup ([x, y, z].take (wid k))) (ev_callI1 ((x, y, z, (⟨k, hk⟩ : Fin 38)) : Ix) (ea1 (ev_var rfl) ea_nil) (fun _ _ => rfl) fun _ e => e) (ev_var rfl) (take_ok ox oy oz _ (wid3 k hk))))) rfl (et_B (ev_eq (d' := .bl false) (ev_op1 (ev_callI1 (d := .list (isL38 k)) ((x, y, z, (⟨k, hk⟩ : Fin 38)) : Ix) (ea1 (ev_var rfl) ea_nil) (fun _ _ => rfl) fun _ e => e) (ev_lcM (cs := List.range 38) (inj := fun j => .int (0 + (j : Int))) (f := fun j => .bl (decide (j = k))) (ei_range (n := 38) (ea1 ev_cint ea_nil) (by decide)) (by decide) fun j hj => eg_name (ev_eq (ev_op1 (ev_var rfl) (ev_var rfl) od_eqI) (congrArg D.bl (by rw [decide_eq_decide]; omega)))) (od_neD (n := 2) (is38_fl k) (is38_fl k))) (by rw [show (List.range 38).map (fun j => D.bl (decide (j = k))) = isL38 k from rfl, eqv_refl 2 _ (is38_fl k)]; rfl)))) rfl (run_next ?_))
      have hx := x_of T k hk
      refine run_asg1 (d := .list [.bl (decide (k < 34)), .bl (decide (k < 34)), .bl (decide (34 ≤ k) && decide (k < 37)), .bl (decide (34 ≤ k))]) (ev_lst1 (ea1 (ev_cb1 (ea1 (ev_var rfl) (ea1 ev_craw ea_nil)) (cd_isX hx (.own _) (T.kDay k hk))) (ea1 (ev_cb1 (ea1 (ev_var rfl) (ea1 ev_craw ea_nil)) (cd_isX hx (.ty _) (T.kVal k hk))) (ea1 (ev_cb1 (ea1 (ev_var rfl) (ea1 ev_craw ea_nil)) (cd_isX hx (.own _) (T.kMis k hk))) (ea1 (ev_cb1 (ea1 (ev_var rfl) (ea1 ev_craw ea_nil)) (cd_isX hx (.ty _) (T.kLoo k hk))) ea_nil)))) (Nat.le_of_ble_eq_true rfl)) ?_
      dsimp only [List.set]
      have e1 : decide ((k : Int) < 34) = decide (k < 34) := by congr 1; exact propext (by omega)
      have e2 : decide ((34 : Int) ≤ (k : Int)) = decide (34 ≤ k) := by congr 1; exact propext (by omega)
      have e3 : decide ((k : Int) < 37) = decide (k < 37) := by congr 1; exact propext (by omega)
      have e4 : decide ((k : Int) = 37) = decide (k = 37) := by congr 1; exact propext (by omega)
      refine run_ifF (et_orF (a := false) (et_B (ev_eq (d' := .bl false) (ev_op1 (ev_var rfl) (ev_lst1 (ea1 (ev_op1 (ev_var rfl) ev_cint od_ltI) (ea1 (ev_op1 (ev_var rfl) ev_cint od_ltI) (ea1 (ev_chainB ev_cint (ev_var rfl) od_leI ev_cint od_ltI) (ea1 (ev_op1 (ev_var rfl) ev_cint od_geI) ea_nil)))) (Nat.le_of_ble_eq_true rfl)) (od_neD (n := 2) rfl rfl)) (by rw [e1, e2, e3, eqv_refl 2 _ rfl]; rfl))) rfl (et_B (ev_eq (d' := .bl false) (ev_op1 (ev_cb1 (ea1 (ev_var rfl) (ea1 ev_craw ea_nil)) (cd_isX hx (.ty _) (T.kInd k hk))) (ev_op1 (ev_var rfl) ev_cint od_eqI) od_neB) (by rw [e4]; simp)))) rfl (run_next (by walk_at "fg"))
    · refine run_ret1 (d := .bl true) (ev_eq (ev_op1 (ev_lcM (cs := List.range 3) (inj := fun j => .int (0 + (j : Int))) (f := fun j => .str (saidL.getD j "")) (ei_range (n := 3) (ea1 ev_cint ea_nil) (by decide)) (by decide) fun j hj => eg_name (ev_callI1 ((x, (⟨j, List.mem_range.mp hj⟩ : Fin 3)) : D × Fin 3) (ea1 (ev_var rfl) (ea1 (ev_var rfl) ea_nil)) (fun _ _ => by show [_, _] = [_, _]; rw [Int.zero_add]) fun _ e => e)) (by walk_at "ev") (od_eqD (n := 2) (by decide +kernel) (by decide +kernel))) (by rfl)) rfl
end
end K0
namespace K0
open PySem L2 Rg RZ PyProof.Rows
theorem facts {P : Program} {w : World} {K : PySem.W.Frag} {h : Heap} {mg : Str → Option Value} {f : Addr} (X : K.In h) (G : h.Ns mainGlobals mg) (hfa : mg ("law" : Str) = some (.ref f)) (c : He.SaysX fa fn [] [] ex w h K) :
    ∃ fd : FuncData, (∀ (s : Shared) (v : Value), BindsTo s fd ⟨[v], []⟩ [("_law_script", v)]) ∧ ∀ base : Heap, K.In base → base.Ns mainGlobals mg → FnOk P w K mg base CX0 6 f fd ["_law_script"] (spLaw K) := by
  have cd := c.t.d
  obtain ⟨fd_Lbag, F_Lbag⟩ := cd.def_ 0 (d := d_Lbag) rfl
  obtain ⟨fd_Ldraw, F_Ldraw⟩ := cd.def_ 1 (d := d_Ldraw) rfl
  obtain ⟨fd_Lof, F_Lof⟩ := cd.def_ 2 (d := d_Lof) rfl
  obtain ⟨fd_Lsame, F_Lsame⟩ := cd.def_ 3 (d := d_Lsame) rfl
  obtain ⟨fd_Lfields, F_Lfields⟩ := cd.def_ 4 (d := d_Lfields) rfl
  obtain ⟨fd_Lbyname, F_Lbyname⟩ := cd.def_ 5 (d := d_Lbyname) rfl
  obtain ⟨fd_Lbyplace, F_Lbyplace⟩ := cd.def_ 6 (d := d_Lbyplace) rfl
  obtain ⟨fd_Lcodes, F_Lcodes⟩ := cd.def_ 7 (d := d_Lcodes) rfl
  obtain ⟨fd_Lclasses, F_Lclasses⟩ := cd.def_ 8 (d := d_Lclasses) rfl
  obtain ⟨fd_Lcaught, F_Lcaught⟩ := cd.def_ 9 (d := d_Lcaught) rfl
  obtain ⟨fd_law, F_law⟩ := cd.def_ 10 (d := d_law) rfl
  obtain ⟨fd_InvalidNameinit, F_InvalidNameinit⟩ := cd.def_ 11 (d := d_InvalidNameinit) rfl
  obtain ⟨fd_InvalidNumberinit, F_InvalidNumberinit⟩ := cd.def_ 12 (d := d_InvalidNumberinit) rfl
  obtain ⟨fd_InvalidSectioninit, F_InvalidSectioninit⟩ := cd.def_ 13 (d := d_InvalidSectioninit) rfl
  obtain ⟨fd_InvalidTimesinit, F_InvalidTimesinit⟩ := cd.def_ 14 (d := d_InvalidTimesinit) rfl
  obtain ⟨fd_InvalidStepinit, F_InvalidStepinit⟩ := cd.def_ 15 (d := d_InvalidStepinit) rfl
  obtain ⟨fd_InvalidStandinginit, F_InvalidStandinginit⟩ := cd.def_ 16 (d := d_InvalidStandinginit) rfl
  obtain ⟨fd_InvalidRowinit, F_InvalidRowinit⟩ := cd.def_ 17 (d := d_InvalidRowinit) rfl
  obtain ⟨fd_InvalidTableinit, F_InvalidTableinit⟩ := cd.def_ 18 (d := d_InvalidTableinit) rfl
  obtain ⟨fd_InvalidDelaysinit, F_InvalidDelaysinit⟩ := cd.def_ 19 (d := d_InvalidDelaysinit) rfl
  obtain ⟨fd_InvalidPeriodinit, F_InvalidPeriodinit⟩ := cd.def_ 20 (d := d_InvalidPeriodinit) rfl
  obtain ⟨fd_InvalidHeightsinit, F_InvalidHeightsinit⟩ := cd.def_ 21 (d := d_InvalidHeightsinit) rfl
  obtain ⟨fd_InvalidDeedinit, F_InvalidDeedinit⟩ := cd.def_ 22 (d := d_InvalidDeedinit) rfl
  obtain ⟨fd_InvalidTurninit, F_InvalidTurninit⟩ := cd.def_ 23 (d := d_InvalidTurninit) rfl
  obtain ⟨fd_InvalidWaitinit, F_InvalidWaitinit⟩ := cd.def_ 24 (d := d_InvalidWaitinit) rfl
  obtain ⟨fd_InvalidWishinit, F_InvalidWishinit⟩ := cd.def_ 25 (d := d_InvalidWishinit) rfl
  obtain ⟨fd_InvalidJourneyinit, F_InvalidJourneyinit⟩ := cd.def_ 26 (d := d_InvalidJourneyinit) rfl
  obtain ⟨fd_InvalidTextinit, F_InvalidTextinit⟩ := cd.def_ 27 (d := d_InvalidTextinit) rfl
  obtain ⟨fd_DuplicateNameinit, F_DuplicateNameinit⟩ := cd.def_ 28 (d := d_DuplicateNameinit) rfl
  obtain ⟨fd_InUseinit, F_InUseinit⟩ := cd.def_ 29 (d := d_InUseinit) rfl
  obtain ⟨fd_TakenEndinit, F_TakenEndinit⟩ := cd.def_ 30 (d := d_TakenEndinit) rfl
  obtain ⟨fd_LooseEndinit, F_LooseEndinit⟩ := cd.def_ 31 (d := d_LooseEndinit) rfl
  obtain ⟨fd_TooManyinit, F_TooManyinit⟩ := cd.def_ 32 (d := d_TooManyinit) rfl
  obtain ⟨fd_MisplacedStepinit, F_MisplacedStepinit⟩ := cd.def_ 33 (d := d_MisplacedStepinit) rfl
  obtain ⟨fd_OwnRinginit, F_OwnRinginit⟩ := cd.def_ 34 (d := d_OwnRinginit) rfl
  obtain ⟨fd_Refusedinit, F_Refusedinit⟩ := cd.def_ 35 (d := d_Refusedinit) rfl
  obtain ⟨fd_Lackinginit, F_Lackinginit⟩ := cd.def_ 36 (d := d_Lackinginit) rfl
  obtain ⟨fd_Unreadyinit, F_Unreadyinit⟩ := cd.def_ 37 (d := d_Unreadyinit) rfl
  obtain ⟨fd_Finishedinit, F_Finishedinit⟩ := cd.def_ 38 (d := d_Finishedinit) rfl
  obtain ⟨fd_Barredinit, F_Barredinit⟩ := cd.def_ 39 (d := d_Barredinit) rfl
  obtain ⟨fd_NoDayinit, F_NoDayinit⟩ := cd.def_ 40 (d := d_NoDayinit) rfl
  obtain ⟨fd_Doomedinit, F_Doomedinit⟩ := cd.def_ 41 (d := d_Doomedinit) rfl
  obtain ⟨fd_NeverClearedinit, F_NeverClearedinit⟩ := cd.def_ 42 (d := d_NeverClearedinit) rfl
  obtain ⟨fd_NoPeriodinit, F_NoPeriodinit⟩ := cd.def_ 43 (d := d_NoPeriodinit) rfl
  obtain ⟨fd_TooShortinit, F_TooShortinit⟩ := cd.def_ 44 (d := d_TooShortinit) rfl
  obtain ⟨fd_UnknownNameinit, F_UnknownNameinit⟩ := cd.def_ 45 (d := d_UnknownNameinit) rfl
  obtain ⟨fd_UnknownEndinit, F_UnknownEndinit⟩ := cd.def_ 46 (d := d_UnknownEndinit) rfl
  obtain ⟨fd_UnknownEntryinit, F_UnknownEntryinit⟩ := cd.def_ 47 (d := d_UnknownEntryinit) rfl
  obtain ⟨fd_NothingLeftinit, F_NothingLeftinit⟩ := cd.def_ 48 (d := d_NothingLeftinit) rfl
  have e := hfa.symm.trans (He.glo_ok X G (cd.fact 10 (f := .glo "law") rfl))
  cases e
  have er := c.more
  obtain ⟨er, x1⟩ := He.ba (show ex K = true from er)
  obtain ⟨x1, x2⟩ := He.ba x1
  obtain ⟨x2, x3⟩ := He.ba x2
  obtain ⟨x3, x4⟩ := He.ba x3
  obtain ⟨x4, x5⟩ := He.ba x4
  obtain ⟨x5, x6⟩ := He.ba x5
  obtain ⟨x6, x7⟩ := He.ba x6
  obtain ⟨x7, x8⟩ := He.ba x7
  have z2 := fun i hi => He.ba (upB_ok x2 i hi)
  have z3 := fun i hi => He.ba (z2 i hi).2
  have z4 := fun i hi => He.ba (z3 i hi).2
  have z5 := fun i hi => He.ba (z4 i hi).2
  have E_InvalidName : ErF K "InvalidName" ["code", "value"] := erB_ok er (b := XB.value) (List.mem_of_getElem? (i := 0) (by rfl))
  have E_InvalidNumber : ErF K "InvalidNumber" ["code", "value"] := erB_ok er (b := XB.value) (List.mem_of_getElem? (i := 1) (by rfl))
  have E_InvalidSection : ErF K "InvalidSection" ["code", "value"] := erB_ok er (b := XB.value) (List.mem_of_getElem? (i := 2) (by rfl))
  have E_InvalidTimes : ErF K "InvalidTimes" ["code", "value"] := erB_ok er (b := XB.value) (List.mem_of_getElem? (i := 3) (by rfl))
  have E_InvalidStep : ErF K "InvalidStep" ["code", "value"] := erB_ok er (b := XB.value) (List.mem_of_getElem? (i := 4) (by rfl))
  have E_InvalidStanding : ErF K "InvalidStanding" ["code", "value"] := erB_ok er (b := XB.value) (List.mem_of_getElem? (i := 5) (by rfl))
  have E_InvalidRow : ErF K "InvalidRow" ["code", "value"] := erB_ok er (b := XB.value) (List.mem_of_getElem? (i := 6) (by rfl))
  have E_InvalidTable : ErF K "InvalidTable" ["code", "value"] := erB_ok er (b := XB.value) (List.mem_of_getElem? (i := 7) (by rfl))
  have E_InvalidDelays : ErF K "InvalidDelays" ["code", "value"] := erB_ok er (b := XB.value) (List.mem_of_getElem? (i := 8) (by rfl))
  have E_InvalidPeriod : ErF K "InvalidPeriod" ["code", "value"] := erB_ok er (b := XB.value) (List.mem_of_getElem? (i := 9) (by rfl))
  have E_InvalidHeights : ErF K "InvalidHeights" ["code", "value"] := erB_ok er (b := XB.value) (List.mem_of_getElem? (i := 10) (by rfl))
  have E_InvalidDeed : ErF K "InvalidDeed" ["code", "value"] := erB_ok er (b := XB.value) (List.mem_of_getElem? (i := 11) (by rfl))
  have E_InvalidTurn : ErF K "InvalidTurn" ["code", "at"] := erB_ok er (b := XB.value) (List.mem_of_getElem? (i := 12) (by rfl))
  have E_InvalidWait : ErF K "InvalidWait" ["code", "at"] := erB_ok er (b := XB.value) (List.mem_of_getElem? (i := 13) (by rfl))
  have E_InvalidWish : ErF K "InvalidWish" ["code", "at"] := erB_ok er (b := XB.value) (List.mem_of_getElem? (i := 14) (by rfl))
  have E_InvalidJourney : ErF K "InvalidJourney" ["code", "at"] := erB_ok er (b := XB.value) (List.mem_of_getElem? (i := 15) (by rfl))
  have E_InvalidText : ErF K "InvalidText" ["code", "line"] := erB_ok er (b := XB.value) (List.mem_of_getElem? (i := 16) (by rfl))
  have E_DuplicateName : ErF K "DuplicateName" ["code", "name"] := erB_ok er (b := XB.value) (List.mem_of_getElem? (i := 17) (by rfl))
  have E_InUse : ErF K "InUse" ["code", "name"] := erB_ok er (b := XB.value) (List.mem_of_getElem? (i := 18) (by rfl))
  have E_TakenEnd : ErF K "TakenEnd" ["code", "end"] := erB_ok er (b := XB.value) (List.mem_of_getElem? (i := 19) (by rfl))
  have E_LooseEnd : ErF K "LooseEnd" ["code", "end"] := erB_ok er (b := XB.value) (List.mem_of_getElem? (i := 20) (by rfl))
  have E_TooMany : ErF K "TooMany" ["code", "subject", "most"] := erB_ok er (b := XB.value) (List.mem_of_getElem? (i := 21) (by rfl))
  have E_MisplacedStep : ErF K "MisplacedStep" ["code", "train", "step"] := erB_ok er (b := XB.value) (List.mem_of_getElem? (i := 22) (by rfl))
  have E_OwnRing : ErF K "OwnRing" ["code", "train", "step", "element"] := erB_ok er (b := XB.value) (List.mem_of_getElem? (i := 23) (by rfl))
  have E_Refused : ErF K "Refused" ["code", "train", "element", "holder"] := erB_ok er (b := XB.value) (List.mem_of_getElem? (i := 24) (by rfl))
  have E_Lacking : ErF K "Lacking" ["code", "train", "other"] := erB_ok er (b := XB.value) (List.mem_of_getElem? (i := 25) (by rfl))
  have E_Unready : ErF K "Unready" ["code", "train"] := erB_ok er (b := XB.value) (List.mem_of_getElem? (i := 26) (by rfl))
  have E_Finished : ErF K "Finished" ["code", "train"] := erB_ok er (b := XB.value) (List.mem_of_getElem? (i := 27) (by rfl))
  have E_Barred : ErF K "Barred" ["code", "train", "step"] := erB_ok er (b := XB.value) (List.mem_of_getElem? (i := 28) (by rfl))
  have E_NoDay : ErF K "NoDay" ["code"] := erB_ok er (b := XB.value) (List.mem_of_getElem? (i := 29) (by rfl))
  have E_Doomed : ErF K "Doomed" ["code"] := erB_ok er (b := XB.value) (List.mem_of_getElem? (i := 30) (by rfl))
  have E_NeverCleared : ErF K "NeverCleared" ["code", "train", "step", "element"] := erB_ok er (b := XB.value) (List.mem_of_getElem? (i := 31) (by rfl))
  have E_NoPeriod : ErF K "NoPeriod" ["code"] := erB_ok er (b := XB.value) (List.mem_of_getElem? (i := 32) (by rfl))
  have E_TooShort : ErF K "TooShort" ["code", "period"] := erB_ok er (b := XB.value) (List.mem_of_getElem? (i := 33) (by rfl))
  have E_UnknownName : ErF K "UnknownName" ["code", "name"] := erB_ok er (b := XB.lookup) (List.mem_of_getElem? (i := 34) (by rfl))
  have E_UnknownEnd : ErF K "UnknownEnd" ["code", "end"] := erB_ok er (b := XB.lookup) (List.mem_of_getElem? (i := 35) (by rfl))
  have E_UnknownEntry : ErF K "UnknownEntry" ["code", "entry"] := erB_ok er (b := XB.lookup) (List.mem_of_getElem? (i := 36) (by rfl))
  have E_NothingLeft : ErF K "NothingLeft" ["code"] := erB_ok er (b := XB.index) (List.mem_of_getElem? (i := 37) (by rfl))
  let T : Tx K mg := {
    f__law_bag := He.fAd K ("_law_bag", none)
    fd__law_bag := fd_Lbag
    F__law_bag := He5.fun_of (st := s_Lbag) F_Lbag
    m__law_bag := He.glo_ok X G (cd.fact 0 (f := .glo "_law_bag") rfl)
    f__law_draw := He.fAd K ("_law_draw", none)
    fd__law_draw := fd_Ldraw
    F__law_draw := He5.fun_of (st := s_Ldraw) F_Ldraw
    m__law_draw := He.glo_ok X G (cd.fact 1 (f := .glo "_law_draw") rfl)
    f__law_of := He.fAd K ("_law_of", none)
    fd__law_of := fd_Lof
    F__law_of := He5.fun_of (st := s_Lof) F_Lof
    m__law_of := He.glo_ok X G (cd.fact 2 (f := .glo "_law_of") rfl)
    f__law_same := He.fAd K ("_law_same", none)
    fd__law_same := fd_Lsame
    F__law_same := He5.fun_of (st := s_Lsame) F_Lsame
    m__law_same := He.glo_ok X G (cd.fact 3 (f := .glo "_law_same") rfl)
    f__law_fields := He.fAd K ("_law_fields", none)
    fd__law_fields := fd_Lfields
    F__law_fields := He5.fun_of (st := s_Lfields) F_Lfields
    m__law_fields := He.glo_ok X G (cd.fact 4 (f := .glo "_law_fields") rfl)
    f__law_by_name := He.fAd K ("_law_by_name", none)
    fd__law_by_name := fd_Lbyname
    F__law_by_name := He5.fun_of (st := s_Lbyname) F_Lbyname
    m__law_by_name := He.glo_ok X G (cd.fact 5 (f := .glo "_law_by_name") rfl)
    f__law_by_place := He.fAd K ("_law_by_place", none)
    fd__law_by_place := fd_Lbyplace
    F__law_by_place := He5.fun_of (st := s_Lbyplace) F_Lbyplace
    m__law_by_place := He.glo_ok X G (cd.fact 6 (f := .glo "_law_by_place") rfl)
    f__law_codes := He.fAd K ("_law_codes", none)
    fd__law_codes := fd_Lcodes
    F__law_codes := He5.fun_of (st := s_Lcodes) F_Lcodes
    m__law_codes := He.glo_ok X G (cd.fact 7 (f := .glo "_law_codes") rfl)
    f__law_classes := He.fAd K ("_law_classes", none)
    fd__law_classes := fd_Lclasses
    F__law_classes := He5.fun_of (st := s_Lclasses) F_Lclasses
    m__law_classes := He.glo_ok X G (cd.fact 8 (f := .glo "_law_classes") rfl)
    f__law_caught := He.fAd K ("_law_caught", none)
    fd__law_caught := fd_Lcaught
    F__law_caught := He5.fun_of (st := s_Lcaught) F_Lcaught
    m__law_caught := He.glo_ok X G (cd.fact 9 (f := .glo "_law_caught") rfl)
    f_law := He.fAd K ("law", none)
    fd_law := fd_law
    F_law := He5.fun_of (st := s_law) F_law
    m_law := He.glo_ok X G (cd.fact 10 (f := .glo "law") rfl)
    b_isinstance := He.free_ok X G (cd.fact 51 (f := .free "isinstance") rfl)
    b_len := He.free_ok X G (cd.fact 52 (f := .free "len") rfl)
    b_all := He.free_ok X G (cd.fact 53 (f := .free "all") rfl)
    b_abs := He.free_ok X G (cd.fact 54 (f := .free "abs") rfl)
    b_int := He.free_ok X G (cd.fact 55 (f := .free "int") rfl)
    b_str := He.free_ok X G (cd.fact 56 (f := .free "str") rfl)
    b_list := He.free_ok X G (cd.fact 57 (f := .free "list") rfl)
    b_tuple := He.free_ok X G (cd.fact 58 (f := .free "tuple") rfl)
    b_bool := He.free_ok X G (cd.fact 59 (f := .free "bool") rfl)
    b_range := He.free_ok X G (cd.fact 60 (f := .free "range") rfl)
    b_zip := He.free_ok X G (cd.fact 61 (f := .free "zip") rfl)
    b_ValueError := He.free_ok X G (cd.fact 62 (f := .free "ValueError") rfl)
    b_LookupError := He.free_ok X G (cd.fact 63 (f := .free "LookupError") rfl)
    b_IndexError := He.free_ok X G (cd.fact 64 (f := .free "IndexError") rfl)
    c_DayError := He.ga K "DayError"
    m_DayError := He.glo_ok X G (cd.fact 11 (f := .glo "DayError") rfl)
    c_Missing := He.ga K "Missing"
    m_Missing := He.glo_ok X G (cd.fact 12 (f := .glo "Missing") rfl)
    c_InvalidName := He.ga K "InvalidName"
    m_InvalidName := He.glo_ok X G (cd.fact 13 (f := .glo "InvalidName") rfl)
    c_InvalidNumber := He.ga K "InvalidNumber"
    m_InvalidNumber := He.glo_ok X G (cd.fact 14 (f := .glo "InvalidNumber") rfl)
    c_InvalidSection := He.ga K "InvalidSection"
    m_InvalidSection := He.glo_ok X G (cd.fact 15 (f := .glo "InvalidSection") rfl)
    c_InvalidTimes := He.ga K "InvalidTimes"
    m_InvalidTimes := He.glo_ok X G (cd.fact 16 (f := .glo "InvalidTimes") rfl)
    c_InvalidStep := He.ga K "InvalidStep"
    m_InvalidStep := He.glo_ok X G (cd.fact 17 (f := .glo "InvalidStep") rfl)
    c_InvalidStanding := He.ga K "InvalidStanding"
    m_InvalidStanding := He.glo_ok X G (cd.fact 18 (f := .glo "InvalidStanding") rfl)
    c_InvalidRow := He.ga K "InvalidRow"
    m_InvalidRow := He.glo_ok X G (cd.fact 19 (f := .glo "InvalidRow") rfl)
    c_InvalidTable := He.ga K "InvalidTable"
    m_InvalidTable := He.glo_ok X G (cd.fact 20 (f := .glo "InvalidTable") rfl)
    c_InvalidDelays := He.ga K "InvalidDelays"
    m_InvalidDelays := He.glo_ok X G (cd.fact 21 (f := .glo "InvalidDelays") rfl)
    c_InvalidPeriod := He.ga K "InvalidPeriod"
    m_InvalidPeriod := He.glo_ok X G (cd.fact 22 (f := .glo "InvalidPeriod") rfl)
    c_InvalidHeights := He.ga K "InvalidHeights"
    m_InvalidHeights := He.glo_ok X G (cd.fact 23 (f := .glo "InvalidHeights") rfl)
    c_InvalidDeed := He.ga K "InvalidDeed"
    m_InvalidDeed := He.glo_ok X G (cd.fact 24 (f := .glo "InvalidDeed") rfl)
    c_InvalidTurn := He.ga K "InvalidTurn"
    m_InvalidTurn := He.glo_ok X G (cd.fact 25 (f := .glo "InvalidTurn") rfl)
    c_InvalidWait := He.ga K "InvalidWait"
    m_InvalidWait := He.glo_ok X G (cd.fact 26 (f := .glo "InvalidWait") rfl)
    c_InvalidWish := He.ga K "InvalidWish"
    m_InvalidWish := He.glo_ok X G (cd.fact 27 (f := .glo "InvalidWish") rfl)
    c_InvalidJourney := He.ga K "InvalidJourney"
    m_InvalidJourney := He.glo_ok X G (cd.fact 28 (f := .glo "InvalidJourney") rfl)
    c_InvalidText := He.ga K "InvalidText"
    m_InvalidText := He.glo_ok X G (cd.fact 29 (f := .glo "InvalidText") rfl)
    c_DuplicateName := He.ga K "DuplicateName"
    m_DuplicateName := He.glo_ok X G (cd.fact 30 (f := .glo "DuplicateName") rfl)
    c_InUse := He.ga K "InUse"
    m_InUse := He.glo_ok X G (cd.fact 31 (f := .glo "InUse") rfl)
    c_TakenEnd := He.ga K "TakenEnd"
    m_TakenEnd := He.glo_ok X G (cd.fact 32 (f := .glo "TakenEnd") rfl)
    c_LooseEnd := He.ga K "LooseEnd"
    m_LooseEnd := He.glo_ok X G (cd.fact 33 (f := .glo "LooseEnd") rfl)
    c_TooMany := He.ga K "TooMany"
    m_TooMany := He.glo_ok X G (cd.fact 34 (f := .glo "TooMany") rfl)
    c_MisplacedStep := He.ga K "MisplacedStep"
    m_MisplacedStep := He.glo_ok X G (cd.fact 35 (f := .glo "MisplacedStep") rfl)
    c_OwnRing := He.ga K "OwnRing"
    m_OwnRing := He.glo_ok X G (cd.fact 36 (f := .glo "OwnRing") rfl)
    c_Refused := He.ga K "Refused"
    m_Refused := He.glo_ok X G (cd.fact 37 (f := .glo "Refused") rfl)
    c_Lacking := He.ga K "Lacking"
    m_Lacking := He.glo_ok X G (cd.fact 38 (f := .glo "Lacking") rfl)
    c_Unready := He.ga K "Unready"
    m_Unready := He.glo_ok X G (cd.fact 39 (f := .glo "Unready") rfl)
    c_Finished := He.ga K "Finished"
    m_Finished := He.glo_ok X G (cd.fact 40 (f := .glo "Finished") rfl)
    c_Barred := He.ga K "Barred"
    m_Barred := He.glo_ok X G (cd.fact 41 (f := .glo "Barred") rfl)
    c_NoDay := He.ga K "NoDay"
    m_NoDay := He.glo_ok X G (cd.fact 42 (f := .glo "NoDay") rfl)
    c_Doomed := He.ga K "Doomed"
    m_Doomed := He.glo_ok X G (cd.fact 43 (f := .glo "Doomed") rfl)
    c_NeverCleared := He.ga K "NeverCleared"
    m_NeverCleared := He.glo_ok X G (cd.fact 44 (f := .glo "NeverCleared") rfl)
    c_NoPeriod := He.ga K "NoPeriod"
    m_NoPeriod := He.glo_ok X G (cd.fact 45 (f := .glo "NoPeriod") rfl)
    c_TooShort := He.ga K "TooShort"
    m_TooShort := He.glo_ok X G (cd.fact 46 (f := .glo "TooShort") rfl)
    c_UnknownName := He.ga K "UnknownName"
    m_UnknownName := He.glo_ok X G (cd.fact 47 (f := .glo "UnknownName") rfl)
    c_UnknownEnd := He.ga K "UnknownEnd"
    m_UnknownEnd := He.glo_ok X G (cd.fact 48 (f := .glo "UnknownEnd") rfl)
    c_UnknownEntry := He.ga K "UnknownEntry"
    m_UnknownEntry := He.glo_ok X G (cd.fact 49 (f := .glo "UnknownEntry") rfl)
    c_NothingLeft := He.ga K "NothingLeft"
    m_NothingLeft := He.glo_ok X G (cd.fact 50 (f := .glo "NothingLeft") rfl)
    x_InvalidName := E_InvalidName.x
    fi_InvalidName := He.fAd K ("InvalidName", some "__init__")
    fdi_InvalidName := fd_InvalidNameinit
    Fi_InvalidName := He5.fun_of (st := s_InvalidNameinit) F_InvalidNameinit
    i_InvalidName := E_InvalidName.i
    t_InvalidName := E_InvalidName.t
    no_InvalidName := E_InvalidName.no
    x_InvalidNumber := E_InvalidNumber.x
    fi_InvalidNumber := He.fAd K ("InvalidNumber", some "__init__")
    fdi_InvalidNumber := fd_InvalidNumberinit
    Fi_InvalidNumber := He5.fun_of (st := s_InvalidNumberinit) F_InvalidNumberinit
    i_InvalidNumber := E_InvalidNumber.i
    t_InvalidNumber := E_InvalidNumber.t
    no_InvalidNumber := E_InvalidNumber.no
    x_InvalidSection := E_InvalidSection.x
    fi_InvalidSection := He.fAd K ("InvalidSection", some "__init__")
    fdi_InvalidSection := fd_InvalidSectioninit
    Fi_InvalidSection := He5.fun_of (st := s_InvalidSectioninit) F_InvalidSectioninit
    i_InvalidSection := E_InvalidSection.i
    t_InvalidSection := E_InvalidSection.t
    no_InvalidSection := E_InvalidSection.no
    x_InvalidTimes := E_InvalidTimes.x
    fi_InvalidTimes := He.fAd K ("InvalidTimes", some "__init__")
    fdi_InvalidTimes := fd_InvalidTimesinit
    Fi_InvalidTimes := He5.fun_of (st := s_InvalidTimesinit) F_InvalidTimesinit
    i_InvalidTimes := E_InvalidTimes.i
    t_InvalidTimes := E_InvalidTimes.t
    no_InvalidTimes := E_InvalidTimes.no
    x_InvalidStep := E_InvalidStep.x
    fi_InvalidStep := He.fAd K ("InvalidStep", some "__init__")
    fdi_InvalidStep := fd_InvalidStepinit
    Fi_InvalidStep := He5.fun_of (st := s_InvalidStepinit) F_InvalidStepinit
    i_InvalidStep := E_InvalidStep.i
    t_InvalidStep := E_InvalidStep.t
    no_InvalidStep := E_InvalidStep.no
    x_InvalidStanding := E_InvalidStanding.x
    fi_InvalidStanding := He.fAd K ("InvalidStanding", some "__init__")
    fdi_InvalidStanding := fd_InvalidStandinginit
    Fi_InvalidStanding := He5.fun_of (st := s_InvalidStandinginit) F_InvalidStandinginit
    i_InvalidStanding := E_InvalidStanding.i
    t_InvalidStanding := E_InvalidStanding.t
    no_InvalidStanding := E_InvalidStanding.no
    x_InvalidRow := E_InvalidRow.x
    fi_InvalidRow := He.fAd K ("InvalidRow", some "__init__")
    fdi_InvalidRow := fd_InvalidRowinit
    Fi_InvalidRow := He5.fun_of (st := s_InvalidRowinit) F_InvalidRowinit
    i_InvalidRow := E_InvalidRow.i
    t_InvalidRow := E_InvalidRow.t
    no_InvalidRow := E_InvalidRow.no
    x_InvalidTable := E_InvalidTable.x
    fi_InvalidTable := He.fAd K ("InvalidTable", some "__init__")
    fdi_InvalidTable := fd_InvalidTableinit
    Fi_InvalidTable := He5.fun_of (st := s_InvalidTableinit) F_InvalidTableinit
    i_InvalidTable := E_InvalidTable.i
    t_InvalidTable := E_InvalidTable.t
    no_InvalidTable := E_InvalidTable.no
    x_InvalidDelays := E_InvalidDelays.x
    fi_InvalidDelays := He.fAd K ("InvalidDelays", some "__init__")
    fdi_InvalidDelays := fd_InvalidDelaysinit
    Fi_InvalidDelays := He5.fun_of (st := s_InvalidDelaysinit) F_InvalidDelaysinit
    i_InvalidDelays := E_InvalidDelays.i
    t_InvalidDelays := E_InvalidDelays.t
    no_InvalidDelays := E_InvalidDelays.no
    x_InvalidPeriod := E_InvalidPeriod.x
    fi_InvalidPeriod := He.fAd K ("InvalidPeriod", some "__init__")
    fdi_InvalidPeriod := fd_InvalidPeriodinit
    Fi_InvalidPeriod := He5.fun_of (st := s_InvalidPeriodinit) F_InvalidPeriodinit
    i_InvalidPeriod := E_InvalidPeriod.i
    t_InvalidPeriod := E_InvalidPeriod.t
    no_InvalidPeriod := E_InvalidPeriod.no
    x_InvalidHeights := E_InvalidHeights.x
    fi_InvalidHeights := He.fAd K ("InvalidHeights", some "__init__")
    fdi_InvalidHeights := fd_InvalidHeightsinit
    Fi_InvalidHeights := He5.fun_of (st := s_InvalidHeightsinit) F_InvalidHeightsinit
    i_InvalidHeights := E_InvalidHeights.i
    t_InvalidHeights := E_InvalidHeights.t
    no_InvalidHeights := E_InvalidHeights.no
    x_InvalidDeed := E_InvalidDeed.x
    fi_InvalidDeed := He.fAd K ("InvalidDeed", some "__init__")
    fdi_InvalidDeed := fd_InvalidDeedinit
    Fi_InvalidDeed := He5.fun_of (st := s_InvalidDeedinit) F_InvalidDeedinit
    i_InvalidDeed := E_InvalidDeed.i
    t_InvalidDeed := E_InvalidDeed.t
    no_InvalidDeed := E_InvalidDeed.no
    x_InvalidTurn := E_InvalidTurn.x
    fi_InvalidTurn := He.fAd K ("InvalidTurn", some "__init__")
    fdi_InvalidTurn := fd_InvalidTurninit
    Fi_InvalidTurn := He5.fun_of (st := s_InvalidTurninit) F_InvalidTurninit
    i_InvalidTurn := E_InvalidTurn.i
    t_InvalidTurn := E_InvalidTurn.t
    no_InvalidTurn := E_InvalidTurn.no
    x_InvalidWait := E_InvalidWait.x
    fi_InvalidWait := He.fAd K ("InvalidWait", some "__init__")
    fdi_InvalidWait := fd_InvalidWaitinit
    Fi_InvalidWait := He5.fun_of (st := s_InvalidWaitinit) F_InvalidWaitinit
    i_InvalidWait := E_InvalidWait.i
    t_InvalidWait := E_InvalidWait.t
    no_InvalidWait := E_InvalidWait.no
    x_InvalidWish := E_InvalidWish.x
    fi_InvalidWish := He.fAd K ("InvalidWish", some "__init__")
    fdi_InvalidWish := fd_InvalidWishinit
    Fi_InvalidWish := He5.fun_of (st := s_InvalidWishinit) F_InvalidWishinit
    i_InvalidWish := E_InvalidWish.i
    t_InvalidWish := E_InvalidWish.t
    no_InvalidWish := E_InvalidWish.no
    x_InvalidJourney := E_InvalidJourney.x
    fi_InvalidJourney := He.fAd K ("InvalidJourney", some "__init__")
    fdi_InvalidJourney := fd_InvalidJourneyinit
    Fi_InvalidJourney := He5.fun_of (st := s_InvalidJourneyinit) F_InvalidJourneyinit
    i_InvalidJourney := E_InvalidJourney.i
    t_InvalidJourney := E_InvalidJourney.t
    no_InvalidJourney := E_InvalidJourney.no
    x_InvalidText := E_InvalidText.x
    fi_InvalidText := He.fAd K ("InvalidText", some "__init__")
    fdi_InvalidText := fd_InvalidTextinit
    Fi_InvalidText := He5.fun_of (st := s_InvalidTextinit) F_InvalidTextinit
    i_InvalidText := E_InvalidText.i
    t_InvalidText := E_InvalidText.t
    no_InvalidText := E_InvalidText.no
    x_DuplicateName := E_DuplicateName.x
    fi_DuplicateName := He.fAd K ("DuplicateName", some "__init__")
    fdi_DuplicateName := fd_DuplicateNameinit
    Fi_DuplicateName := He5.fun_of (st := s_DuplicateNameinit) F_DuplicateNameinit
    i_DuplicateName := E_DuplicateName.i
    t_DuplicateName := E_DuplicateName.t
    no_DuplicateName := E_DuplicateName.no
    x_InUse := E_InUse.x
    fi_InUse := He.fAd K ("InUse", some "__init__")
    fdi_InUse := fd_InUseinit
    Fi_InUse := He5.fun_of (st := s_InUseinit) F_InUseinit
    i_InUse := E_InUse.i
    t_InUse := E_InUse.t
    no_InUse := E_InUse.no
    x_TakenEnd := E_TakenEnd.x
    fi_TakenEnd := He.fAd K ("TakenEnd", some "__init__")
    fdi_TakenEnd := fd_TakenEndinit
    Fi_TakenEnd := He5.fun_of (st := s_TakenEndinit) F_TakenEndinit
    i_TakenEnd := E_TakenEnd.i
    t_TakenEnd := E_TakenEnd.t
    no_TakenEnd := E_TakenEnd.no
    x_LooseEnd := E_LooseEnd.x
    fi_LooseEnd := He.fAd K ("LooseEnd", some "__init__")
    fdi_LooseEnd := fd_LooseEndinit
    Fi_LooseEnd := He5.fun_of (st := s_LooseEndinit) F_LooseEndinit
    i_LooseEnd := E_LooseEnd.i
    t_LooseEnd := E_LooseEnd.t
    no_LooseEnd := E_LooseEnd.no
    x_TooMany := E_TooMany.x
    fi_TooMany := He.fAd K ("TooMany", some "__init__")
    fdi_TooMany := fd_TooManyinit
    Fi_TooMany := He5.fun_of (st := s_TooManyinit) F_TooManyinit
    i_TooMany := E_TooMany.i
    t_TooMany := E_TooMany.t
    no_TooMany := E_TooMany.no
    x_MisplacedStep := E_MisplacedStep.x
    fi_MisplacedStep := He.fAd K ("MisplacedStep", some "__init__")
    fdi_MisplacedStep := fd_MisplacedStepinit
    Fi_MisplacedStep := He5.fun_of (st := s_MisplacedStepinit) F_MisplacedStepinit
    i_MisplacedStep := E_MisplacedStep.i
    t_MisplacedStep := E_MisplacedStep.t
    no_MisplacedStep := E_MisplacedStep.no
    x_OwnRing := E_OwnRing.x
    fi_OwnRing := He.fAd K ("OwnRing", some "__init__")
    fdi_OwnRing := fd_OwnRinginit
    Fi_OwnRing := He5.fun_of (st := s_OwnRinginit) F_OwnRinginit
    i_OwnRing := E_OwnRing.i
    t_OwnRing := E_OwnRing.t
    no_OwnRing := E_OwnRing.no
    x_Refused := E_Refused.x
    fi_Refused := He.fAd K ("Refused", some "__init__")
    fdi_Refused := fd_Refusedinit
    Fi_Refused := He5.fun_of (st := s_Refusedinit) F_Refusedinit
    i_Refused := E_Refused.i
    t_Refused := E_Refused.t
    no_Refused := E_Refused.no
    x_Lacking := E_Lacking.x
    fi_Lacking := He.fAd K ("Lacking", some "__init__")
    fdi_Lacking := fd_Lackinginit
    Fi_Lacking := He5.fun_of (st := s_Lackinginit) F_Lackinginit
    i_Lacking := E_Lacking.i
    t_Lacking := E_Lacking.t
    no_Lacking := E_Lacking.no
    x_Unready := E_Unready.x
    fi_Unready := He.fAd K ("Unready", some "__init__")
    fdi_Unready := fd_Unreadyinit
    Fi_Unready := He5.fun_of (st := s_Unreadyinit) F_Unreadyinit
    i_Unready := E_Unready.i
    t_Unready := E_Unready.t
    no_Unready := E_Unready.no
    x_Finished := E_Finished.x
    fi_Finished := He.fAd K ("Finished", some "__init__")
    fdi_Finished := fd_Finishedinit
    Fi_Finished := He5.fun_of (st := s_Finishedinit) F_Finishedinit
    i_Finished := E_Finished.i
    t_Finished := E_Finished.t
    no_Finished := E_Finished.no
    x_Barred := E_Barred.x
    fi_Barred := He.fAd K ("Barred", some "__init__")
    fdi_Barred := fd_Barredinit
    Fi_Barred := He5.fun_of (st := s_Barredinit) F_Barredinit
    i_Barred := E_Barred.i
    t_Barred := E_Barred.t
    no_Barred := E_Barred.no
    x_NoDay := E_NoDay.x
    fi_NoDay := He.fAd K ("NoDay", some "__init__")
    fdi_NoDay := fd_NoDayinit
    Fi_NoDay := He5.fun_of (st := s_NoDayinit) F_NoDayinit
    i_NoDay := E_NoDay.i
    t_NoDay := E_NoDay.t
    no_NoDay := E_NoDay.no
    x_Doomed := E_Doomed.x
    fi_Doomed := He.fAd K ("Doomed", some "__init__")
    fdi_Doomed := fd_Doomedinit
    Fi_Doomed := He5.fun_of (st := s_Doomedinit) F_Doomedinit
    i_Doomed := E_Doomed.i
    t_Doomed := E_Doomed.t
    no_Doomed := E_Doomed.no
    x_NeverCleared := E_NeverCleared.x
    fi_NeverCleared := He.fAd K ("NeverCleared", some "__init__")
    fdi_NeverCleared := fd_NeverClearedinit
    Fi_NeverCleared := He5.fun_of (st := s_NeverClearedinit) F_NeverClearedinit
    i_NeverCleared := E_NeverCleared.i
    t_NeverCleared := E_NeverCleared.t
    no_NeverCleared := E_NeverCleared.no
    x_NoPeriod := E_NoPeriod.x
    fi_NoPeriod := He.fAd K ("NoPeriod", some "__init__")
    fdi_NoPeriod := fd_NoPeriodinit
    Fi_NoPeriod := He5.fun_of (st := s_NoPeriodinit) F_NoPeriodinit
    i_NoPeriod := E_NoPeriod.i
    t_NoPeriod := E_NoPeriod.t
    no_NoPeriod := E_NoPeriod.no
    x_TooShort := E_TooShort.x
    fi_TooShort := He.fAd K ("TooShort", some "__init__")
    fdi_TooShort := fd_TooShortinit
    Fi_TooShort := He5.fun_of (st := s_TooShortinit) F_TooShortinit
    i_TooShort := E_TooShort.i
    t_TooShort := E_TooShort.t
    no_TooShort := E_TooShort.no
    x_UnknownName := E_UnknownName.x
    fi_UnknownName := He.fAd K ("UnknownName", some "__init__")
    fdi_UnknownName := fd_UnknownNameinit
    Fi_UnknownName := He5.fun_of (st := s_UnknownNameinit) F_UnknownNameinit
    i_UnknownName := E_UnknownName.i
    t_UnknownName := E_UnknownName.t
    no_UnknownName := E_UnknownName.no
    x_UnknownEnd := E_UnknownEnd.x
    fi_UnknownEnd := He.fAd K ("UnknownEnd", some "__init__")
    fdi_UnknownEnd := fd_UnknownEndinit
    Fi_UnknownEnd := He5.fun_of (st := s_UnknownEndinit) F_UnknownEndinit
    i_UnknownEnd := E_UnknownEnd.i
    t_UnknownEnd := E_UnknownEnd.t
    no_UnknownEnd := E_UnknownEnd.no
    x_UnknownEntry := E_UnknownEntry.x
    fi_UnknownEntry := He.fAd K ("UnknownEntry", some "__init__")
    fdi_UnknownEntry := fd_UnknownEntryinit
    Fi_UnknownEntry := He5.fun_of (st := s_UnknownEntryinit) F_UnknownEntryinit
    i_UnknownEntry := E_UnknownEntry.i
    t_UnknownEntry := E_UnknownEntry.t
    no_UnknownEntry := E_UnknownEntry.no
    x_NothingLeft := E_NothingLeft.x
    fi_NothingLeft := He.fAd K ("NothingLeft", some "__init__")
    fdi_NothingLeft := fd_NothingLeftinit
    Fi_NothingLeft := He5.fun_of (st := s_NothingLeftinit) F_NothingLeftinit
    i_NothingLeft := E_NothingLeft.i
    t_NothingLeft := E_NothingLeft.t
    no_NothingLeft := E_NothingLeft.no
    kit := fun i hi j hj => of_decide_eq_true (upB_ok (upB_ok x1 i hi) j hj)
    kDay := fun i hi => of_decide_eq_true (z2 i hi).1
    kMis := fun i hi => of_decide_eq_true (z3 i hi).1
    kVal := fun i hi => of_decide_eq_true (z4 i hi).1
    kLoo := fun i hi => of_decide_eq_true (z5 i hi).1
    kInd := fun i hi => of_decide_eq_true (z5 i hi).2
    eT := of_decide_eq_true x3
    eE1 := of_decide_eq_true x4
    eE2 := of_decide_eq_true x5
    eN1 := of_decide_eq_true x6
    eN2 := of_decide_eq_true x7
    eN3 := of_decide_eq_true x8
  }
  have b := FunD.bindsA (ps := ["_law_script"]) F_law fun _ _ _ _ _ _ us hl => match us, hl with | [_], _ => rfl
  exact ⟨fd_law, fun s v => b s [v] rfl, fun base _ _ => ok_law T⟩
end K0
open PySem PySem.W PySem.Calls PyProof.Rows
theorem PySem.Challenge.cw_ringlessday_k00_errors_by_themselves_holds : PySem.Challenge.rw_ringlessday_k00_errors_by_themselves.Holds := by
  w_on; o_law
  refine HandSHeadRun.head_any (r := OpenLaw.row PySem.Challenge.rw_ringlessday_k00_errors_by_themselves) (q := view (OpenLaw.row PySem.Challenge.rw_ringlessday_k00_errors_by_themselves).prog [52]) (H := K0.hk) (ob := K0.ob) (M := 20000) (loose := K0.loose) (d := HandSHeadRun.topDef (OpenLaw.row PySem.Challenge.rw_ringlessday_k00_errors_by_themselves).prog 52) (kwd := []) K0.ob_eq
    (by kernel_rfl) (fun s => by kernel_rfl) K0.run (by kernel_rfl) (by kernel_rfl) (by kernel_rfl) (by rfl) (by first | assumption | decide +kernel) (by decide +kernel) ⟨rfl, rfl, rfl, rfl, rfl, by decide +kernel⟩ ?hw ?hc
  case hw => w_witness2
  case hc =>
    refine L2.walk_ofE (l := PySem.Challenge.rw_ringlessday_k00_errors_by_themselves) (n := 63) (k := 6) (x := "_law_script") (CX := L2.CX0) rfl (by decide) (by kernel_rfl) ⟨rfl, by decide, by decide⟩ ?F (fun _ _ _ _ z => z)
    intro w mg fa h Y G hmg0
    obtain ⟨K, KX, c⟩ := Y
    have hmg : mg ("law" : PySem.Str) = some (.ref fa) := by
      have e : (HandSHeadRun.topDef (OpenLaw.row PySem.Challenge.rw_ringlessday_k00_errors_by_themselves).prog 52).name = ("law" : PySem.Str) := by kernel_rfl
      rw [← e]
      exact hmg0
    obtain ⟨fd, hb, hF⟩ := K0.facts (P := (PySem.Challenge.rw_ringlessday_k00_errors_by_themselves).prog) (w := w) KX G hmg c
    exact ⟨K, fd, K0.spLaw K, KX, hb, fun H a ns hl _ hS => ⟨a, ns, rfl, hS, hl, fun _ => rfl⟩, hF⟩

import PyProof.Rows.All
import Wide.All
import OpenK.AllK
import Wide.FinOn
import HandS.ForMost
import HandS.Defaults
import HandS.Head0
import HandS.Head1
import HandS.Head2
import HandS.HeadHook1
import HandS.HeadHook2
import KE.KExcInit
import KE.KIsAll
import KE.KNestM
import HandS.IsInst
import HandS.WideBits
import HandS.Wide
import HandS.Flow
import HandS.RaiseMore
import HandS.EndBits
import HandS.ForExc
import HandS.ExcInit
import HandS.ExcIs
import HandS.ExcField
import HandS.TryMany
import KE.KExcIs
import KE.KExcLine
import KE.RegKIsAll
import HandS.FStr
import HandS.Style
import HandS.Codes
import KE.KRevSl
import KE.GoesEnum
import KE.KDictZip
import HandS.Walk
import HandS.ExcValue
import HandS.TryOnly
import HandS.Lambda
import HandS.WordsExc
import KE.KLam
import PySem.Challenge.RW_groupsteps_k15_errors_created
set_option Elab.async false
set_option linter.all false
set_option maxRecDepth 100000
set_option maxHeartbeats 4000000
namespace KX
open PySem PySem.Spec PyProof.Rows L2
/-! ### what the run of the head is asked: truth values over the part that the names reach -/
abbrev tailOf (B : String) : List Value := [.type B, .type "Exception", .type "BaseException", .type "object"]
def tabOf (K : PySem.W.Frag) (c : Addr) : Addr := match K.lookup c with
  | some ⟨_, _, .fields vs, _⟩ => (match (vs[11]? : Option Value) with | some (.ref P) => P | _ => 0)
  | _ => 0
abbrev tabO : Obj := { cls := .none, data := .fields #[] }
def exB (K : PySem.W.Frag) (C : Addr) (n : String) (tl : List Value) : Bool := PySem.W.excInitIn K C tl n && (PySem.W.excOver K C tl && (PySem.W.hasDictIn K C && (PySem.W.keepIn K (.ref C) &&
  (PySem.W.findIn K (.ref C) "__setattr__" == some (some (.builtin "object.__setattr__")) && (PySem.W.subIn K (.ref C) (.type "BaseException") == some true && (PySem.W.typeIn K (.ref C) == some (.type "type") &&
  (PySem.W.findIn K (.ref C) "__getattribute__" == some (some (.builtin "BaseException.__getattribute__")) && (PySem.W.findIn K (.ref C) "__getattr__" == some none &&
  (PySem.W.findIn K (.ref C) "__class__" == some (some (.builtin "object.__class__")) && PySem.W.mroIn K C (.type "object") == some true)))))))))
def fdB (K : PySem.W.Frag) (C : Addr) (fs : List Str) : Bool := fs.all fun f => PySem.W.takerIn K C f == some none && PySem.W.findIn K (.ref C) f == some none
def suB (K : PySem.W.Frag) (C : Addr) (l : List (Value × Bool)) : Bool := l.all fun p => PySem.W.subIn K (.ref C) p.1 == some p.2
def kiB (K : PySem.W.Frag) (C : Addr) (l : List (Value × Bool)) : Bool := l.all fun p => PySem.W.kitOne K (.ref C) p.1 == some p.2
/-- a row of truth values, told by a number -/
def bits : Nat → Nat → List Bool
  | 0, _ => []
  | n + 1, m => (m % 2 == 1) :: bits n (m / 2)
def rowL (L : List Value) (m : Nat) : List (Value × Bool) := L.zip (bits L.length m)
def tyB (K : PySem.W.Frag) (f : Addr) : Bool := PySem.W.typeIn K (.ref f) == some (.type "function")
def sysB : PySem.W.Frag → Bool := fun K => match K.lookup sysModules with
  | some o => !(o.cls == Value.type "list")
  | none => false
def emptyB : Obj → Bool
  | ⟨.none, none, .fields vs, sl⟩ => vs.isEmpty && sl.isEmpty
  | _ => false
def frH (g : Addr → Option Obj) (as : List Addr) : PySem.W.Frag := (He.frG g as).filter fun p => !emptyB p.2
/-- the code object of the def at f -/
def codeAt (K : PySem.W.Frag) (f : Addr) : Addr := match K.lookup f with
  | some ⟨_, _, .func fd, _⟩ => (match fd.code with | .ref c => c | _ => 0)
  | _ => 0
abbrev Fc := PySem.W.Frag → Bool
/-- the code object of a def that makes lambdas, its table -/
def mkT (K : PySem.W.Frag) (p : Str × Option Str) : Addr × Addr := (codeAt K (He.fAd K p), tabOf K (codeAt K (He.fAd K p)))
def tbB (g : Addr → Option Obj) (K : PySem.W.Frag) (p : Str × Option Str) : Bool := PySem.W.codeHdIn K (mkT K p).1 (mkT K p).2 && ((K.lookup (mkT K p).2).isNone && (match g (mkT K p).2 with
  | some o => emptyB o
  | none => false))
def obsH (n : Nat) (fa : List Fc) (fn : List He.DefD) (tb : List (Str × Option Str)) (g : Addr → Option Obj) : He.AlD :=
  let K := frH g (sysModules :: cStatics :: He.asD g n)
  ((fa.all fun f => f K) && ((fn.all fun d => d.ok K) && tb.all fun p => tbB g K p), fn.map fun d => He.fnW K d.at_)
/-- what the Hook looks at, but the facts -/
def defsH (n : Nat) (fn : List He.DefD) (tb : List (Str × Option Str)) (g : Addr → Option Obj) : He.AlD :=
  let K := frH g (sysModules :: cStatics :: He.asD g n)
  ((fn.all fun d => d.ok K) && tb.all fun p => tbB g K p, fn.map fun d => He.fnW K d.at_)
def gloB (x : Str) (f : PySem.W.Frag → Addr) : Fc := fun K => PySem.W.nsIn K mainGlobals x == some (some (.ref (f K)))
def freeB (x : Str) : Fc := fun K => PySem.W.nsIn K mainGlobals x == some none
def tokOf (K : PySem.W.Frag) (x : Str) : Tok := match PySem.W.nsIn K mainGlobals x with
  | some (some (.int _ t)) => t
  | some (some (.str _ t)) => t
  | _ => default
def intB (x : Str) (i : Int) : Fc := fun K => PySem.W.nsIn K mainGlobals x == some (some (.int i (tokOf K x)))
def strB (x z : Str) : Fc := fun K => PySem.W.nsIn K mainGlobals x == some (some (.str z (tokOf K x)))
def metB (C : Str) (m : Str) : Fc := fun K => PySem.W.findIn K (.ref (He.ga K C)) m == some (some (.ref (He.fAd K (C, some m))))
def ibB (K : PySem.W.Frag) (C : Addr) (i : String) : Bool := PySem.W.specialIn K (.ref C) "__getattribute__" == some (some (.builtin "type.__getattribute__")) && (PySem.W.readsIn K C (.type "type") && (match PySem.W.findCls K (.ref C) (.type "type") "__init__" with
  | some (.val (.builtin s)) => s == i
  | _ => false))
def cgB : Fc := fun K => PySem.W.specialIn K (.builtin "object.__class__") "__get__" == some (some (.builtin "getset_descriptor.__get__")) && PySem.W.takesIn K (.builtin "object.__class__") == some true
end KX

namespace KX
open PySem PySem.Spec PyProof.Rows L2

def topS (i : Nat) : Stmt := PySem.Challenge.pw_groupsteps_k15_errors_created.main.body.getD i (.Pass ⟨0, 0, 0, 0⟩)
abbrev s_InvalidNamex_initx : Stmt := inClass (topS 2) 0
abbrev s_InvalidVersionx_initx : Stmt := inClass (topS 3) 0
abbrev s_InvalidWindowx_initx : Stmt := inClass (topS 4) 0
abbrev s_InvalidWindowsx_initx : Stmt := inClass (topS 5) 0
abbrev s_InvalidUsesx_initx : Stmt := inClass (topS 6) 0
abbrev s_InvalidRowsx_initx : Stmt := inClass (topS 7) 0
abbrev s_InvalidStatex_initx : Stmt := inClass (topS 8) 0
abbrev s_InvalidDemandx_initx : Stmt := inClass (topS 9) 0
abbrev s_InvalidGoalsx_initx : Stmt := inClass (topS 10) 0
abbrev s_InvalidStepx_initx : Stmt := inClass (topS 11) 0
abbrev s_InvalidStepsx_initx : Stmt := inClass (topS 12) 0
abbrev s_InvalidCountx_initx : Stmt := inClass (topS 14) 0
abbrev s_InvalidTextx_initx : Stmt := inClass (topS 15) 0
abbrev s_InvalidEntryx_initx : Stmt := inClass (topS 16) 0
abbrev s_UnknownModulex_initx : Stmt := inClass (topS 19) 0
abbrev s_UnknownUsex_initx : Stmt := inClass (topS 20) 0
abbrev s_UnknownVersionx_initx : Stmt := inClass (topS 21) 0
abbrev s_UnknownOperatorx_initx : Stmt := inClass (topS 22) 0
abbrev s_UnknownSessionx_initx : Stmt := inClass (topS 23) 0
abbrev s_NotRisingx_initx : Stmt := inClass (topS 25) 0
abbrev s_NotConsistentx_initx : Stmt := inClass (topS 26) 0
abbrev s_NotBelowx_initx : Stmt := inClass (topS 27) 0
abbrev s_CannotMeetx_initx : Stmt := inClass (topS 28) 0
abbrev s_NoStepx_initx : Stmt := inClass (topS 29) 0
abbrev s_MissingNeedx_initx : Stmt := inClass (topS 30) 0
abbrev s_NotAvailablex_initx : Stmt := inClass (topS 31) 0
abbrev s_Pinnedx_initx : Stmt := inClass (topS 32) 0
abbrev s_InUsex_initx : Stmt := inClass (topS 33) 0
abbrev s_NameTakenx_initx : Stmt := inClass (topS 34) 0
abbrev s_TooManyx_initx : Stmt := inClass (topS 37) 0
abbrev s_NoStatex_initx : Stmt := inClass (topS 38) 0
abbrev s_Unreachablex_initx : Stmt := inClass (topS 39) 0
abbrev s_l_rng : Stmt := topS 41
abbrev s_l_draw : Stmt := topS 42
abbrev s_l_choice : Stmt := topS 43
abbrev s_l_odd : Stmt := topS 44
abbrev s_l_first_classes : Stmt := topS 45
abbrev s_l_classes : Stmt := topS 46
abbrev s_l_bases : Stmt := topS 47
abbrev s_l_hierarchy_right : Stmt := topS 48
abbrev s_l_single : Stmt := topS 49
abbrev s_l_single_named : Stmt := topS 50
abbrev s_l_pairs : Stmt := topS 51
abbrev s_l_double_right : Stmt := topS 52
abbrev s_law : Stmt := topS 53
def fnL0 : List He.DefD := [⟨("InvalidName", some "__init__"), "__init__", "InvalidName.__init__", defArgs s_InvalidNamex_initx, defBody s_InvalidNamex_initx, defScope s_InvalidNamex_initx, [], []⟩,
  ⟨("InvalidVersion", some "__init__"), "__init__", "InvalidVersion.__init__", defArgs s_InvalidVersionx_initx, defBody s_InvalidVersionx_initx, defScope s_InvalidVersionx_initx, [], []⟩,
  ⟨("InvalidWindow", some "__init__"), "__init__", "InvalidWindow.__init__", defArgs s_InvalidWindowx_initx, defBody s_InvalidWindowx_initx, defScope s_InvalidWindowx_initx, [], []⟩,
  ⟨("InvalidWindows", some "__init__"), "__init__", "InvalidWindows.__init__", defArgs s_InvalidWindowsx_initx, defBody s_InvalidWindowsx_initx, defScope s_InvalidWindowsx_initx, [], []⟩,
  ⟨("InvalidUses", some "__init__"), "__init__", "InvalidUses.__init__", defArgs s_InvalidUsesx_initx, defBody s_InvalidUsesx_initx, defScope s_InvalidUsesx_initx, [], []⟩,
  ⟨("InvalidRows", some "__init__"), "__init__", "InvalidRows.__init__", defArgs s_InvalidRowsx_initx, defBody s_InvalidRowsx_initx, defScope s_InvalidRowsx_initx, [], []⟩,
  ⟨("InvalidState", some "__init__"), "__init__", "InvalidState.__init__", defArgs s_InvalidStatex_initx, defBody s_InvalidStatex_initx, defScope s_InvalidStatex_initx, [], []⟩,
  ⟨("InvalidDemand", some "__init__"), "__init__", "InvalidDemand.__init__", defArgs s_InvalidDemandx_initx, defBody s_InvalidDemandx_initx, defScope s_InvalidDemandx_initx, [], []⟩,
  ⟨("InvalidGoals", some "__init__"), "__init__", "InvalidGoals.__init__", defArgs s_InvalidGoalsx_initx, defBody s_InvalidGoalsx_initx, defScope s_InvalidGoalsx_initx, [], []⟩,
  ⟨("InvalidStep", some "__init__"), "__init__", "InvalidStep.__init__", defArgs s_InvalidStepx_initx, defBody s_InvalidStepx_initx, defScope s_InvalidStepx_initx, [], []⟩,
  ⟨("InvalidSteps", some "__init__"), "__init__", "InvalidSteps.__init__", defArgs s_InvalidStepsx_initx, defBody s_InvalidStepsx_initx, defScope s_InvalidStepsx_initx, [], []⟩,
  ⟨("InvalidCount", some "__init__"), "__init__", "InvalidCount.__init__", defArgs s_InvalidCountx_initx, defBody s_InvalidCountx_initx, defScope s_InvalidCountx_initx, [], []⟩,
  ⟨("InvalidText", some "__init__"), "__init__", "InvalidText.__init__", defArgs s_InvalidTextx_initx, defBody s_InvalidTextx_initx, defScope s_InvalidTextx_initx, [], []⟩,
  ⟨("InvalidEntry", some "__init__"), "__init__", "InvalidEntry.__init__", defArgs s_InvalidEntryx_initx, defBody s_InvalidEntryx_initx, defScope s_InvalidEntryx_initx, [], []⟩,
  ⟨("UnknownModule", some "__init__"), "__init__", "UnknownModule.__init__", defArgs s_UnknownModulex_initx, defBody s_UnknownModulex_initx, defScope s_UnknownModulex_initx, [], []⟩,
  ⟨("UnknownUse", some "__init__"), "__init__", "UnknownUse.__init__", defArgs s_UnknownUsex_initx, defBody s_UnknownUsex_initx, defScope s_UnknownUsex_initx, [], []⟩,
  ⟨("UnknownVersion", some "__init__"), "__init__", "UnknownVersion.__init__", defArgs s_UnknownVersionx_initx, defBody s_UnknownVersionx_initx, defScope s_UnknownVersionx_initx, [], []⟩,
  ⟨("UnknownOperator", some "__init__"), "__init__", "UnknownOperator.__init__", defArgs s_UnknownOperatorx_initx, defBody s_UnknownOperatorx_initx, defScope s_UnknownOperatorx_initx, [], []⟩,
  ⟨("UnknownSession", some "__init__"), "__init__", "UnknownSession.__init__", defArgs s_UnknownSessionx_initx, defBody s_UnknownSessionx_initx, defScope s_UnknownSessionx_initx, [], []⟩,
  ⟨("NotRising", some "__init__"), "__init__", "NotRising.__init__", defArgs s_NotRisingx_initx, defBody s_NotRisingx_initx, defScope s_NotRisingx_initx, [], []⟩]
def fnL1 : List He.DefD := [⟨("NotConsistent", some "__init__"), "__init__", "NotConsistent.__init__", defArgs s_NotConsistentx_initx, defBody s_NotConsistentx_initx, defScope s_NotConsistentx_initx, [], []⟩,
  ⟨("NotBelow", some "__init__"), "__init__", "NotBelow.__init__", defArgs s_NotBelowx_initx, defBody s_NotBelowx_initx, defScope s_NotBelowx_initx, [], []⟩,
  ⟨("CannotMeet", some "__init__"), "__init__", "CannotMeet.__init__", defArgs s_CannotMeetx_initx, defBody s_CannotMeetx_initx, defScope s_CannotMeetx_initx, [], []⟩,
  ⟨("NoStep", some "__init__"), "__init__", "NoStep.__init__", defArgs s_NoStepx_initx, defBody s_NoStepx_initx, defScope s_NoStepx_initx, [], []⟩,
  ⟨("MissingNeed", some "__init__"), "__init__", "MissingNeed.__init__", defArgs s_MissingNeedx_initx, defBody s_MissingNeedx_initx, defScope s_MissingNeedx_initx, [], []⟩,
  ⟨("NotAvailable", some "__init__"), "__init__", "NotAvailable.__init__", defArgs s_NotAvailablex_initx, defBody s_NotAvailablex_initx, defScope s_NotAvailablex_initx, [], []⟩,
  ⟨("Pinned", some "__init__"), "__init__", "Pinned.__init__", defArgs s_Pinnedx_initx, defBody s_Pinnedx_initx, defScope s_Pinnedx_initx, [], []⟩,
  ⟨("InUse", some "__init__"), "__init__", "InUse.__init__", defArgs s_InUsex_initx, defBody s_InUsex_initx, defScope s_InUsex_initx, [], []⟩,
  ⟨("NameTaken", some "__init__"), "__init__", "NameTaken.__init__", defArgs s_NameTakenx_initx, defBody s_NameTakenx_initx, defScope s_NameTakenx_initx, [], []⟩,
  ⟨("TooMany", some "__init__"), "__init__", "TooMany.__init__", defArgs s_TooManyx_initx, defBody s_TooManyx_initx, defScope s_TooManyx_initx, [], []⟩,
  ⟨("NoState", some "__init__"), "__init__", "NoState.__init__", defArgs s_NoStatex_initx, defBody s_NoStatex_initx, defScope s_NoStatex_initx, [], []⟩,
  ⟨("Unreachable", some "__init__"), "__init__", "Unreachable.__init__", defArgs s_Unreachablex_initx, defBody s_Unreachablex_initx, defScope s_Unreachablex_initx, [], []⟩,
  ⟨("_law_rng", none), "_law_rng", "_law_rng", defArgs s_l_rng, defBody s_l_rng, defScope s_l_rng, [], []⟩,
  ⟨("_law_draw", none), "_law_draw", "_law_draw", defArgs s_l_draw, defBody s_l_draw, defScope s_l_draw, [], []⟩,
  ⟨("_law_choice", none), "_law_choice", "_law_choice", defArgs s_l_choice, defBody s_l_choice, defScope s_l_choice, [], []⟩,
  ⟨("_law_odd", none), "_law_odd", "_law_odd", defArgs s_l_odd, defBody s_l_odd, defScope s_l_odd, [], []⟩,
  ⟨("_law_first_classes", none), "_law_first_classes", "_law_first_classes", defArgs s_l_first_classes, defBody s_l_first_classes, defScope s_l_first_classes, [], []⟩,
  ⟨("_law_classes", none), "_law_classes", "_law_classes", defArgs s_l_classes, defBody s_l_classes, defScope s_l_classes, [], []⟩,
  ⟨("_law_bases", none), "_law_bases", "_law_bases", defArgs s_l_bases, defBody s_l_bases, defScope s_l_bases, [], []⟩,
  ⟨("_law_hierarchy_right", none), "_law_hierarchy_right", "_law_hierarchy_right", defArgs s_l_hierarchy_right, defBody s_l_hierarchy_right, defScope s_l_hierarchy_right, [], []⟩]
def fnL2 : List He.DefD := [⟨("_law_single", none), "_law_single", "_law_single", defArgs s_l_single, defBody s_l_single, defScope s_l_single, [], []⟩,
  ⟨("_law_single_named", none), "_law_single_named", "_law_single_named", defArgs s_l_single_named, defBody s_l_single_named, defScope s_l_single_named, [], []⟩,
  ⟨("_law_pairs", none), "_law_pairs", "_law_pairs", defArgs s_l_pairs, defBody s_l_pairs, defScope s_l_pairs, [], []⟩,
  ⟨("_law_double_right", none), "_law_double_right", "_law_double_right", defArgs s_l_double_right, defBody s_l_double_right, defScope s_l_double_right, [], []⟩,
  ⟨("law", none), "law", "law", defArgs s_law, defBody s_law, defScope s_law, [], []⟩]
def fnL : List He.DefD := fnL0 ++ (fnL1 ++ (fnL2))
def tbL : List (Str × Option Str) := []
def exL (K : PySem.W.Frag) : List Value := []
def kiLH (K : PySem.W.Frag) : List Value := [.ref (He.ga K "InvalidName"), .ref (He.ga K "InvalidVersion"), .ref (He.ga K "InvalidWindow"), .ref (He.ga K "InvalidWindows"), .ref (He.ga K "InvalidUses"), .ref (He.ga K "InvalidRows"), .ref (He.ga K "InvalidState"), .ref (He.ga K "InvalidDemand"), .ref (He.ga K "InvalidGoals"), .ref (He.ga K "InvalidStep"), .ref (He.ga K "InvalidSteps"), .ref (He.ga K "InvalidChange"), .ref (He.ga K "InvalidCount"), .ref (He.ga K "InvalidText"), .ref (He.ga K "InvalidEntry"), .ref (He.ga K "InvalidCommand"), .ref (He.ga K "UnknownModule"), .ref (He.ga K "UnknownUse"), .ref (He.ga K "UnknownVersion"), .ref (He.ga K "UnknownOperator"), .ref (He.ga K "UnknownSession"), .ref (He.ga K "NotRising"), .ref (He.ga K "NotConsistent"), .ref (He.ga K "NotBelow"), .ref (He.ga K "CannotMeet"), .ref (He.ga K "NoStep"), .ref (He.ga K "MissingNeed"), .ref (He.ga K "NotAvailable"), .ref (He.ga K "Pinned"), .ref (He.ga K "InUse"), .ref (He.ga K "NameTaken"), .ref (He.ga K "NothingToUndo"), .ref (He.ga K "TooMany"), .ref (He.ga K "NoState"), .ref (He.ga K "Unreachable"), .ref (He.ga K "GroupError"), .ref (He.ga K "Missing"), .ref (He.ga K "Refused"), .ref (He.ga K "LimitReached"), .type "ValueError", .type "LookupError", .type "RuntimeError", .type "ArithmeticError", .type "KeyError", .type "IndexError", .type "OverflowError", .type "TypeError"]
def faL0 : List Fc := [metB "InvalidName" "__init__",
  metB "InvalidVersion" "__init__",
  metB "InvalidWindow" "__init__",
  metB "InvalidWindows" "__init__",
  metB "InvalidUses" "__init__",
  metB "InvalidRows" "__init__",
  metB "InvalidState" "__init__",
  metB "InvalidDemand" "__init__",
  metB "InvalidGoals" "__init__",
  metB "InvalidStep" "__init__",
  metB "InvalidSteps" "__init__",
  metB "InvalidCount" "__init__",
  metB "InvalidText" "__init__",
  metB "InvalidEntry" "__init__",
  metB "UnknownModule" "__init__",
  metB "UnknownUse" "__init__",
  metB "UnknownVersion" "__init__",
  metB "UnknownOperator" "__init__",
  metB "UnknownSession" "__init__",
  metB "NotRising" "__init__",
  metB "NotConsistent" "__init__",
  metB "NotBelow" "__init__",
  metB "CannotMeet" "__init__",
  metB "NoStep" "__init__",
  metB "MissingNeed" "__init__",
  metB "NotAvailable" "__init__",
  metB "Pinned" "__init__",
  metB "InUse" "__init__",
  metB "NameTaken" "__init__",
  metB "TooMany" "__init__",
  metB "NoState" "__init__",
  metB "Unreachable" "__init__",
  gloB "_law_rng" (fun K => He.fAd K ("_law_rng", none)),
  gloB "_law_draw" (fun K => He.fAd K ("_law_draw", none)),
  gloB "_law_choice" (fun K => He.fAd K ("_law_choice", none)),
  gloB "_law_odd" (fun K => He.fAd K ("_law_odd", none)),
  gloB "_law_first_classes" (fun K => He.fAd K ("_law_first_classes", none)),
  gloB "_law_classes" (fun K => He.fAd K ("_law_classes", none)),
  gloB "_law_bases" (fun K => He.fAd K ("_law_bases", none)),
  gloB "_law_hierarchy_right" (fun K => He.fAd K ("_law_hierarchy_right", none)),
  gloB "_law_single" (fun K => He.fAd K ("_law_single", none)),
  gloB "_law_single_named" (fun K => He.fAd K ("_law_single_named", none)),
  gloB "_law_pairs" (fun K => He.fAd K ("_law_pairs", none)),
  gloB "_law_double_right" (fun K => He.fAd K ("_law_double_right", none)),
  gloB "law" (fun K => He.fAd K ("law", none)),
  freeB "ArithmeticError",
  freeB "IndexError",
  freeB "KeyError",
  freeB "LookupError",
  freeB "OverflowError",
  freeB "RuntimeError",
  freeB "TypeError",
  freeB "ValueError",
  freeB "abs",
  freeB "divmod",
  freeB "enumerate",
  freeB "isinstance",
  freeB "len",
  freeB "max",
  freeB "min",
  freeB "range",
  freeB "repr",
  gloB "GroupError" (fun K => He.ga K "GroupError"),
  gloB "InvalidName" (fun K => He.ga K "InvalidName"),
  gloB "InvalidVersion" (fun K => He.ga K "InvalidVersion"),
  gloB "InvalidWindow" (fun K => He.ga K "InvalidWindow"),
  gloB "InvalidWindows" (fun K => He.ga K "InvalidWindows"),
  gloB "InvalidUses" (fun K => He.ga K "InvalidUses"),
  gloB "InvalidRows" (fun K => He.ga K "InvalidRows"),
  gloB "InvalidState" (fun K => He.ga K "InvalidState"),
  gloB "InvalidDemand" (fun K => He.ga K "InvalidDemand"),
  gloB "InvalidGoals" (fun K => He.ga K "InvalidGoals"),
  gloB "InvalidStep" (fun K => He.ga K "InvalidStep"),
  gloB "InvalidSteps" (fun K => He.ga K "InvalidSteps"),
  gloB "InvalidChange" (fun K => He.ga K "InvalidChange"),
  gloB "InvalidCount" (fun K => He.ga K "InvalidCount"),
  gloB "InvalidText" (fun K => He.ga K "InvalidText"),
  gloB "InvalidEntry" (fun K => He.ga K "InvalidEntry"),
  gloB "InvalidCommand" (fun K => He.ga K "InvalidCommand"),
  gloB "Missing" (fun K => He.ga K "Missing")]
def faL1 : List Fc := [gloB "UnknownModule" (fun K => He.ga K "UnknownModule"),
  gloB "UnknownUse" (fun K => He.ga K "UnknownUse"),
  gloB "UnknownVersion" (fun K => He.ga K "UnknownVersion"),
  gloB "UnknownOperator" (fun K => He.ga K "UnknownOperator"),
  gloB "UnknownSession" (fun K => He.ga K "UnknownSession"),
  gloB "Refused" (fun K => He.ga K "Refused"),
  gloB "NotRising" (fun K => He.ga K "NotRising"),
  gloB "NotConsistent" (fun K => He.ga K "NotConsistent"),
  gloB "NotBelow" (fun K => He.ga K "NotBelow"),
  gloB "CannotMeet" (fun K => He.ga K "CannotMeet"),
  gloB "NoStep" (fun K => He.ga K "NoStep"),
  gloB "MissingNeed" (fun K => He.ga K "MissingNeed"),
  gloB "NotAvailable" (fun K => He.ga K "NotAvailable"),
  gloB "Pinned" (fun K => He.ga K "Pinned"),
  gloB "InUse" (fun K => He.ga K "InUse"),
  gloB "NameTaken" (fun K => He.ga K "NameTaken"),
  gloB "NothingToUndo" (fun K => He.ga K "NothingToUndo"),
  gloB "LimitReached" (fun K => He.ga K "LimitReached"),
  gloB "TooMany" (fun K => He.ga K "TooMany"),
  gloB "NoState" (fun K => He.ga K "NoState"),
  gloB "Unreachable" (fun K => He.ga K "Unreachable"),
  cgB,
  fun K => exB K (He.ga K "GroupError") "ValueError.__new__" (tailOf "ValueError"),
  fun K => kiB K (He.ga K "GroupError") (rowL (kiLH K) 584115552256),
  fun K => ibB K (He.ga K "GroupError") "ValueError.__init__",
  fun K => PySem.W.excIn K (He.ga K "GroupError") (tailOf "ValueError") "ValueError.__new__",
  fun K => exB K (He.ga K "InvalidName") "ValueError.__new__" (tailOf "ValueError"),
  fun K => fdB K (He.ga K "InvalidName") ["value"],
  fun K => kiB K (He.ga K "InvalidName") (rowL (kiLH K) 584115552257),
  fun K => tyB K (He.fAd K ("InvalidName", some "__init__")),
  fun K => exB K (He.ga K "InvalidVersion") "ValueError.__new__" (tailOf "ValueError"),
  fun K => fdB K (He.ga K "InvalidVersion") ["value"],
  fun K => kiB K (He.ga K "InvalidVersion") (rowL (kiLH K) 584115552258),
  fun K => tyB K (He.fAd K ("InvalidVersion", some "__init__")),
  fun K => exB K (He.ga K "InvalidWindow") "ValueError.__new__" (tailOf "ValueError"),
  fun K => fdB K (He.ga K "InvalidWindow") ["value"],
  fun K => kiB K (He.ga K "InvalidWindow") (rowL (kiLH K) 584115552260),
  fun K => tyB K (He.fAd K ("InvalidWindow", some "__init__")),
  fun K => exB K (He.ga K "InvalidWindows") "ValueError.__new__" (tailOf "ValueError"),
  fun K => fdB K (He.ga K "InvalidWindows") ["position"],
  fun K => kiB K (He.ga K "InvalidWindows") (rowL (kiLH K) 584115552264),
  fun K => tyB K (He.fAd K ("InvalidWindows", some "__init__")),
  fun K => exB K (He.ga K "InvalidUses") "ValueError.__new__" (tailOf "ValueError"),
  fun K => fdB K (He.ga K "InvalidUses") ["module"],
  fun K => kiB K (He.ga K "InvalidUses") (rowL (kiLH K) 584115552272),
  fun K => tyB K (He.fAd K ("InvalidUses", some "__init__")),
  fun K => exB K (He.ga K "InvalidRows") "ValueError.__new__" (tailOf "ValueError"),
  fun K => fdB K (He.ga K "InvalidRows") ["position"],
  fun K => kiB K (He.ga K "InvalidRows") (rowL (kiLH K) 584115552288),
  fun K => tyB K (He.fAd K ("InvalidRows", some "__init__")),
  fun K => exB K (He.ga K "InvalidState") "ValueError.__new__" (tailOf "ValueError"),
  fun K => fdB K (He.ga K "InvalidState") ["module"],
  fun K => kiB K (He.ga K "InvalidState") (rowL (kiLH K) 584115552320),
  fun K => tyB K (He.fAd K ("InvalidState", some "__init__")),
  fun K => exB K (He.ga K "InvalidDemand") "ValueError.__new__" (tailOf "ValueError"),
  fun K => fdB K (He.ga K "InvalidDemand") ["value"],
  fun K => kiB K (He.ga K "InvalidDemand") (rowL (kiLH K) 584115552384),
  fun K => tyB K (He.fAd K ("InvalidDemand", some "__init__")),
  fun K => exB K (He.ga K "InvalidGoals") "ValueError.__new__" (tailOf "ValueError"),
  fun K => fdB K (He.ga K "InvalidGoals") ["position"],
  fun K => kiB K (He.ga K "InvalidGoals") (rowL (kiLH K) 584115552512),
  fun K => tyB K (He.fAd K ("InvalidGoals", some "__init__")),
  fun K => exB K (He.ga K "InvalidStep") "ValueError.__new__" (tailOf "ValueError"),
  fun K => fdB K (He.ga K "InvalidStep") ["value"],
  fun K => kiB K (He.ga K "InvalidStep") (rowL (kiLH K) 584115552768),
  fun K => tyB K (He.fAd K ("InvalidStep", some "__init__")),
  fun K => exB K (He.ga K "InvalidSteps") "ValueError.__new__" (tailOf "ValueError"),
  fun K => fdB K (He.ga K "InvalidSteps") ["position"],
  fun K => kiB K (He.ga K "InvalidSteps") (rowL (kiLH K) 584115553280),
  fun K => tyB K (He.fAd K ("InvalidSteps", some "__init__")),
  fun K => exB K (He.ga K "InvalidChange") "ValueError.__new__" (tailOf "ValueError"),
  fun K => kiB K (He.ga K "InvalidChange") (rowL (kiLH K) 584115554304),
  fun K => PySem.W.excIn K (He.ga K "InvalidChange") (tailOf "ValueError") "ValueError.__new__",
  fun K => exB K (He.ga K "InvalidCount") "ValueError.__new__" (tailOf "ValueError"),
  fun K => fdB K (He.ga K "InvalidCount") ["value"],
  fun K => kiB K (He.ga K "InvalidCount") (rowL (kiLH K) 584115556352),
  fun K => tyB K (He.fAd K ("InvalidCount", some "__init__")),
  fun K => exB K (He.ga K "InvalidText") "ValueError.__new__" (tailOf "ValueError"),
  fun K => fdB K (He.ga K "InvalidText") ["line"],
  fun K => kiB K (He.ga K "InvalidText") (rowL (kiLH K) 584115560448)]
def faL2 : List Fc := [fun K => tyB K (He.fAd K ("InvalidText", some "__init__")),
  fun K => exB K (He.ga K "InvalidEntry") "ValueError.__new__" (tailOf "ValueError"),
  fun K => fdB K (He.ga K "InvalidEntry") ["value"],
  fun K => kiB K (He.ga K "InvalidEntry") (rowL (kiLH K) 584115568640),
  fun K => tyB K (He.fAd K ("InvalidEntry", some "__init__")),
  fun K => exB K (He.ga K "InvalidCommand") "ValueError.__new__" (tailOf "ValueError"),
  fun K => kiB K (He.ga K "InvalidCommand") (rowL (kiLH K) 584115585024),
  fun K => PySem.W.excIn K (He.ga K "InvalidCommand") (tailOf "ValueError") "ValueError.__new__",
  fun K => exB K (He.ga K "Missing") "LookupError.__new__" (tailOf "LookupError"),
  fun K => kiB K (He.ga K "Missing") (rowL (kiLH K) 1168231104512),
  fun K => ibB K (He.ga K "Missing") "LookupError.__init__",
  fun K => PySem.W.excIn K (He.ga K "Missing") (tailOf "LookupError") "LookupError.__new__",
  fun K => exB K (He.ga K "UnknownModule") "LookupError.__new__" (tailOf "LookupError"),
  fun K => fdB K (He.ga K "UnknownModule") ["value"],
  fun K => kiB K (He.ga K "UnknownModule") (rowL (kiLH K) 1168231170048),
  fun K => tyB K (He.fAd K ("UnknownModule", some "__init__")),
  fun K => exB K (He.ga K "UnknownUse") "LookupError.__new__" (tailOf "LookupError"),
  fun K => fdB K (He.ga K "UnknownUse") ["user", "used"],
  fun K => kiB K (He.ga K "UnknownUse") (rowL (kiLH K) 1168231235584),
  fun K => tyB K (He.fAd K ("UnknownUse", some "__init__")),
  fun K => exB K (He.ga K "UnknownVersion") "LookupError.__new__" (tailOf "LookupError"),
  fun K => fdB K (He.ga K "UnknownVersion") ["module", "version"],
  fun K => kiB K (He.ga K "UnknownVersion") (rowL (kiLH K) 1168231366656),
  fun K => tyB K (He.fAd K ("UnknownVersion", some "__init__")),
  fun K => exB K (He.ga K "UnknownOperator") "LookupError.__new__" (tailOf "LookupError"),
  fun K => fdB K (He.ga K "UnknownOperator") ["value"],
  fun K => kiB K (He.ga K "UnknownOperator") (rowL (kiLH K) 1168231628800),
  fun K => tyB K (He.fAd K ("UnknownOperator", some "__init__")),
  fun K => exB K (He.ga K "UnknownSession") "LookupError.__new__" (tailOf "LookupError"),
  fun K => fdB K (He.ga K "UnknownSession") ["value"],
  fun K => kiB K (He.ga K "UnknownSession") (rowL (kiLH K) 1168232153088),
  fun K => tyB K (He.fAd K ("UnknownSession", some "__init__")),
  fun K => exB K (He.ga K "Refused") "RuntimeError.__new__" (tailOf "RuntimeError"),
  fun K => kiB K (He.ga K "Refused") (rowL (kiLH K) 2336462209024),
  fun K => ibB K (He.ga K "Refused") "RuntimeError.__init__",
  fun K => PySem.W.excIn K (He.ga K "Refused") (tailOf "RuntimeError") "RuntimeError.__new__",
  fun K => exB K (He.ga K "NotRising") "RuntimeError.__new__" (tailOf "RuntimeError"),
  fun K => fdB K (He.ga K "NotRising") ["user", "used"],
  fun K => kiB K (He.ga K "NotRising") (rowL (kiLH K) 2336464306176),
  fun K => tyB K (He.fAd K ("NotRising", some "__init__")),
  fun K => exB K (He.ga K "NotConsistent") "RuntimeError.__new__" (tailOf "RuntimeError"),
  fun K => fdB K (He.ga K "NotConsistent") ["user", "used"],
  fun K => kiB K (He.ga K "NotConsistent") (rowL (kiLH K) 2336466403328),
  fun K => tyB K (He.fAd K ("NotConsistent", some "__init__")),
  fun K => exB K (He.ga K "NotBelow") "RuntimeError.__new__" (tailOf "RuntimeError"),
  fun K => fdB K (He.ga K "NotBelow") ["module"],
  fun K => kiB K (He.ga K "NotBelow") (rowL (kiLH K) 2336470597632),
  fun K => tyB K (He.fAd K ("NotBelow", some "__init__")),
  fun K => exB K (He.ga K "CannotMeet") "RuntimeError.__new__" (tailOf "RuntimeError"),
  fun K => fdB K (He.ga K "CannotMeet") ["module", "version"],
  fun K => kiB K (He.ga K "CannotMeet") (rowL (kiLH K) 2336478986240),
  fun K => tyB K (He.fAd K ("CannotMeet", some "__init__")),
  fun K => exB K (He.ga K "NoStep") "RuntimeError.__new__" (tailOf "RuntimeError"),
  fun K => fdB K (He.ga K "NoStep") ["module", "version"],
  fun K => kiB K (He.ga K "NoStep") (rowL (kiLH K) 2336495763456),
  fun K => tyB K (He.fAd K ("NoStep", some "__init__")),
  fun K => exB K (He.ga K "MissingNeed") "RuntimeError.__new__" (tailOf "RuntimeError"),
  fun K => fdB K (He.ga K "MissingNeed") ["step"],
  fun K => kiB K (He.ga K "MissingNeed") (rowL (kiLH K) 2336529317888),
  fun K => tyB K (He.fAd K ("MissingNeed", some "__init__")),
  fun K => exB K (He.ga K "NotAvailable") "RuntimeError.__new__" (tailOf "RuntimeError"),
  fun K => fdB K (He.ga K "NotAvailable") ["step"],
  fun K => kiB K (He.ga K "NotAvailable") (rowL (kiLH K) 2336596426752),
  fun K => tyB K (He.fAd K ("NotAvailable", some "__init__")),
  fun K => exB K (He.ga K "Pinned") "RuntimeError.__new__" (tailOf "RuntimeError"),
  fun K => fdB K (He.ga K "Pinned") ["module", "version"],
  fun K => kiB K (He.ga K "Pinned") (rowL (kiLH K) 2336730644480),
  fun K => tyB K (He.fAd K ("Pinned", some "__init__")),
  fun K => exB K (He.ga K "InUse") "RuntimeError.__new__" (tailOf "RuntimeError"),
  fun K => fdB K (He.ga K "InUse") ["module", "version"],
  fun K => kiB K (He.ga K "InUse") (rowL (kiLH K) 2336999079936),
  fun K => tyB K (He.fAd K ("InUse", some "__init__")),
  fun K => exB K (He.ga K "NameTaken") "RuntimeError.__new__" (tailOf "RuntimeError"),
  fun K => fdB K (He.ga K "NameTaken") ["value"],
  fun K => kiB K (He.ga K "NameTaken") (rowL (kiLH K) 2337535950848),
  fun K => tyB K (He.fAd K ("NameTaken", some "__init__")),
  fun K => exB K (He.ga K "NothingToUndo") "RuntimeError.__new__" (tailOf "RuntimeError"),
  fun K => kiB K (He.ga K "NothingToUndo") (rowL (kiLH K) 2338609692672),
  fun K => PySem.W.excIn K (He.ga K "NothingToUndo") (tailOf "RuntimeError") "RuntimeError.__new__",
  fun K => exB K (He.ga K "LimitReached") "ArithmeticError.__new__" (tailOf "ArithmeticError")]
def faL3 : List Fc := [fun K => kiB K (He.ga K "LimitReached") (rowL (kiLH K) 4672924418048),
  fun K => ibB K (He.ga K "LimitReached") "ArithmeticError.__init__",
  fun K => PySem.W.excIn K (He.ga K "LimitReached") (tailOf "ArithmeticError") "ArithmeticError.__new__",
  fun K => exB K (He.ga K "TooMany") "ArithmeticError.__new__" (tailOf "ArithmeticError"),
  fun K => fdB K (He.ga K "TooMany") ["kind", "limit"],
  fun K => kiB K (He.ga K "TooMany") (rowL (kiLH K) 4677219385344),
  fun K => tyB K (He.fAd K ("TooMany", some "__init__")),
  fun K => exB K (He.ga K "NoState") "ArithmeticError.__new__" (tailOf "ArithmeticError"),
  fun K => fdB K (He.ga K "NoState") ["chain"],
  fun K => kiB K (He.ga K "NoState") (rowL (kiLH K) 4681514352640),
  fun K => tyB K (He.fAd K ("NoState", some "__init__")),
  fun K => exB K (He.ga K "Unreachable") "ArithmeticError.__new__" (tailOf "ArithmeticError"),
  fun K => fdB K (He.ga K "Unreachable") ["chain"],
  fun K => kiB K (He.ga K "Unreachable") (rowL (kiLH K) 4690104287232),
  fun K => tyB K (He.fAd K ("Unreachable", some "__init__"))]
def faL : List Fc := faL0 ++ (faL1 ++ (faL2 ++ (faL3)))
def nmL0 : List PySem.Str := ["GroupError", "InvalidName", "InvalidVersion", "InvalidWindow", "InvalidWindows", "InvalidUses", "InvalidRows", "InvalidState", "InvalidDemand", "InvalidGoals", "InvalidStep", "InvalidSteps", "InvalidChange", "InvalidCount", "InvalidText", "InvalidEntry", "InvalidCommand", "Missing", "UnknownModule", "UnknownUse"]
def nmL1 : List PySem.Str := ["UnknownVersion", "UnknownOperator", "UnknownSession", "Refused", "NotRising", "NotConsistent", "NotBelow", "CannotMeet", "NoStep", "MissingNeed", "NotAvailable", "Pinned", "InUse", "NameTaken", "NothingToUndo", "LimitReached", "TooMany", "NoState", "Unreachable", "_law_rng"]
def nmL2 : List PySem.Str := ["_law_draw", "_law_choice", "_law_odd", "_law_first_classes", "_law_classes", "_law_bases", "_law_hierarchy_right", "_law_single", "_law_single_named", "_law_pairs", "_law_double_right"]
def nmL : List PySem.Str := nmL0 ++ (nmL1 ++ (nmL2))
abbrev RH : PySem.W.OpenRow := PySem.W.OpenLaw.row PySem.Challenge.rw_groupsteps_k15_errors_created
set_option maxHeartbeats 0 in
theorem runF0 (w : World) (os : OsState) : ((HandSHeadRun.endF (HandSHeadRun.stepQ (HandSHeadRun.denQ HandSHeadRun.tabQ) RH.prog w) 20000 RH.prog w os).map fun s => faL0.all fun f => f (frH (HandSHeadRun.getT s) (sysModules :: cStatics :: He.asD (HandSHeadRun.getT s) 4))) = some true := by kernel_rfl
set_option maxHeartbeats 0 in
theorem runF1 (w : World) (os : OsState) : ((HandSHeadRun.endF (HandSHeadRun.stepQ (HandSHeadRun.denQ HandSHeadRun.tabQ) RH.prog w) 20000 RH.prog w os).map fun s => faL1.all fun f => f (frH (HandSHeadRun.getT s) (sysModules :: cStatics :: He.asD (HandSHeadRun.getT s) 4))) = some true := by kernel_rfl
set_option maxHeartbeats 0 in
theorem runF2 (w : World) (os : OsState) : ((HandSHeadRun.endF (HandSHeadRun.stepQ (HandSHeadRun.denQ HandSHeadRun.tabQ) RH.prog w) 20000 RH.prog w os).map fun s => faL2.all fun f => f (frH (HandSHeadRun.getT s) (sysModules :: cStatics :: He.asD (HandSHeadRun.getT s) 4))) = some true := by kernel_rfl
set_option maxHeartbeats 0 in
theorem runF3 (w : World) (os : OsState) : ((HandSHeadRun.endF (HandSHeadRun.stepQ (HandSHeadRun.denQ HandSHeadRun.tabQ) RH.prog w) 20000 RH.prog w os).map fun s => faL3.all fun f => f (frH (HandSHeadRun.getT s) (sysModules :: cStatics :: He.asD (HandSHeadRun.getT s) 4))) = some true := by kernel_rfl
set_option maxHeartbeats 0 in
theorem runD (w : World) (os : OsState) : ((HandSHeadRun.endF (HandSHeadRun.stepQ (HandSHeadRun.denQ HandSHeadRun.tabQ) RH.prog w) 20000 RH.prog w os).map fun s => defsH 4 fnL tbL (HandSHeadRun.getT s)) = some (He.valD fnL) := by kernel_rfl
set_option maxHeartbeats 0 in
theorem runS (w : World) (os : OsState) : ((HandSHeadRun.endF (HandSHeadRun.stepQ (HandSHeadRun.denQ HandSHeadRun.tabQ) RH.prog w) 20000 RH.prog w os).map fun s => (HandSHeadRun.looksF RH.prog (PySem.W.boot_heap w.params) s.abs, HandSHeadRun.seenQ (PySem.W.view RH.prog [53]) nmL (importedModules RH.prog.main.body) (fun s => PySem.W.xlAt (PySem.W.view RH.prog [53]) [] s && PySem.W.recOk RH.toRowW.records s) s.abs)) = some (true, PySem.W.openGood (PySem.W.view RH.prog [53]) nmL) := by kernel_rfl
end KX

namespace KX
open PySem PySem.Spec PyProof.Rows L2

/-! ### calls where the frames' guards are told (repr of containers asks for them) -/
structure Rg (k : Nat) (A : Around) : Prop where
  room : Room k A
  gd : A.guards = some []
theorem Rg.mono {j k : Nat} {A : Around} (r : Rg k A) (h : j ≤ k) : Rg j A := ⟨r.room.mono h, r.gd⟩
theorem Rg.deeper {k : Nat} {A : Around} (r : Rg (k + 1) A) (env : Env) : Rg k (A.deeper env) := ⟨r.room.deeper env, r.gd⟩

structure Fg (P : Program) (w : World) (K : PySem.W.Frag) (mg : Str → Option Value) (base : Heap) (CX : CXT) (k : Nat) (f : Addr) (fd : FuncData) (ps : List Str) (sp : Sp) : Prop where
  len : ∀ vs H Q E, sp vs H Q E → vs.length = ps.length
  run : ∀ (A : Around) (outer : List Env) (s : Shared) (H : Hp) (args : Args) (us : List Value) (vs : List V) (Q : VK) (E : XK), Rg k A → Env0 P w K mg base A outer s H → BindsTo s fd args (ps.zip us) → Vals vs us → sp vs H Q E →
    codeAny (model P w) A (.call (.ref f) args) (CR CX outer P w H s Q E) s
theorem Fg.mono {P : Program} {w : World} {K : PySem.W.Frag} {mg : Str → Option Value} {base : Heap} {CX : CXT} {j k : Nat} {f : Addr} {fd : FuncData} {ps : List Str} {sp : Sp} (F : Fg P w K mg base CX j f fd ps sp) (h : j ≤ k) :
    Fg P w K mg base CX k f fd ps sp := ⟨F.len, fun A outer s H args us vs Q E hr => F.run A outer s H args us vs Q E (hr.mono h)⟩

section
variable {X : Cx} {CX : CXT} {k : Nat} {f C : Addr} {fd : FuncData} {ps : List Str} {sp : Sp} {dvs : List V} {ds : List Value} {E : XK} {x m : Str} {p pos apos : Pos} {e o : Expr} {es : List Expr} {ta : TE} {t : TA}
theorem run_fn {pins : List (Addr × Obj)} {σ : L2.St} {H : Hp} {s : Shared} {Q : VK} {us : List Value} {vs : List V} (F : Fg X.prog X.w X.K X.mg X.base CX k f fd ps sp) (hr : Rg k X.A) (hb : Binds X.K fd ps ds) (hd : Vals dvs ds) (hx : Passes CX X E)
    (I : Inv X pins σ H s) (r : Vals vs us) (h : sp (vs ++ dvs) H Q E) : wpAny (model X.prog X.w) X.A (call (.ref f) us) (EP X pins σ Q) X.xe s := by
  have r2 : Vals (vs ++ dvs) (us ++ ds) := r.append hd
  have hl : (us ++ ds).length = ps.length := by rw [← r2.length]; exact F.len _ _ _ _ h
  refine wpAny_call (codeAny_mono (F.run X.A X.stack s H ⟨us, []⟩ (us ++ ds) (vs ++ dvs) Q E hr I.env0 (hb s us I.kIn hl) r2 h) fun r s' hq => ?_)
  cases r with
  | error e => exact hx pins σ H s e s' I hq
  | ok fl =>
    cases fl with
    | ret u => exact I.after hq
    | next => exact False.elim hq
    | brk => exact False.elim hq
    | cont => exact False.elim hq
theorem pe_call (F : Fg X.prog X.w X.K X.mg X.base CX k f fd ps sp) (hr : Rg k X.A) (hg : Gl X x) (hm : X.mg x = some (.ref f)) (hk : PySem.W.keepIn X.K (.ref f) = true) (hb : Binds X.K fd ps ds) (hd : Vals dvs ds) (hx : Passes CX X E)
    (ha : PA X (e :: es) t) (hdb : (x == ("__debug__" : Str)) = false := by decide) (he : starEach (e :: es) X.env = (false, eval e X.env) :: starEach es X.env := by rfl) (hpl : (backTo pos (starEach es X.env)).any (·.1) = false := by rfl) :
    PE X (.Call (.Name x p) (e :: es) [] pos) (tCall sp dvs E t) := by
  refine ⟨fun pins s σ H Q I h => ?_⟩
  refine wpAny_Call_Name_kw (ld_glob I hg hm ?_ hdb)
  refine PySem.W.callWith_K (h₀ := X.base) I.ok.mod.kin hk (thn (ha.run pos pins s σ H _ I h) fun us s1 ⟨vs, H1, I1, r, q⟩ => ⟨I1.kIn, ?_⟩) he hpl
  exact run_fn F hr hb hd hx I1 r q
theorem pe_call0 (F : Fg X.prog X.w X.K X.mg X.base CX k f fd ps sp) (hr : Rg k X.A) (hg : Gl X x) (hm : X.mg x = some (.ref f)) (hk : PySem.W.keepIn X.K (.ref f) = true) (hb : Binds X.K fd ps ds) (hd : Vals dvs ds) (hx : Passes CX X E)
    (hdb : (x == ("__debug__" : Str)) = false := by decide) : PE X (.Call (.Name x p) [] [] pos) (tCall sp dvs E tNil) := by
  refine ⟨fun pins s σ H Q I h => ?_⟩
  refine wpAny_Call_Name_kw (ld_glob I hg hm ?_ hdb)
  exact PySem.W.callWith_K0 I.kIn hk (run_fn (us := []) F hr hb hd hx I .nil h)
end

theorem fg_of {CX : CXT} {P : Program} {w : World} {K : PySem.W.Frag} {mg : Str → Option Value} {base : Heap} {k : Nat} {f : Addr} {name qual : Str} {params : Arguments} {body : List Stmt} {scope : Scope} {dV kV doc pm cdv ct oc : Value} {an od : Option Addr}
    {osl : Array (Option Value)} {N ps : List Str} {sp : Sp} (lk : K.lookup f = some ⟨oc, od, .func (PySem.W.fnOf name qual params body scope dV kV doc pm an cdv ct), osl⟩) (hcd : PySem.W.codeIn K cdv qual = true) (S : FnScope N ps scope)
    (len : ∀ vs H Q E, sp vs H Q E → vs.length = ps.length)
    (hbody : ∀ (A : Around) (outer : List Env) (s : Shared) (H : Hp) (vs : List V) (Q : VK) (E : XK), Rg k (A.deeper (envOfC qual scope s.heap.objs.size f cdv)) → sp vs H Q E →
      ∃ t, PSs (cxOf CX P w K mg base N qual scope f cdv A outer s H E) body t ∧ t { nx := fun _ H' => Q .non H', rt := Q } (start N vs) H) :
    Fg P w K mg base CX (k + 1) f (PySem.W.fnOf name qual params body scope dV kV doc pm an cdv ct) ps sp := by
  refine ⟨len, fun A outer s H args us vs Q E hrg e0 hb r hsp => ?_⟩
  have hr := hrg.room
  have hl := len _ _ _ _ hsp
  have KX : K.In s.heap := e0.mod.kin.keeps fun b o e => (e0.bs b o e).1
  have lim : s.heap.NoLimit := e0.mod.nolimit.keeps fun b o e => (e0.bs b o e).1
  have hkind : ∀ y ∈ ps.zip us, scope.names.lookup y.1 = some .local ∨ (scope.names.lookup y.1 = some .cell ∧ ((cellsFrom (s.heap.objs.size + 1) scope.names []).lookup y.1).isSome = true) := fun ⟨n, v⟩ hy => by
    rcases S.par n (List.of_mem_zip hy).1 with q | q
    · exact .inl q
    · exact .inr ⟨q, PySem.W.cellsFrom_some _ _ _ (.inl q)⟩
  refine codeAny_call_function hr.depth (KX _ _ lk) rfl S.co S.gen rfl (PySem.W.codeRec_of KX hcd) (hb _ _ _ _ ?_)
  refine wpAny_newFunctionEnv_cells S.kind hkind fun env he s1 x => ?_
  subst he
  refine ⟨lim.keeps x.toInCall.keep, codeAny_func ?_⟩
  obtain ⟨t, ht, hq⟩ := hbody A outer s H vs Q E (hrg.deeper _) hsp
  have I : Inv (cxOf CX P w K mg base N qual scope f cdv A outer s H E) [] (start N vs) H s1 := inv_start S hr.hd e0 hl r x
  refine wpAny_mono (ht.run [] s1 (start N vs) H _ I hq) (fun fl s' hs => ?_) fun e s' hs => hs
  have fin : ∀ {σ' : L2.St} {H' : Hp} {v : V} {u : Value}, Inv (cxOf CX P w K mg base N qual scope f cdv A outer s H E) [] σ' H' s' → RelV v u → Q v H' → CE outer P w H s Q u s' :=
    fun {σ' H' v u} J rv q => ⟨v, H', J.os, J.bare, J.base, J.hok, rv, q⟩
  cases fl with
  | ret u =>
    obtain ⟨v, σ', H', J, rv, q⟩ := hs
    exact fin J rv q
  | next =>
    obtain ⟨σ', H', J, q⟩ := hs
    exact fin (v := V.non) (u := Value.none) J rfl q
  | brk =>
    obtain ⟨_, _, _, q⟩ := hs
    exact False.elim q
  | cont =>
    obtain ⟨_, _, _, q⟩ := hs
    exact False.elim q
section
variable {P : Program} {w : World} {K : PySem.W.Frag} {mg : Str → Option Value} {base : Heap}
theorem ok_g {x qual : Str} {st : Stmt} {f : Addr} {fd : FuncData} {N ps : List Str} {k : Nat} {sp : Sp} (F : Fun K x qual st f fd) (S : FnScope N ps (defScope st)) (len : ∀ vs H Q E, sp vs H Q E → vs.length = ps.length)
    (hbody : ∀ (cdv : Value) (A : Around) (outer : List Env) (s : Shared) (H : Hp) (vs : List V) (Q : VK) (E : XK), Rg k (A.deeper (envOfC qual (defScope st) s.heap.objs.size f cdv)) → sp vs H Q E →
      ∃ t, PSs (cxOf CX0 P w K mg base N qual (defScope st) f cdv A outer s H E).nox (defBody st) t ∧ t { nx := fun _ H' => Q .non H', rt := Q } (start N vs) H) : Fg P w K mg base CX0 (k + 1) f fd ps sp := by
  obtain ⟨oc, od, kV, doc, pm, an, cdv, ct, osl, rfl, lk, hcd⟩ := F.ex
  refine fg_of lk hcd S len fun A outer s H vs Q E hr hsp => ?_
  obtain ⟨t, h, q⟩ := hbody cdv A outer s H vs Q E hr hsp
  exact ⟨t, h.nox, q⟩
theorem ok_gX {x qual : Str} {st : Stmt} {f : Addr} {fd : FuncData} {N ps : List Str} {k : Nat} {sp : Sp} {CX : CXT} (F : Fun K x qual st f fd) (S : FnScope N ps (defScope st)) (len : ∀ vs H Q E, sp vs H Q E → vs.length = ps.length)
    (hbody : ∀ (cdv : Value) (A : Around) (outer : List Env) (s : Shared) (H : Hp) (vs : List V) (Q : VK) (E : XK), Rg k (A.deeper (envOfC qual (defScope st) s.heap.objs.size f cdv)) → sp vs H Q E →
      ∃ t, PSs (cxOf CX P w K mg base N qual (defScope st) f cdv A outer s H E) (defBody st) t ∧ t { nx := fun _ H' => Q .non H', rt := Q } (start N vs) H) : Fg P w K mg base CX (k + 1) f fd ps sp := by
  obtain ⟨oc, od, kV, doc, pm, an, cdv, ct, osl, rfl, lk, hcd⟩ := F.ex
  exact fg_of lk hcd S len fun A outer s H vs Q E hr hsp => hbody cdv A outer s H vs Q E hr hsp
end

/-! ### data at any depth, dicts with int and text keys among them -/
def keyD : Key → PyData
  | .inl i => .int i
  | .inr x => .str x
mutual
inductive DaF (b : Bool) (K : PySem.W.Frag) (H : Hp) : V → PyData → Prop
  | non : DaF b K H .non .none
  | bl (c : Bool) : DaF b K H (.bl c) (.bool c)
  | int (i : Int) : DaF b K H (.int i) (.int i)
  | str (x : Str) : DaF b K H (.str x) (.str x)
  | lst {a : Addr} {xs : List V} {ds : List PyData} : SqL K H a xs → (b = true → a ≠ sysModules) → DaAllF b K H xs ds → DaF b K H (.ref a) (.list ds)
  | tup {a : Addr} {xs : List V} {ds : List PyData} : SqT K H a xs → DaAllF b K H xs ds → DaF b K H (.ref a) (.tuple ds)
  | dic {a : Addr} {kvs : List (Key × V)} {dk : List (PyData × PyData)} : Rd H a (.dK kvs) → DaKvF b K H kvs dk → DaF b K H (.ref a) (.dict dk)
inductive DaAllF (b : Bool) (K : PySem.W.Frag) (H : Hp) : List V → List PyData → Prop
  | nil : DaAllF b K H [] []
  | cons {v : V} {vs : List V} {d : PyData} {ds : List PyData} : DaF b K H v d → DaAllF b K H vs ds → DaAllF b K H (v :: vs) (d :: ds)
inductive DaKvF (b : Bool) (K : PySem.W.Frag) (H : Hp) : List (Key × V) → List (PyData × PyData) → Prop
  | nil : DaKvF b K H [] []
  | cons {k : Key} {v : V} {kvs : List (Key × V)} {d : PyData} {ds : List (PyData × PyData)} : DaF b K H v d → DaKvF b K H kvs ds → DaKvF b K H ((k, v) :: kvs) ((keyD k, d) :: ds)
end
theorem Rd.same {H H' : Hp} {a : Addr} {u : HO} (e : Same H H') (r : Rd H a u) : Rd H' a u := by
  rcases r with r | ⟨o, r⟩
  · exact .inl (e _ _ r)
  · exact .inr ⟨o, e _ _ r⟩
theorem same_seqT {K : PySem.W.Frag} {H H' : Hp} {a : Addr} {xs : List V} (e : Same H H') (h : SqT K H a xs) : SqT K H' a xs := by
  rcases h with h | h
  · exact .inl (Rd.same e h)
  · exact .inr h
mutual
theorem DaF.same {b : Bool} {K : PySem.W.Frag} {H H' : Hp} (e : Same H H') : ∀ {v : V} {d : PyData}, DaF b K H v d → DaF b K H' v d
  | _, _, .non => .non
  | _, _, .bl b => .bl b
  | _, _, .int i => .int i
  | _, _, .str x => .str x
  | _, _, .lst h n a => .lst (e.seq h) n (DaAllF.same e a)
  | _, _, .tup h a => .tup (same_seqT e h) (DaAllF.same e a)
  | _, _, .dic h a => .dic (Rd.same e h) (DaKvF.same e a)
theorem DaAllF.same {b : Bool} {K : PySem.W.Frag} {H H' : Hp} (e : Same H H') : ∀ {vs : List V} {ds : List PyData}, DaAllF b K H vs ds → DaAllF b K H' vs ds
  | _, _, .nil => .nil
  | _, _, .cons a r => .cons (DaF.same e a) (DaAllF.same e r)
theorem DaKvF.same {b : Bool} {K : PySem.W.Frag} {H H' : Hp} (e : Same H H') : ∀ {kvs : List (Key × V)} {ds : List (PyData × PyData)}, DaKvF b K H kvs ds → DaKvF b K H' kvs ds
  | _, _, .nil => .nil
  | _, _, .cons a r => .cons (DaF.same e a) (DaKvF.same e r)
end
/-- the records of a dict read -/
theorem kv_reads {P : Program} {w : World} {h : Heap} {vs : List (Key × Value)} : ∀ {es : List DictEntry} {kvs : List (Key × V)} {dk : List (PyData × PyData)}, Pairs (mixKind P w) es vs → (dk.map (·.1)) = vs.map (fun p => keyD p.1) → ∃ as, ReadsAll h (es.map (·.key)) (dk.map (·.1)) as ∧ as = [] := by
  intro es kvs dk hp he
  rw [he]
  clear he
  induction hp with
  | nil => exact ⟨_, ReadsAll.nil, rfl⟩
  | @cons e kv es kvs hk hv hr ih =>
    obtain ⟨as, q, rfl⟩ := ih
    have hk' : keyIs kv.1 e.key = true := hk
    rcases keyIs_shape hk' with ⟨i, t, e1, e2⟩ | ⟨x, t, e1, e2⟩
    · refine ⟨[] ++ [], ReadsAll.cons (d := keyD kv.1) (v := e.key) (as := []) ?_ q, rfl⟩
      rw [e1, e2]; exact Reads.int i t
    · refine ⟨[] ++ [], ReadsAll.cons (d := keyD kv.1) (v := e.key) (as := []) ?_ q, rfl⟩
      rw [e1, e2]; exact Reads.str x t
theorem dakv_keys {b : Bool} {K : PySem.W.Frag} {H : Hp} : ∀ {kvs : List (Key × V)} {dk : List (PyData × PyData)}, DaKvF b K H kvs dk → dk.map (·.1) = kvs.map (fun p => keyD p.1)
  | _, _, .nil => rfl
  | _, _, .cons a r => by rw [List.map_cons, List.map_cons, dakv_keys r]
theorem dakv_vals {b : Bool} {K : PySem.W.Frag} {H : Hp} : ∀ {kvs : List (Key × V)} {dk : List (PyData × PyData)}, DaKvF b K H kvs dk → DaAllF b K H (kvs.map (·.2)) (dk.map (·.2))
  | _, _, .nil => .nil
  | _, _, .cons a r => .cons a (dakv_vals r)
theorem kv_keys : ∀ {kvs : List (Key × V)} {vs : List (Key × Value)}, KV kvs vs → kvs.map (fun p => keyD p.1) = vs.map (fun p => keyD p.1)
  | _, _, .nil => rfl
  | _, _, .cons a r => by rw [List.map_cons, List.map_cons, kv_keys r, a.1]
theorem kv_vals : ∀ {kvs : List (Key × V)} {vs : List (Key × Value)}, KV kvs vs → Vals (kvs.map (·.2)) (vs.map (·.2))
  | _, _, .nil => .nil
  | _, _, .cons a r => .cons a.2 (kv_vals r)
theorem pairs_vals {P : Program} {w : World} : ∀ {es : List DictEntry} {vs : List (Key × Value)}, Pairs (mixKind P w) es vs → es.map (·.val) = vs.map (·.2)
  | _, _, .nil => rfl
  | _, _, .cons _ hv r => by rw [List.map_cons, List.map_cons, hv, pairs_vals r]
section
variable {X : Cx} {pins : List (Addr × Obj)} {σ : L2.St} {H : Hp} {s : Shared}
mutual
theorem DaF.reads {b : Bool} (I : Inv X pins σ H s) : ∀ (d : PyData) (v : V) (u : Value), DaF b X.K H v d → RelV v u → ∃ as, Reads s.heap u d as ∧ (b = true → sysModules ∉ as)
  | .none, _, _, h, r => by
    cases h; cases r
    exact ⟨_, Reads.none, fun _ => by simp⟩
  | .bool b, _, _, h, r => by
    cases h; cases r
    exact ⟨_, Reads.bool b, fun _ => by simp⟩
  | .int i, _, _, h, r => by
    cases h
    obtain ⟨t, rfl⟩ := r
    exact ⟨_, Reads.int i t, fun _ => by simp⟩
  | .str x, _, _, h, r => by
    cases h
    obtain ⟨t, rfl⟩ := r
    exact ⟨_, Reads.str x t, fun _ => by simp⟩
  | .list ds, _, _, h, r => by
    cases h with
    | lst hq hne ha =>
      cases r
      obtain ⟨its, rv, ⟨o, n, ho, hc, _, hd⟩, _⟩ := I.list hq
      obtain ⟨as, hr, hn⟩ := DaF.readsAll I ds _ its ha rv
      refine ⟨_, Reads.list ho hc hd hr, ?_⟩
      intro hb hm
      rcases List.mem_cons.mp hm with e | hm
      · exact hne hb e.symm
      · exact hn hb hm
  | .tuple ds, _, _, h, r => by
    cases h with
    | tup hq ha =>
      cases r
      obtain ⟨its, rv, ⟨o, ho, hc, n, hd⟩, _⟩ := I.tuple hq
      obtain ⟨as, hr, hn⟩ := DaF.readsAll I ds _ its ha rv
      exact ⟨_, Reads.tuple ho hc hd hr, hn⟩
  | .dict dk, _, _, h, r => by
    cases h with
    | dic hq ha =>
      cases r
      obtain ⟨_, hsys, vs, kv, o, es, ep, ho, hx, hd, _, hp, _⟩ := hq.ok I.hok
      obtain ⟨as1, r1, e1⟩ := kv_reads (h := s.heap) (kvs := []) (dk := dk) hp ((dakv_keys ha).trans (kv_keys kv))
      obtain ⟨as2, r2, hn⟩ := DaF.readsKv I dk _ (vs.map (·.2)) ha (kv_vals kv)
      subst e1
      refine ⟨_, Reads.dict ho hx.1 hd r1 (by rw [pairs_vals hp]; exact r2), ?_⟩
      intro hb hm
      rcases List.mem_append.mp hm with hm | hm
      · rcases List.mem_cons.mp hm with e | hm
        · rw [← e] at hsys; simp at hsys
        · simp at hm
      · exact hn hb hm
theorem DaF.readsAll {b : Bool} (I : Inv X pins σ H s) : ∀ (ds : List PyData) (vs : List V) (us : List Value), DaAllF b X.K H vs ds → Vals vs us → ∃ as, ReadsAll s.heap us ds as ∧ (b = true → sysModules ∉ as)
  | [], _, _, h, r => by
    cases h; cases r
    exact ⟨_, ReadsAll.nil, fun _ => by simp⟩
  | d :: ds, _, _, h, r => by
    cases h with
    | cons h1 h2 =>
      cases r with
      | cons r1 r2 =>
        obtain ⟨as, q1, n1⟩ := DaF.reads I d _ _ h1 r1
        obtain ⟨bs, q2, n2⟩ := DaF.readsAll I ds _ _ h2 r2
        exact ⟨_, ReadsAll.cons q1 q2, fun hb hm => (List.mem_append.mp hm).elim (n1 hb) (n2 hb)⟩
theorem DaF.readsKv {b : Bool} (I : Inv X pins σ H s) : ∀ (dk : List (PyData × PyData)) (kvs : List (Key × V)) (us : List Value), DaKvF b X.K H kvs dk → Vals (kvs.map (·.2)) us → ∃ as, ReadsAll s.heap us (dk.map (·.2)) as ∧ (b = true → sysModules ∉ as)
  | [], _, _, h, r => by
    cases h; cases r
    exact ⟨_, ReadsAll.nil, fun _ => by simp⟩
  | (_, d) :: dk, _, _, h, r => by
    cases h with
    | cons h1 h2 =>
      cases r with
      | cons r1 r2 =>
        obtain ⟨as, q1, n1⟩ := DaF.reads I d _ _ h1 r1
        obtain ⟨bs, q2, n2⟩ := DaF.readsKv I dk _ _ h2 r2
        exact ⟨_, ReadsAll.cons q1 q2, fun hb hm => (List.mem_append.mp hm).elim (n1 hb) (n2 hb)⟩
end
/-- what may be shown -/
structure Shw (d : PyData) : Prop where
  sh : d.showable = true
  dp : d.depth ≤ 20
  sz : d.shown.length ≤ sizeLine
theorem call_reprD (hgd : X.A.guards = some []) (hu : X.A.units + 100 < cLine) : CallR X (.builtin "repr") (fun xs H Q => ∃ b v d, xs = [v] ∧ DaF b X.K H v d ∧ (b = true ∨ d.hasDict = false) ∧ Shw d ∧ Q (.str d.shown) H) := by
  intro pins s σ H xs us Q I r h
  obtain ⟨b, v, d, rfl, hd, hb, hw, q⟩ := h
  obtain ⟨u, rfl, rv⟩ := vals1 r
  cases hd with
  | non =>
    cases rv
    refine PySem.P.repr_of_none ⟨.str _, H, I.tok _, ⟨_, rfl⟩, ?_⟩
    simpa only [PyData.shown] using q
  | bl b =>
    cases rv
    refine PySem.P.repr_of_bool ⟨.str _, H, I.tok _, ⟨_, rfl⟩, ?_⟩
    simpa only [PyData.shown] using q
  | int i =>
    obtain ⟨t, rfl⟩ := rv
    refine PySem.P.repr_of_int (by have := hw.sh; simpa [PyData.showable] using this) ⟨.str _, H, I.tok _, ⟨_, rfl⟩, ?_⟩
    simpa only [PyData.shown] using q
  | str x =>
    obtain ⟨t, rfl⟩ := rv
    refine PySem.P.repr_of_str ⟨.str _, H, I.tok _, ⟨_, rfl⟩, ?_⟩ (by have := hw.sz; simpa only [PyData.shown] using this)
    simpa only [PyData.shown] using q
  | lst h1 h0 h2 =>
    obtain ⟨as, hR, hn⟩ := DaF.reads I _ _ _ (.lst h1 h0 h2) rv
    cases rv
    exact repr_of_reads' hR hw.sh (fun z => hn (hb.resolve_right (by rw [z]; exact Bool.noConfusion))) hgd (by have := hw.dp; omega) (fun _ _ e => e) (fun h' u tk k => ⟨.str _, H, I.kept k, ⟨_, rfl⟩, q⟩) hw.sz
  | tup h1 h2 =>
    obtain ⟨as, hR, hn⟩ := DaF.reads I _ _ _ (.tup h1 h2) rv
    cases rv
    exact repr_of_reads' hR hw.sh (fun z => hn (hb.resolve_right (by rw [z]; exact Bool.noConfusion))) hgd (by have := hw.dp; omega) (fun _ _ e => e) (fun h' u tk k => ⟨.str _, H, I.kept k, ⟨_, rfl⟩, q⟩) hw.sz
  | dic h1 h2 =>
    obtain ⟨as, hR, hn⟩ := DaF.reads I _ _ _ (.dic h1 h2) rv
    cases rv
    exact repr_of_reads' hR hw.sh (fun z => hn (hb.resolve_right (by rw [z]; exact Bool.noConfusion))) hgd (by have := hw.dp; omega) (fun _ _ e => e) (fun h' u tk k => ⟨.str _, H, I.kept k, ⟨_, rfl⟩, q⟩) hw.sz
end
abbrev Da := DaF false
abbrev DaAll := DaAllF false
abbrev DaKv := DaKvF false
abbrev DaS := DaF true
abbrev DaAllS := DaAllF true
theorem Da.lst {K : PySem.W.Frag} {H : Hp} {a : Addr} {xs : List V} {ds : List PyData} (h : SqL K H a xs) (k : DaAll K H xs ds) : Da K H (.ref a) (.list ds) := DaF.lst h Bool.noConfusion k
mutual
theorem DaF.da {b : Bool} {K : PySem.W.Frag} {H : Hp} : ∀ {v : V} {d : PyData}, DaF b K H v d → Da K H v d
  | _, _, .non => DaF.non
  | _, _, .bl c => DaF.bl c
  | _, _, .int i => DaF.int i
  | _, _, .str x => DaF.str x
  | _, _, .lst h _ a => DaF.lst h Bool.noConfusion (DaAllF.da a)
  | _, _, .tup h a => DaF.tup h (DaAllF.da a)
  | _, _, .dic h a => DaF.dic h (DaKvF.da a)
theorem DaAllF.da {b : Bool} {K : PySem.W.Frag} {H : Hp} : ∀ {vs : List V} {ds : List PyData}, DaAllF b K H vs ds → DaAll K H vs ds
  | _, _, .nil => DaAllF.nil
  | _, _, .cons a r => DaAllF.cons (DaF.da a) (DaAllF.da r)
theorem DaKvF.da {b : Bool} {K : PySem.W.Frag} {H : Hp} : ∀ {kvs : List (Key × V)} {ds : List (PyData × PyData)}, DaKvF b K H kvs ds → DaKv K H kvs ds
  | _, _, .nil => DaKvF.nil
  | _, _, .cons a r => DaKvF.cons (DaF.da a) (DaKvF.da r)
end
end KX

namespace KX
open PySem PySem.Spec PyProof.Rows L2
/-! ### the readings, by their heads: one row a reading, for a stepping that looks at the head alone -/
theorem Same.get {H H' : Hp} {a : Addr} {o : HO} (s : Same H H') (h : H a = some o) : H' a = some o := s _ _ h
/-- all but what stands at r is as it was -/
def Off (r : Addr) (H H' : Hp) : Prop := ∀ b o, b ≠ r → H b = some o → H' b = some o
theorem Off.get {r : Addr} {H H' : Hp} {a : Addr} {o : HO} (s : Off r H H') (n : a ≠ r) (h : H a = some o) : H' a = some o := s _ _ n h
theorem Off.refl (r : Addr) (H : Hp) : Off r H H := fun _ _ _ e => e
theorem Off.trans {r : Addr} {H H1 H2 : Hp} (a : Off r H H1) (b : Off r H1 H2) : Off r H H2 := fun c o n e => b c o n (a c o n e)
theorem Off.of_same {r : Addr} {H H' : Hp} (a : Same H H') : Off r H H' := fun c o _ e => a c o e
theorem off_upd {r : Addr} {H : Hp} {o : HO} : Off r H (L2.upd H r o) := fun c u n e => by
  rw [upd_ne n]; exact e
theorem same_new {H : Hp} {p : Addr} {o : HO} (h : H p = none) : Same H (L2.upd H p o) := fun b x e => by
  rw [upd_ne (ne_of_none e h)]; exact e
/-- what is written at an address that was free leaves all as it was -/
theorem Off.new {p : Addr} {H H1 H2 : Hp} (n : H p = none) (a : Same H H1) (b : Off p H1 H2) : Same H H2 := fun c o e => b c o (ne_of_none e n) (a c o e)
theorem Off.thenS {r : Addr} {H H1 H2 : Hp} (b : Same H1 H2) (a : Off r H H1) : Off r H H2 := a.trans (.of_same b)
theorem Off.thenO {r : Addr} {H H1 H2 : Hp} (b : Off r H1 H2) (a : Off r H H1) : Off r H H2 := a.trans b
theorem Off.thenF {r p : Addr} {H H0 H1 H2 : Hp} (b : Off p H1 H2) (n : H0 p = none) (a0 : Off r H H0) (a : Off r H H1) : Off r H H2 := fun c o hc e => b c o (ne_of_none (a0 c o hc e) n) (a c o hc e)
theorem Same.thenS {H H1 H2 : Hp} (b : Same H1 H2) (a : Same H H1) : Same H H2 := a.trans b
theorem Same.thenF {p : Addr} {H H0 H1 H2 : Hp} (b : Off p H1 H2) (n : H0 p = none) (a0 : Same H H0) (a : Same H H1) : Same H H2 := fun c o e => b c o (ne_of_none (a0 c o e) n) (a c o e)
theorem ne_some {H : Hp} {a b : Addr} {o : HO} (h' : H b = none) (h : H a = some o) : a ≠ b := ne_of_none h h'
/-- a new object: what follows, in the rules' form and over a heap that is told by what it holds -/
def NewR (H : Hp) (o : HO) (Q : VK) : Prop := ∀ p, H p = none → Q (.ref p) (upd H p o)
def New (H : Hp) (o : HO) (Q : VK) : Prop := ∀ p H', H p = none → Same H H' → H' p = some o → Q (.ref p) H'
theorem i_new {H : Hp} {o : HO} {Q : VK} (q : ∀ p H', H p = none → Same H H' → H' p = some o → Q (.ref p) H') : NewR H o Q := fun p hp => q p _ hp (same_new hp) upd_same
def PutR (H : Hp) (p : Addr) (o : HO) (R : Hp → Prop) : Prop := R (upd H p o)
theorem i_put {H : Hp} {p : Addr} {o : HO} {R : Hp → Prop} (q : ∀ H', Off p H H' → H' p = some o → R H') : PutR H p o R := q _ off_upd upd_same
def DispR (trs : List (TE × TE)) (σ : L2.St) (H : Hp) (Q : VK) : Prop := ∀ p, H p = none → tPairs trs σ (upd H p (.dK [])) fun ps H2 => H2 p = some (.dK []) ∧ ∃ kvs : List (Key × V), ps = kvs.map (fun kv => (kV kv.1, kv.2)) ∧ kvs.length ≤ 15 ∧ PutR H2 p (.dK (mergeK [] kvs)) (Q (.ref p))
theorem i_dispR {trs : List (TE × TE)} {σ : L2.St} {H : Hp} {Q : VK} (q : ∀ p H1, H p = none → Same H H1 → H1 p = some (.dK []) → tPairs trs σ H1 fun ps H2 => H2 p = some (.dK []) ∧ ∃ kvs : List (Key × V), ps = kvs.map (fun kv => (kV kv.1, kv.2)) ∧ kvs.length ≤ 15 ∧ PutR H2 p (.dK (mergeK [] kvs)) (Q (.ref p))) : DispR trs σ H Q := fun p hp => q p _ hp (same_new hp) upd_same
/-- loops and comprehensions over an iterator J -/
def ForR (J : It) (g : TG) (tb : TS) (D : Ends) (σ : L2.St) (H : Hp) : Prop := ∃ W : Nat → Nat → L2.St → Hp → Prop, (∃ m, W 0 m σ H) ∧ ∀ i m σ H, W i m σ H →
  (J.stop i H ∧ D.nx σ H) ∨ (J.go i H ∧ ∃ N : L2.St → Hp → Prop, (∀ σ' H', N σ' H' → ∃ m', m' < m ∧ W (i + 1) m' σ' H') ∧ ∀ x H', J.yld i H x H' → g x σ H' fun σ2 H2 => tb { D with nx := N, ct := N, bk := D.nx } σ2 H2)
def LcR (J : It) (g : TG) (tt : TT) (te : TE) (vs : List Nat) (σ : L2.St) (H1 : Hp) (Q : VK) : Prop := ∀ D, H1 D = none → ∃ W : Nat → Nat → Hp → Prop, (∃ m, W 0 m (upd H1 D (.lst []))) ∧ ∀ i m H, W i m H →
  (J.stop i H ∧ Q (.ref D) H) ∨ (J.go i H ∧ ∃ Nx : Hp → Prop, (∀ H', Nx H' → ∃ m', m' < m ∧ W (i + 1) m' H') ∧ ∀ x H', J.yld i H x H' → g x (wipe σ vs) H' fun σ2 H2 => wipe σ2 vs = wipe σ vs ∧ tt σ2 H2 fun b H3 =>
    if b = true then te σ2 H3 fun y H4 => ∃ acc, H4 D = some (.lst acc) ∧ acc.length < sizeLine ∧ Nx (upd H4 D (.lst (acc ++ [y]))) else Nx H3)
/-- J walks the items xs while G stands -/
structure Wk (J : It) (xs : List V) (G : Hp → Prop) : Prop where
  go : ∀ i H, G H → i < xs.length → J.go i H
  yl : ∀ i H x H', G H → J.yld i H x H' → i < xs.length → H' = H ∧ xs[i]? = some x
  st : ∀ i H, G H → xs.length ≤ i → J.stop i H
theorem wk_list {K : PySem.W.Frag} {a : Addr} {xs : List V} : Wk (Itl K a) xs fun H => SqL K H a xs where
  go := fun i H g h => ⟨xs, xs[i], g, by simp [h]⟩
  yl := fun i H x H' g y _ => ⟨y.1, y.2 xs g⟩
  st := fun i H g h => ⟨xs, g, h⟩
theorem wk_tup {K : PySem.W.Frag} {a : Addr} {xs : List V} : Wk (Itt K a) xs fun H => SqT K H a xs where
  go := fun i H g h => ⟨xs, xs[i], g, by simp [h]⟩
  yl := fun i H x H' g y _ => ⟨y.1, y.2 xs g⟩
  st := fun i H g h => ⟨xs, g, h⟩
def rangeV (lo : Int) (n : Nat) : List V := (List.range n).map fun i : Nat => V.int (lo + i)
theorem rangeV_len (lo : Int) (n : Nat) : (rangeV lo n).length = n := by simp [rangeV]
theorem rangeV_get {lo : Int} {n i : Nat} (h : i < n) : (rangeV lo n)[i]? = some (V.int (lo + i)) := by simp [rangeV, h]
theorem wk_range {lo : Int} {n : Nat} : Wk (Itr lo n) (rangeV lo n) fun _ => True where
  go := fun i H _ h => by rw [rangeV_len] at h; exact h
  yl := fun i H x H' _ y h => ⟨y.1, by rw [rangeV_len] at h; rw [rangeV_get h, y.2]⟩
  st := fun i H _ h => by rw [rangeV_len] at h; exact h
def signsV (x : Str) : List V := x.cps.toList.map fun c => V.str ⟨#[c]⟩
theorem signsV_len (x : Str) : (signsV x).length = x.cps.size := by simp [signsV]
theorem wk_str {x : Str} : Wk (Its x) (signsV x) fun _ => True where
  go := fun i H _ h => by rw [signsV_len] at h; exact h
  yl := fun i H v H' _ y h => by
    obtain ⟨e, c, hc, hv⟩ := y
    refine ⟨e, ?_⟩
    rw [hv]
    simp [signsV, hc]
  st := fun i H _ h => by rw [signsV_len] at h; exact h
theorem f_wk {J : It} {xs : List V} {G : Hp → Prop} (W : Wk J xs G) {g : TG} {tb : TS} {f b k : L2.St → Hp → Prop} {Q : VK} {σ : L2.St} {H : Hp} (Pv : Nat → L2.St → Hp → Prop) (h0 : Pv 0 σ H) (hG : ∀ i σ H, Pv i σ H → G H)
    (hs : ∀ i x σ H, xs[i]? = some x → Pv i σ H → g x σ H fun σ2 H2 => tb ⟨Pv (i + 1), Q, f, Pv (i + 1)⟩ σ2 H2) (hd : ∀ σ H, Pv xs.length σ H → f σ H) : ForR J g tb ⟨f, Q, b, k⟩ σ H := by
  refine ⟨fun i m σ H => m = xs.length - i ∧ i ≤ xs.length ∧ Pv i σ H, ⟨xs.length, by simp, Nat.zero_le _, h0⟩, ?_⟩
  rintro i m σ H ⟨rfl, hi, p⟩
  by_cases hlt : i < xs.length
  · refine .inr ⟨W.go i H (hG _ _ _ p) hlt, Pv (i + 1), fun σ' H' p' => ⟨xs.length - (i + 1), by omega, rfl, hlt, p'⟩, fun x H' y => ?_⟩
    obtain ⟨e, y2⟩ := W.yl i H x H' (hG _ _ _ p) y hlt
    subst e
    exact hs i x σ _ y2 p
  · have e : i = xs.length := by omega
    subst e
    exact .inl ⟨W.st _ H (hG _ _ _ p) (Nat.le_refl _), hd σ H p⟩
/-- the comprehension's list gets its next item -/
def LcEl (D : Addr) (P1 : List V → Hp → Prop) (y : V) (H4 : Hp) : Prop := ∃ acc, H4 D = some (.lst acc) ∧ acc.length < sizeLine ∧ PutR H4 D (.lst (acc ++ [y])) fun H => ∃ ys, P1 ys H
theorem i_lcEl {D : Addr} {P1 : List V → Hp → Prop} {y : V} {H : Hp} {acc : List V} (h : H D = some (.lst acc)) (z : acc.length < sizeLine) (q : ∀ H', Off D H H' → H' D = some (.lst (acc ++ [y])) → P1 (acc ++ [y]) H') : LcEl D P1 y H :=
  ⟨acc, h, z, _, q _ off_upd upd_same⟩
theorem l_wk {J : It} {xs : List V} {G : Hp → Prop} (W : Wk J xs G) {g : TG} {tt : TT} {te : TE} {vs : List Nat} {Q : VK} {σ : L2.St} {H1 : Hp}
    (q : ∀ D H0, H1 D = none → Same H1 H0 → H0 D = some (.lst []) → ∃ Pv : Nat → List V → Hp → Prop, Pv 0 [] H0 ∧ (∀ i ys H, Pv i ys H → G H) ∧
      (∀ i ys x H, xs[i]? = some x → Pv i ys H → g x (wipe σ vs) H fun σ2 H2 => wipe σ2 vs = wipe σ vs ∧ tt σ2 H2 fun b H3 =>
        if b = true then te σ2 H3 fun y H4 => LcEl D (Pv (i + 1)) y H4 else ∃ ys, Pv (i + 1) ys H3) ∧
      (∀ ys H, Pv xs.length ys H → Q (.ref D) H)) : LcR J g tt te vs σ H1 Q := by
  intro D hD
  obtain ⟨Pv, h0, hG, hs, hd⟩ := q D _ hD (same_new hD) upd_same
  refine ⟨fun i m H => m = xs.length - i ∧ i ≤ xs.length ∧ ∃ ys, Pv i ys H, ⟨xs.length, by simp, Nat.zero_le _, _, h0⟩, ?_⟩
  rintro i m H ⟨rfl, hi, ys, p⟩
  by_cases hlt : i < xs.length
  · refine .inr ⟨W.go i H (hG _ _ _ p) hlt, fun H => ∃ ys, Pv (i + 1) ys H, fun H' p' => ⟨xs.length - (i + 1), by omega, rfl, hlt, p'⟩, fun x H' y => ?_⟩
    obtain ⟨e, y2⟩ := W.yl i H x H' (hG _ _ _ p) y hlt
    subst e
    exact hs i ys x _ y2 p
  · have e : i = xs.length := by omega
    subst e
    exact .inl ⟨W.st _ H (hG _ _ _ p) (Nat.le_refl _), hd ys H p⟩
/-- a comprehension whose test and element change nothing of what was tracked: what it lists -/
theorem l_filter {J : It} {xs : List V} {G : Hp → Prop} (W : Wk J xs G) {g : TG} {tt : TT} {te : TE} {vs : List Nat} {Q : VK} {σ : L2.St} {H1 : Hp} (p : V → Bool) (F : V → V) (hlen : xs.length < sizeLine) (hG : ∀ H', Same H1 H' → G H')
    (hs : ∀ (i : Nat) x H' (R : VK) (N : Hp → Prop), xs[i]? = some x → Same H1 H' → (p x = true → ∀ H'', Same H' H'' → R (F x) H'') → (p x = false → ∀ H'', Same H' H'' → N H'') →
      g x (wipe σ vs) H' fun σ2 H2 => wipe σ2 vs = wipe σ vs ∧ tt σ2 H2 fun b H3 => if b = true then te σ2 H3 R else N H3)
    (q : ∀ D H', H1 D = none → Same H1 H' → H' D = some (.lst ((xs.filter p).map F)) → Q (.ref D) H') : LcR J g tt te vs σ H1 Q := by
  refine l_wk W fun D H0 n0 s0 e0 => ⟨fun i ys H => Same H1 H ∧ H D = some (.lst ys) ∧ ys = ((xs.take i).filter p).map F ∧ ys.length ≤ i, ⟨s0, e0, rfl, Nat.le_refl _⟩, fun i ys H h => hG _ h.1, fun i ys x H hx h => ?_, fun ys H h => ?_⟩
  · obtain ⟨s1, e1, hy, hl⟩ := h
    have hi : i < xs.length := by
      have := List.getElem?_eq_some_iff.mp hx
      exact this.1
    have ht : xs.take (i + 1) = xs.take i ++ [x] := by rw [List.take_add_one, hx]; rfl
    refine hs i x H (fun y H4 => LcEl D (fun ys H => Same H1 H ∧ H D = some (.lst ys) ∧ ys = ((xs.take (i + 1)).filter p).map F ∧ ys.length ≤ i + 1) y H4) (fun H3 => ∃ ys, Same H1 H3 ∧ H3 D = some (.lst ys) ∧ ys = ((xs.take (i + 1)).filter p).map F ∧ ys.length ≤ i + 1) hx s1 (fun hp H'' s2 => ?_) fun hp H'' s2 => ?_
    · refine i_lcEl (s2 _ _ e1) (by omega) fun H5 o5 e5 => ⟨Off.new n0 (s1.trans s2) o5, e5, ?_, by simp; omega⟩
      rw [ht, List.filter_append, List.map_append, hy]
      simp [hp]
    · refine ⟨ys, s1.trans s2, s2 _ _ e1, ?_, by omega⟩
      rw [ht, List.filter_append, List.map_append, hy]
      simp [hp]
  · obtain ⟨s1, e1, hy, hl⟩ := h
    rw [List.take_length] at hy
    rw [hy] at e1
    exact q D H n0 s1 e1
theorem l_map {J : It} {xs : List V} {G : Hp → Prop} (W : Wk J xs G) {g : TG} {te : TE} {vs : List Nat} {Q : VK} {σ : L2.St} {H1 : Hp} (F : V → V) (hlen : xs.length < sizeLine) (hG : ∀ H', Same H1 H' → G H')
    (hs : ∀ (i : Nat) x H' (R : VK), xs[i]? = some x → Same H1 H' → (∀ H'', Same H' H'' → R (F x) H'') → g x (wipe σ vs) H' fun σ2 H2 => wipe σ2 vs = wipe σ vs ∧ te σ2 H2 R)
    (q : ∀ D H', H1 D = none → Same H1 H' → H' D = some (.lst (xs.map F)) → Q (.ref D) H') : LcR J g tYes te vs σ H1 Q := by
  refine l_filter W (fun _ => true) F hlen hG (fun i x H' R N hx s1 hR _ => ?_) (fun D H' n s e => q D H' n s (by rw [e, List.filter_eq_self.mpr (by simp)]))
  have e : (fun (σ2 : L2.St) H2 => wipe σ2 vs = wipe σ vs ∧ tYes σ2 H2 fun b H3 => if b = true then te σ2 H3 R else N H3) = fun σ2 H2 => wipe σ2 vs = wipe σ vs ∧ te σ2 H2 R := by
    funext σ2 H2
    show (_ ∧ if true = true then te σ2 H2 R else N H2) = _
    rw [if_pos rfl]
  rw [e]
  exact hs i x H' R hx s1 (hR rfl)
section
variable {K : PySem.W.Frag} {σ σ' : L2.St} {H : Hp} {Q : VK} {D : Ends} {a b c : TE}
theorem i_var {i : Nat} {v : V} (h : σ[i]? = some (some v)) (q : Q v H) : tVar i σ H Q := ⟨v, h, q⟩
theorem i_c {v : V} (q : Q v H) : tC v σ H Q := q
theorem i_op {r : R2} (q : a σ H fun x H1 => b σ H1 fun y H2 => r x y H2 Q) : tOp r a b σ H Q := q
theorem i_un {r : V → Hp → VK → Prop} (q : a σ H fun x H1 => r x H1 Q) : tUn r a σ H Q := q
theorem i_rI {C : Int → Int → Prop} {g : Int → Int → V} {i j : Int} (c : C i j) (q : Q (g i j) H) : rI C g (.int i) (.int j) H Q := ⟨i, j, rfl, rfl, c, q⟩
theorem i_rI0 {g : Int → Int → V} {i j : Int} (q : Q (g i j) H) : rI0 g (.int i) (.int j) H Q := ⟨i, j, rfl, rfl, q⟩
theorem i_rU {g : Int → V} {i : Int} (q : Q (g i) H) : rU g (.int i) H Q := ⟨i, rfl, q⟩
theorem i_rEq {x y : V} (h : scal x y = true) (q : Q (.bl (decide (x = y))) H) : rEq x y H Q := ⟨h, q⟩
theorem i_rNe {x y : V} (h : scal x y = true) (q : Q (.bl (!decide (x = y))) H) : rNe x y H Q := ⟨h, q⟩
theorem i_rIxL {p : Addr} {xs : List V} {i : Int} {v : V} (h : SqL K H p xs) (e : atI xs i = some v) (q : Q v H) : rIxL K (.ref p) (.int i) H Q := ⟨p, xs, i, v, rfl, rfl, h, e, q⟩
theorem i_rIxT {p : Addr} {xs : List V} {i : Int} {v : V} (h : SqT K H p xs) (e : atI xs i = some v) (q : Q v H) : rIxT K (.ref p) (.int i) H Q := ⟨p, xs, i, v, rfl, rfl, h, e, q⟩
theorem i_rIxS {z : Str} {i : Int} {c : Nat} (h : z.length ≤ sizeLine) (e : atI z.cps.toList i = some c) (q : Q (.str ⟨#[c]⟩) H) : rIxS (.str z) (.int i) H Q := ⟨z, i, c, rfl, rfl, h, e, q⟩
theorem i_rSlS {z : Str} {lo hi : Option Int} (h : z.length ≤ sizeLine) (q : Q (.str (cutS z lo hi)) H) : rSlS (.str z) lo hi H Q := ⟨z, rfl, h, q⟩
theorem i_rSlL {p : Addr} {xs : List V} {lo hi : Option Int} (h : SqL K H p xs) (q : NewR H (.lst (cutV xs lo hi)) Q) : rSlL K (.ref p) lo hi H Q := ⟨p, xs, rfl, h, q⟩
theorem i_noPart {R : Option Int → Hp → Prop} (q : R none H) : tNoPart σ H R := q
theorem i_part {R : Option Int → Hp → Prop} (q : a σ H fun x H1 => ∃ i, x = .int i ∧ R (some i) H1) : tPart a σ H R := q
theorem i_sl {r : V → Option Int → Option Int → Hp → VK → Prop} {tl th : TO} (q : a σ H fun x H1 => tl σ H1 fun l H2 => th σ H2 fun u H3 => r x l u H3 Q) : tSl r a tl th σ H Q := q
theorem i_test {R : Bool → Hp → Prop} (q : a σ H fun x H1 => ∃ k, x = .bl k ∧ R k H1) : tTest a σ H R := q
theorem i_tB {R : Bool → Hp → Prop} (q : a σ H fun x H1 => ∃ k, x = .bl k ∧ R k H1) : tB a σ H R := q
theorem i_exbl {R : Bool → Hp → Prop} {k : Bool} (q : R k H) : ∃ k', V.bl k = .bl k' ∧ R k' H := ⟨k, rfl, q⟩
theorem i_exint {R : Int → Prop} {k : Int} (q : R k) : ∃ k', V.int k = .int k' ∧ R k' := ⟨k, rfl, q⟩
theorem i_and {t u : TT} {R : Bool → Hp → Prop} (q : t σ H fun c H1 => if c = true then u σ H1 R else R false H1) : tAnd t u σ H R := q
theorem i_or {t u : TT} {R : Bool → Hp → Prop} (q : t σ H fun c H1 => if c = true then R true H1 else u σ H1 R) : tOr t u σ H R := q
theorem i_not {t : TT} {R : Bool → Hp → Prop} (q : t σ H fun c H1 => R (!c) H1) : tNot t σ H R := q
theorem i_andV (q : a σ H fun x H1 => ∃ c, x = .bl c ∧ if c = true then b σ H1 Q else Q (.bl false) H1) : tAndV a b σ H Q := q
theorem i_orV (q : a σ H fun x H1 => ∃ c, x = .bl c ∧ if c = true then Q (.bl true) H1 else b σ H1 Q) : tOrV a b σ H Q := q
theorem i_notV (q : a σ H fun x H1 => ∃ c, x = .bl c ∧ Q (.bl (!c)) H1) : tNotV a σ H Q := q
theorem i_if {t : TT} (q : t σ H fun c H1 => if c = true then a σ H1 Q else b σ H1 Q) : tIf t a b σ H Q := q
theorem i_isN {x : V} (q : Q (.bl (decide (x = .non))) H) : (V.non = V.non ∧ Q (.bl (decide (x = .non))) H) := ⟨rfl, q⟩
theorem i_chain {r r' : R2} (q : a σ H fun x H1 => b σ H1 fun y H2 => r x y H2 fun z H3 => ∃ k, z = .bl k ∧ (if k = true then c σ H3 fun w' H4 => r' y w' H4 Q else Q (.bl false) H3)) : tChain r r' a b c σ H Q := q
theorem i_next {f g k : L2.St → Hp → Prop} (q : f σ H) : tNext ⟨f, Q, g, k⟩ σ H := q
theorem i_seq {t u : TS} {f g k : L2.St → Hp → Prop} (q : t ⟨u ⟨f, Q, g, k⟩, Q, g, k⟩ σ H) : tSeq t u ⟨f, Q, g, k⟩ σ H := q
theorem i_drop {f g k : L2.St → Hp → Prop} (q : a σ H fun _ H1 => f σ H1) : tDrop a ⟨f, Q, g, k⟩ σ H := q
theorem i_ret {f g k : L2.St → Hp → Prop} (q : a σ H Q) : tRet a ⟨f, Q, g, k⟩ σ H := q
theorem i_retN {f g k : L2.St → Hp → Prop} (q : Q .non H) : tRetN ⟨f, Q, g, k⟩ σ H := q
theorem i_ifS {c : TT} {t u : TS} (q : c σ H fun b H1 => if b = true then t D σ H1 else u D σ H1) : tIfS c t u D σ H := q
theorem i_asg {g : TG} {f g1 k : L2.St → Hp → Prop} (q : a σ H fun x H1 => g x σ H1 f) : tAsg a g ⟨f, Q, g1, k⟩ σ H := q
theorem i_par {i j : Nat} {t : TA} {f g1 k : L2.St → Hp → Prop} (q : t σ H fun vs H1 => ∃ v w, vs = [v, w] ∧ f ((σ.set i (some v)).set j (some w)) H1) : tPar i j t ⟨f, Q, g1, k⟩ σ H := q
theorem i_ex2 {R : V → V → Prop} {v w : V} (q : R v w) : ∃ v' w', [v, w] = [v', w'] ∧ R v' w' := ⟨v, w, rfl, q⟩
theorem i_aug {i : Nat} {x : V} {ti : TIp} {f g1 k : L2.St → Hp → Prop} (h : σ[i]? = some (some x)) (q : a σ H fun y H1 => ti x y H1 fun z H2 => f (σ.set i (some z)) H2) : tAug i a ti ⟨f, Q, g1, k⟩ σ H := ⟨x, h, q⟩
theorem i_gName {i : Nat} {v : V} {R : L2.St → Hp → Prop} (h : σ.set i (some v) = σ') (q : R σ' H) : gName i v σ H R := by
  subst h; exact q
theorem i_gNil {R : L2.St → Hp → Prop} (q : R σ H) : gNil [] σ H R := ⟨rfl, q⟩
theorem i_gCons {v : V} {r : List V} {g : TG} {u : TGs} {R : L2.St → Hp → Prop} (q : g v σ H fun s h => u r s h R) : gCons g u (v :: r) σ H R := ⟨v, r, rfl, q⟩
theorem i_gTup {p : Addr} {xs : List V} {n : Nat} {t : TGs} {R : L2.St → Hp → Prop} (h : SqT K H p xs) (e : xs.length = n) (q : t xs σ H R) : gTup K n t (.ref p) σ H R := ⟨p, xs, rfl, h, e, q⟩
theorem i_gSub {v : V} {t : TSet} {R : L2.St → Hp → Prop} (q : a σ H fun o H1 => b σ H1 fun i H2 => t o i v H2 fun H3 => R σ H3) : gSub a b t v σ H R := q
theorem i_rSetL {p : Addr} {xs : List V} {k : Int} {j : Nat} {v : V} {R : Hp → Prop} (h : H p = some (.lst xs)) (e : ixN xs.length k = some j) (q : PutR H p (.lst (xs.set j v)) R) : rSetL (.ref p) (.int k) v H R := ⟨p, xs, k, j, rfl, rfl, h, e, q⟩
theorem i_nil {R : List V → Hp → Prop} (q : R [] H) : tNil σ H R := q
theorem i_cons {t : TA} {R : List V → Hp → Prop} (q : a σ H fun x H1 => t σ H1 fun xs H2 => R (x :: xs) H2) : tCons a t σ H R := q
theorem i_tup {t : TA} (q : t σ H fun xs H1 => xs.length ≤ sizeLine ∧ NewR H1 (.tup xs) Q) : tTup t σ H Q := q
theorem i_lst {t : TA} (q : t σ H fun xs H1 => xs.length ≤ sizeLine ∧ NewR H1 (.lst xs) Q) : tLst t σ H Q := q
theorem i_newDK (q : NewR H (.dK []) Q) : tDNewK σ H Q := q
theorem i_disp {trs : List (TE × TE)} (q : DispR trs σ H Q) : tDisp trs σ H Q := q
theorem i_pairs0 {R : List (V × V) → Hp → Prop} (q : R [] H) : tPairs [] σ H R := q
theorem i_pairs1 {r : List (TE × TE)} {R : List (V × V) → Hp → Prop} (q : a σ H fun x H1 => b σ H1 fun y H2 => tPairs r σ H2 fun ps H3 => R ((x, y) :: ps) H3) : tPairs ((a, b) :: r) σ H R := q
theorem i_call {sp : Sp} {dvs : List V} {E : XK} {t : TA} (q : t σ H fun vs H1 => sp (vs ++ dvs) H1 Q E) : tCall sp dvs E t σ H Q := q
theorem i_cb {r : List V → Hp → VK → Prop} {t : TA} (q : t σ H fun vs H1 => r vs H1 Q) : tCB r t σ H Q := q
theorem i_bm {T : String} {r : V → List V → Hp → VK → Prop} {t : TA} (q : a σ H fun x H1 => tyV K T x H1 ∧ t σ H1 fun xs H2 => r x xs H2 Q) : tBM K T r a t σ H Q := q
theorem i_m1 {r : V → List V → Hp → VK → Prop} (q : a σ H fun x H1 => (∃ a, x = .str a) ∧ b σ H1 fun y H2 => r x [y] H2 Q) : tM1 r a b σ H Q := q
theorem i_m0 {r : V → List V → Hp → VK → Prop} (q : a σ H fun x H1 => (∃ a, x = .str a) ∧ r x [] H1 Q) : tM0 r a σ H Q := q
theorem i_rAppend {l : Addr} {xs : List V} {y : V} (h : H l = some (.lst xs)) (z : xs.length < sizeLine) (q : PutR H l (.lst (xs ++ [y])) (Q .non)) : rAppend (.ref l) [y] H Q := ⟨l, xs, y, rfl, rfl, h, z, q⟩
theorem i_rAll {p : Addr} {bs : List Bool} (h : SqL K H p (bs.map V.bl)) (q : Q (.bl (bs.all id)) H) : rAll K [.ref p] H Q := ⟨p, bs, rfl, h, q⟩
theorem i_rAny {p : Addr} {bs : List Bool} (h : SqL K H p (bs.map V.bl)) (q : Q (.bl (bs.any id)) H) : rAny K [.ref p] H Q := ⟨p, bs, rfl, h, q⟩
theorem i_rng1 {t : TA} {R : It → Hp → Prop} (q : t σ H fun vs H1 => ∃ j : Int, vs = [.int j] ∧ -(2 ^ 62) ≤ j ∧ j < 2 ^ 62 ∧ R (Itr 0 j.toNat) H1) : iRng1 t σ H R := q
theorem i_exrng {R : It → Hp → Prop} {j : Int} (h1 : -(2 ^ 62) ≤ j) (h2 : j < 2 ^ 62) (q : R (Itr 0 j.toNat) H) : ∃ j' : Int, [V.int j] = [.int j'] ∧ -(2 ^ 62) ≤ j' ∧ j' < 2 ^ 62 ∧ R (Itr 0 j'.toNat) H := ⟨j, rfl, h1, h2, q⟩
theorem i_iList {R : It → Hp → Prop} (q : a σ H fun x H1 => ∃ p, x = .ref p ∧ (∃ xs, SqL K H1 p xs) ∧ R (Itl K p) H1) : iList K a σ H R := q
theorem i_exl {R : It → Hp → Prop} {p : Addr} {xs : List V} (h : SqL K H p xs) (q : R (Itl K p) H) : ∃ p', V.ref p = .ref p' ∧ (∃ xs, SqL K H p' xs) ∧ R (Itl K p') H := ⟨p, rfl, ⟨xs, h⟩, q⟩
theorem i_iStr {R : It → Hp → Prop} (q : a σ H fun v H1 => ∃ x, v = .str x ∧ R (Its x) H1) : iStr a σ H R := q
theorem i_exs {R : Str → Prop} {x : Str} (q : R x) : ∃ x', V.str x = .str x' ∧ R x' := ⟨x, rfl, q⟩
theorem i_for {wi : TI} {g : TG} {tb : TS} (q : wi σ H fun J H1 => ForR J g tb D σ H1) : tFor wi g tb D σ H := q
theorem i_lc {wi : TI} {g : TG} {tt : TT} {te : TE} {vs : List Nat} (q : wi σ H fun J H1 => LcR J g tt te vs σ H1 Q) : tLc wi g tt te vs σ H Q := q
theorem i_yes {R : Bool → Hp → Prop} (q : R true H) : tYes σ H R := q
theorem i_ite {c : Bool} {A B : Prop} (h1 : c = true → A) (h2 : c = false → B) : if c = true then A else B := by
  cases c with
  | true => rw [if_pos rfl]; exact h1 rfl
  | false => rw [if_neg Bool.false_ne_true]; exact h2 rfl
theorem i_iteT {A B : Prop} (h : A) : if true = true then A else B := by rw [if_pos rfl]; exact h
theorem i_iteF {A B : Prop} (h : B) : if false = true then A else B := by rw [if_neg Bool.false_ne_true]; exact h
/-- divmod, over a heap that is told by what it holds -/
def rDivmod : List V → Hp → VK → Prop := fun xs H Q => ∃ i j, xs = [.int i, .int j] ∧ CDivP i j ∧ NewR H (.tup [.int (i / j), .int (i % j)]) Q
theorem call_divmodN {X : Cx} : CallR X (.builtin "divmod") rDivmod := fun pins s σ H xs us Q I r ⟨i, j, e, c, q⟩ => call_divmodW pins s σ H xs us Q I r ⟨i, j, e, c, q⟩
theorem i_divmod {i j : Int} (c : CDivP i j) (q : NewR H (.tup [.int (i / j), .int (i % j)]) Q) : rDivmod [.int i, .int j] H Q := ⟨i, j, rfl, c, q⟩
theorem i_rCat {l b : Addr} {xs zs : List V} (h : H l = some (.lst xs)) (k : H b = some (.lst zs)) (z : xs.length + zs.length ≤ sizeLine) (q : NewR H (.lst (xs ++ zs)) Q) : rCat (.ref l) (.ref b) H Q := ⟨l, b, xs, zs, rfl, rfl, h, k, z, q⟩
def rCatS : R2 := fun x y H Q => ∃ i j, x = .str i ∧ y = .str j ∧ i.length + j.length ≤ sizeLine ∧ Q (.str (i ++ j)) H
theorem op_catS {X : Cx} : OpR X (binaryOp .Add) rCatS := op_add_str
theorem i_rCatS {i j : Str} (h : i.length + j.length ≤ sizeLine) (q : Q (.str (i ++ j)) H) : rCatS (.str i) (.str j) H Q := ⟨i, j, rfl, rfl, h, q⟩
def rJoin (K : PySem.W.Frag) : V → List V → Hp → VK → Prop := fun x xs H Q => ∃ a p, ∃ ys : List Str, x = .str a ∧ xs = [.ref p] ∧ (SqL K H p (ys.map V.str) ∨ SqT K H p (ys.map V.str)) ∧ (ys.map (·.length)).sum + ys.length * a.length ≤ 16777216 ∧ Q (.str (Txt.join a ys)) H
theorem pe_joinN {X : Cx} {o e : Expr} {to te : TE} {apos pos : Pos} (ho : PE X o to) (he : PE X e te) (hs : starEach [e] X.env = [(false, eval e X.env)] := by rfl) (hbase : attributeBase o "join" X.env (eval o X.env) = eval o X.env := by rfl) (hline : (apos.endLine == pos.line) = true := by rfl) :
    PE X (.Call (.Attribute o "join" apos) [e] [] pos) (tM1 (rJoin X.K) to te) := pe_join ho he hs hbase hline
theorem i_join {a : Str} {p : Addr} {ys : List Str} (h : SqL K H p (ys.map V.str)) (z : (ys.map (·.length)).sum + ys.length * a.length ≤ 16777216) (q : Q (.str (Txt.join a ys)) H) : rJoin K (.str a) [.ref p] H Q := ⟨a, p, ys, rfl, rfl, .inl h, z, q⟩
theorem i_exstr {x : Str} {R : Prop} (q : R) : (∃ a, V.str x = .str a) ∧ R := ⟨⟨x, rfl⟩, q⟩
end
end KX

namespace KX
open PySem PySem.Spec PyProof.Rows L2
/-! ### texts -/
def okS (x : Str) (n : Nat) : Prop := x.length ≤ n ∧ ∀ c ∈ x.cps.toList, c < 1114112
theorem okS.mono {x : Str} {n m : Nat} (h : okS x n) (k : n ≤ m) : okS x m := ⟨Nat.le_trans h.1 k, h.2⟩
theorem okS.app {x y : Str} {n m : Nat} (h : okS x n) (k : okS y m) : okS (x ++ y) (n + m) := by
  refine ⟨?_, fun c hc => ?_⟩
  · rw [Str.length_append]; have := h.1; have := k.1; omega
  · have e : (x ++ y).cps = x.cps ++ y.cps := rfl
    rw [e, Array.toList_append] at hc
    rcases List.mem_append.mp hc with hc | hc
    · exact h.2 c hc
    · exact k.2 c hc
theorem okS.cut {x : Str} {n : Nat} (h : okS x n) (lo hi : Option Int) : okS (cutS x lo hi) n := by
  refine ⟨?_, fun c hc => ?_⟩
  · have e : (cutS x lo hi).length = (cutS x lo hi).cps.toList.length := rfl
    have l : x.length = x.cps.toList.length := rfl
    rw [e]; unfold cutS
    show ((x.cps.toList.drop _).take _).length ≤ n
    rw [List.length_take, List.length_drop]
    have := h.1; omega
  · unfold cutS at hc
    exact h.2 c (List.mem_of_mem_drop (List.mem_of_mem_take hc))
theorem joinL_nil_len {b : Nat} : ∀ ps : List (List Nat), (∀ p ∈ ps, p.length ≤ b ∧ ∀ c ∈ p, c < 1114112) → (TL.joinL [] ps).length ≤ ps.length * b ∧ ∀ c ∈ TL.joinL [] ps, c < 1114112
  | [], _ => ⟨by simp [TL.joinL], by simp [TL.joinL]⟩
  | [p], h => by
    have := h p (by simp)
    simp only [TL.joinL, List.length_cons, List.length_nil]
    exact ⟨by omega, this.2⟩
  | p :: q :: r, h => by
    have h1 := h p (by simp)
    have ih := joinL_nil_len (q :: r) (fun x hx => h x (List.mem_cons_of_mem _ hx))
    simp only [TL.joinL, List.append_nil, List.nil_append, List.length_append, List.length_cons] at ih ⊢
    refine ⟨?_, fun c hc => ?_⟩
    · have e : (r.length + 1 + 1) * b = (r.length + 1) * b + b := by rw [Nat.add_mul (r.length + 1) 1 b, Nat.one_mul]
      omega
    · rcases List.mem_append.mp hc with hc | hc
      · exact h1.2 c hc
      · exact ih.2 c hc
theorem okS.joined {ys : List Str} {b : Nat} (h : ∀ y ∈ ys, okS y b) {s : Str} (hs : s.cps = #[]) : okS (Txt.join s ys) (ys.length * b) := by
  rw [TL.join_eq]
  have e := TL.tl_join s ys
  have e2 : TL.tl s = [] := by unfold TL.tl; rw [hs]
  rw [e2] at e
  have k := joinL_nil_len (b := b) (ys.map TL.tl) (fun p hp => by
    obtain ⟨y, hy, rfl⟩ := List.mem_map.mp hp
    exact ⟨(h y hy).1, (h y hy).2⟩)
  rw [← e, List.length_map] at k
  exact k
theorem okS.one {c : Nat} (h : c < 1114112) : okS ⟨#[c]⟩ 1 := ⟨Nat.le_refl _, fun d hd => by
  have : d = c := by simpa using hd
  rw [this]; exact h⟩
theorem okS.atI {x : Str} {n : Nat} (h : okS x n) {i : Int} {c : Nat} (e : atI x.cps.toList i = some c) : okS ⟨#[c]⟩ 1 := by
  unfold L2.atI at e
  cases q : ixN x.cps.toList.length i with
  | none => rw [q] at e; cases e
  | some j =>
    rw [q] at e
    exact okS.one (h.2 c (List.mem_of_getElem? e))
theorem okS.line {x : Str} {n : Nat} (h : okS x n) (k : n ≤ 16777216) : x.length ≤ sizeLine := by rw [sizeLine_eq]; exact Nat.le_trans h.1 k
/-! ### what is shown, bounded -/
theorem shown_str_le {x : Str} {n : Nat} (h : okS x n) : (PyData.str x).shown.length ≤ 10 * n + 2 := by
  simp only [PyData.shown]
  have := StrLaws.reprText_len x (fun c hc => Nat.lt_of_lt_of_le (h.2 c hc) (by decide))
  have := h.1; omega
theorem Shw.of_str {x : Str} {n : Nat} (h : okS x n) (k : n ≤ 100000) : Shw (.str x) := ⟨rfl, by simp [PyData.depth], by have := shown_str_le h; rw [sizeLine_eq]; omega⟩
theorem log2_lt_1920 {i : Int} {k : Nat} (h : i.natAbs < 2 ^ k) (hk : k ≤ 1920) (h0 : 0 < k) : i.natAbs.log2 < 1920 := by
  have := PySem.Flt.log2_lt_of h0 h
  omega
/-! ### kinds -/
def tyN : PyData → String
  | .none => "NoneType" | .bool _ => "bool" | .int _ => "int" | .str _ => "str" | .list _ => "list" | .tuple _ => "tuple" | .dict _ => "dict"
theorem DaF.ty {b : Bool} {K : PySem.W.Frag} {H : Hp} {v : V} {d : PyData} (h : DaF b K H v d) : TyX K H v (.type (tyN d)) := by
  cases h with
  | non => exact .base .non
  | bl b => exact .base (.bl b)
  | int i => exact .base (.int i)
  | str x => exact .base (.str x)
  | lst h _ _ =>
    rcases h with (h | ⟨o, h⟩) | ⟨o, its, n, h, hc, _⟩
    · exact .base (.lst h)
    · exact .base (.frz h)
    · exact .kList h hc
  | tup h _ =>
    rcases h with (h | ⟨o, h⟩) | ⟨o, its, n, h, hc, _⟩
    · exact .base (.tup h)
    · exact .fTuple h
    · exact .kTuple h hc
  | dic h _ =>
    rcases h with h | ⟨o, h⟩
    · exact .base (.dK h)
    · exact .fDict h
def isi (d : PyData) (T : String) : Bool := tyN d == T || (tyN d == "bool" && T == "int")
theorem kit_isi : ∀ (d : PyData) (T : String), T ∈ ["int", "bool", "str", "tuple", "list", "dict"] → kitB (tyN d) T = some (isi d T) := by
  intro d T h
  have all : ∀ a ∈ ["NoneType", "bool", "int", "str", "list", "tuple", "dict"], ∀ T ∈ ["int", "bool", "str", "tuple", "list", "dict"], kitB a T = some (a == T || (a == "bool" && T == "int")) := by decide +kernel
  exact all (tyN d) (by cases d <;> simp [tyN]) T h
def rIsiD (K : PySem.W.Frag) : List V → Hp → VK → Prop := fun xs H Q => ∃ b v d T, xs = [v, .ty T] ∧ DaF b K H v d ∧ T ∈ ["int", "bool", "str", "tuple", "list", "dict"] ∧ Q (.bl (isi d T)) H
theorem call_isiD {X : Cx} : CallR X (.builtin "isinstance") (rIsiD X.K) := by
  intro pins s σ H xs us Q I r h
  obtain ⟨_, v, d, T, rfl, hd, hT, q⟩ := h
  exact call_isi pins s σ H _ us Q I r ⟨v, .ty T, _, _, _, rfl, .ty T, hd.ty, kit_ty (kit_isi d T hT), q⟩
theorem i_isi {b : Bool} {K : PySem.W.Frag} {H : Hp} {Q : VK} {v : V} {d : PyData} {T : String} (h : DaF b K H v d) (hT : T ∈ ["int", "bool", "str", "tuple", "list", "dict"]) (q : Q (.bl (isi d T)) H) : rIsiD K [v, .ty T] H Q := ⟨b, v, d, T, rfl, h, hT, q⟩
/-! ### len -/
def rLen (K : PySem.W.Frag) : List V → Hp → VK → Prop := fun xs H Q => ∃ x n, xs = [x] ∧ LenV K x H n ∧ Q (.int n) H
theorem call_lenN {X : Cx} : CallR X (.builtin "len") (rLen X.K) := call_len
theorem i_lenS {K : PySem.W.Frag} {H : Hp} {Q : VK} {x : Str} (h : x.length ≤ sizeLine) (q : Q (.int x.length) H) : rLen K [.str x] H Q := ⟨_, _, rfl, ⟨h, rfl⟩, q⟩
theorem i_lenL {K : PySem.W.Frag} {H : Hp} {Q : VK} {p : Addr} {xs : List V} (h : SqL K H p xs) (q : Q (.int xs.length) H) : rLen K [.ref p] H Q := ⟨_, _, rfl, .inl ⟨_, h, rfl⟩, q⟩
theorem i_lenT {K : PySem.W.Frag} {H : Hp} {Q : VK} {p : Addr} {xs : List V} (h : SqT K H p xs) (q : Q (.int xs.length) H) : rLen K [.ref p] H Q := ⟨_, _, rfl, .inr ⟨_, h, rfl⟩, q⟩
/-! ### repr -/
def rRepr (K : PySem.W.Frag) : List V → Hp → VK → Prop := fun xs H Q => ∃ b v d, xs = [v] ∧ DaF b K H v d ∧ (b = true ∨ d.hasDict = false) ∧ Shw d ∧ Q (.str d.shown) H
theorem call_reprN {X : Cx} (hr : Rg 1 X.A) : CallR X (.builtin "repr") (rRepr X.K) := call_reprD hr.gd (by have := hr.room.un; omega)
theorem i_repr {b : Bool} {K : PySem.W.Frag} {H : Hp} {Q : VK} {v : V} {d : PyData} (h : DaF b K H v d) (n : b = true ∨ d.hasDict = false) (w : Shw d) (q : Q (.str d.shown) H) : rRepr K [v] H Q := ⟨b, v, d, rfl, h, n, w, q⟩
/-! ### min, max, abs -/
theorem i_abs {H : Hp} {Q : VK} {i : Int} (q : Q (.int (if i < 0 then -i else i)) H) : ∃ j, [V.int i] = [.int j] ∧ Q (.int (if j < 0 then -j else j)) H := ⟨i, rfl, q⟩
theorem i_max {H : Hp} {Q : VK} {i j : Int} (q : Q (.int (if j > i then j else i)) H) : ∃ a b, [V.int i, V.int j] = [.int a, .int b] ∧ Q (.int (if b > a then b else a)) H := ⟨i, j, rfl, q⟩
theorem i_min {H : Hp} {Q : VK} {i j : Int} (q : Q (.int (if j < i then j else i)) H) : ∃ a b, [V.int i, V.int j] = [.int a, .int b] ∧ Q (.int (if b < a then b else a)) H := ⟨i, j, rfl, q⟩
/-! ### deep == -/
mutual
theorem DaF.dp {b : Bool} {K : PySem.W.Frag} {H : Hp} : ∀ {v : V} {d : PyData}, DaF b K H v d → d.hasDict = false → Dp K H v d
  | _, _, .non, _ => .non
  | _, _, .bl b, _ => .bl b
  | _, _, .int i, _ => .int i
  | _, _, .str x, _ => .str x
  | _, _, .lst h _ a, k => .lst h (DaAllF.dp a (by simpa [PyData.hasDict] using k))
  | _, _, .tup h a, k => .tup h (DaAllF.dp a (by simpa [PyData.hasDict] using k))
  | _, _, .dic h a, k => by simp [PyData.hasDict] at k
theorem DaAllF.dp {b : Bool} {K : PySem.W.Frag} {H : Hp} : ∀ {vs : List V} {ds : List PyData}, DaAllF b K H vs ds → PyData.hasDictAll ds = false → DpAll K H vs ds
  | _, _, .nil, _ => .nil
  | _, _, .cons a r, k => by
    simp only [PyData.hasDictAll, Bool.or_eq_false_iff] at k
    exact .cons (DaF.dp a k.1) (DaAllF.dp r k.2)
end
theorem strOk_of {x : Str} {n : Nat} (h : okS x n) : PyData.strOk x = true := by
  unfold PyData.strOk
  rw [Array.all_eq_true]
  intro i hi
  exact decide_eq_true (h.2 _ (by simp))
theorem i_eqD {b c : Bool} {K : PySem.W.Frag} {H : Hp} {Q : VK} {x y : V} {d e : PyData} (h : DaF b K H x d) (k : DaF c K H y e) (hd : d.hasDict = false) (he : e.hasDict = false) (sd : SeqAt.shaped d = true) (se : SeqAt.shaped e = true) (q : Q (.bl (PyData.eqv d e)) H) : rEqD K x y H Q :=
  ⟨d, e, h.dp hd, k.dp he, sd, se, q⟩
/-- a list of texts of one sign -/
def signsD (l : List Nat) : List PyData := l.map fun c => .str ⟨#[c]⟩
theorem da_signs {K : PySem.W.Frag} {H : Hp} : ∀ l : List Nat, DaAll K H (l.map fun c => V.str ⟨#[c]⟩) (signsD l)
  | [] => .nil
  | c :: l => .cons (.str _) (da_signs l)
theorem signs_hasDict : ∀ l : List Nat, PyData.hasDictAll (signsD l) = false
  | [] => rfl
  | c :: l => by show (PyData.hasDict (.str ⟨#[c]⟩) || PyData.hasDictAll (signsD l)) = false; rw [signs_hasDict l]; rfl
theorem signs_lay : ∀ l : List Nat, (∀ c ∈ l, c < 1114112) → PyData.canLayAll0 (signsD l) = true
  | [], _ => rfl
  | c :: l, h => by
    show (PyData.canLay0 (.str ⟨#[c]⟩) && PyData.canLayAll0 (signsD l)) = true
    rw [signs_lay l fun d hd => h d (List.mem_cons_of_mem _ hd)]
    have := h c List.mem_cons_self
    simp [PyData.canLay0, PyData.strOk, this]
theorem signs_depth : ∀ l : List Nat, PyData.depthAll (signsD l) ≤ 1
  | [] => by simp [signsD, PyData.depthAll]
  | c :: l => by
    have := signs_depth l
    simp only [signsD, List.map_cons, PyData.depthAll, PyData.depth] at this ⊢
    omega
theorem i_eqSigns {K : PySem.W.Frag} {H : Hp} {Q : VK} {a b : Addr} {l : List Nat} (h : H a = some (.lst (l.map fun c => V.str ⟨#[c]⟩))) (k : H b = some (.lst [])) (hl : ∀ c ∈ l, c < 1114112) (q : Q (.bl l.isEmpty) H) : rEqD K (.ref a) (.ref b) H Q := by
  refine i_eqD (b := false) (c := false) (Da.lst (.inl (.inl h)) (da_signs l)) (Da.lst (.inl (.inl k)) DaAllF.nil) (signs_hasDict l) rfl ?_ rfl ?_
  · unfold SeqAt.shaped
    have h1 : PyData.canLay0 (.list (signsD l)) = true := signs_lay l hl
    have h2 : PyData.depth (.list (signsD l)) ≤ 64 := by
      have := signs_depth l
      simp only [PyData.depth]
      omega
    rw [h1]
    simpa using h2
  · have e : PyData.eqv (.list (signsD l)) (.list []) = l.isEmpty := by
      cases l with
      | nil => rfl
      | cons c l => rfl
    rw [e]; exact q
/-! ### the law's numbers: a list of two ints that each draw turns -/
def Rok (H : Hp) (r : Addr) : Prop := ∃ a b : Int, H r = some (.lst [.int a, .int b]) ∧ 0 ≤ b ∧ b < 2147483588
theorem Rok.same {H H' : Hp} {r : Addr} (s : Same H H') (h : Rok H r) : Rok H' r := let ⟨a, b, e, k⟩ := h; ⟨a, b, s _ _ e, k⟩
theorem Rok.off {H H' : Hp} {r p : Addr} (s : Off p H H') (n : r ≠ p) (h : Rok H r) : Rok H' r := let ⟨a, b, e, k⟩ := h; ⟨a, b, s.get n e, k⟩
theorem Rok.ne {H : Hp} {r p : Addr} (h : Rok H r) (n : H p = none) : p ≠ r := let ⟨_, _, e, _⟩ := h; (ne_of_none e n).symm
/-- a comprehension whose element draws -/
theorem l_rng {J : It} {xs : List V} {G : Hp → Prop} (W : Wk J xs G) {g : TG} {te : TE} {vs : List Nat} {Q : VK} {σ : L2.St} {H1 : Hp} (r : Addr) (ok : Nat → V → Prop) (hlen : xs.length < sizeLine) (h0 : Rok H1 r) (hG : ∀ H', Off r H1 H' → G H')
    (hs : ∀ (i : Nat) x H' (R : VK), xs[i]? = some x → Off r H1 H' → Rok H' r → (∀ y H'', ok i y → Off r H' H'' → Rok H'' r → R y H'') → g x (wipe σ vs) H' fun σ2 H2 => wipe σ2 vs = wipe σ vs ∧ te σ2 H2 R)
    (q : ∀ D H' ys, H1 D = none → D ≠ r → Off r H1 H' → Rok H' r → H' D = some (.lst ys) → ys.length = xs.length → (∀ (i : Nat) y, ys[i]? = some y → ok i y) → Q (.ref D) H') : LcR J g tYes te vs σ H1 Q := by
  refine l_wk W fun D H0 n0 s0 e0 => ⟨fun i ys H => Off r H1 H ∧ Rok H r ∧ H D = some (.lst ys) ∧ ys.length = i ∧ ∀ (j : Nat) y, ys[j]? = some y → ok j y, ⟨.of_same s0, h0.same s0, e0, rfl, fun j y h => by simp at h⟩, fun i ys H h => hG _ h.1, fun i ys x H hx h => ?_, fun ys H h => ?_⟩
  · obtain ⟨o1, r1, e1, hl, hy⟩ := h
    have hi : i < xs.length := (List.getElem?_eq_some_iff.mp hx).1
    have hDr : D ≠ r := h0.ne n0
    let R : VK := fun y H4 => LcEl D (fun ys H => Off r H1 H ∧ Rok H r ∧ H D = some (.lst ys) ∧ ys.length = i + 1 ∧ ∀ (j : Nat) y, ys[j]? = some y → ok j y) y H4
    have e : (fun (σ2 : L2.St) H2 => wipe σ2 vs = wipe σ vs ∧ tYes σ2 H2 fun b H3 => if b = true then te σ2 H3 R else ∃ ys, Off r H1 H3 ∧ Rok H3 r ∧ H3 D = some (.lst ys) ∧ ys.length = i + 1 ∧ ∀ (j : Nat) y, ys[j]? = some y → ok j y) = fun σ2 H2 => wipe σ2 vs = wipe σ vs ∧ te σ2 H2 R := by
      funext σ2 H2
      show (_ ∧ if true = true then te σ2 H2 R else (∃ ys, Off r H1 H2 ∧ Rok H2 r ∧ H2 D = some (.lst ys) ∧ ys.length = i + 1 ∧ ∀ (j : Nat) y, ys[j]? = some y → ok j y)) = _
      rw [if_pos rfl]
    rw [e]
    refine hs i x H R hx o1 r1 fun y H'' hk o2 r2 => ?_
    refine i_lcEl (Off.get o2 hDr e1) (by omega) fun H5 o5 e5 => ⟨Off.thenF o5 n0 (Off.refl _ _) (o1.trans o2), r2.off o5 hDr.symm, e5, by simp [hl], fun j z hj => ?_⟩
    by_cases hlt : j < ys.length
    · rw [List.getElem?_append_left hlt] at hj
      exact hy j z hj
    · have hj' : j = i := by
        have := (List.getElem?_eq_some_iff.mp hj).1
        rw [List.length_append] at this
        simp at this
        omega
      subst hj'
      rw [← hl, List.getElem?_append_right (Nat.le_refl _)] at hj
      simp at hj
      rw [← hj]; exact hk
  · obtain ⟨o1, r1, e1, hl, hy⟩ := h
    exact q D H ys n0 (h0.ne n0) o1 r1 e1 hl hy
end KX

namespace KX
open PySem PySem.Spec PyProof.Rows L2
/-! ### what stands at one address stays -/
def Kp (a : Addr) (H H' : Hp) : Prop := ∀ o, H a = some o → H' a = some o
theorem Kp.refl {a : Addr} {H : Hp} : Kp a H H := fun _ e => e
theorem Kp.thenS {a : Addr} {H H1 H2 : Hp} (b : Same H1 H2) (k : Kp a H H1) : Kp a H H2 := fun o e => b _ _ (k o e)
theorem Kp.thenO {a p : Addr} {H H1 H2 : Hp} (b : Off p H1 H2) (n : a ≠ p) (k : Kp a H H1) : Kp a H H2 := fun o e => b _ _ n (k o e)
theorem Kp.get {a : Addr} {H H' : Hp} {o : HO} (h : H a = some o) (k : Kp a H H') : H' a = some o := k o h
theorem Rok.ne' {H : Hp} {r p : Addr} (n : H p = none) (h : Rok H r) : p ≠ r := h.ne n
theorem Rok.kp {H H' : Hp} {r : Addr} (h : Rok H r) (k : Kp r H H') : Rok H' r := let ⟨a, b, e, z⟩ := h; ⟨a, b, k _ e, z⟩
/-! ### data that may be shown and compared -/
structure OkD (d : PyData) : Prop where
  sh : Shw d
  st : ∀ x, d = .str x → okS x 16777216
def okdB (d : PyData) : Bool := d.showable && (decide (d.depth ≤ 20) && (decide (d.shown.length ≤ 16777216) && match d with
  | .str x => decide (x.length ≤ 16777216) && x.cps.toList.all fun c => decide (c < 1114112)
  | _ => true))
theorem okd_of {d : PyData} (h : okdB d = true) : OkD d := by
  unfold okdB at h
  simp only [Bool.and_eq_true, decide_eq_true_eq] at h
  obtain ⟨h1, h2, h3, h4⟩ := h
  refine ⟨⟨h1, h2, by rw [sizeLine_eq]; exact h3⟩, fun x e => ?_⟩
  subst e
  simp only [Bool.and_eq_true, decide_eq_true_eq, List.all_eq_true] at h4
  exact ⟨h4.1, h4.2⟩
theorem OkD.int {i : Int} (h : i.natAbs.log2 < 1920) : OkD (.int i) := ⟨⟨by simpa [PyData.showable] using h, by simp [PyData.depth], by rw [PyData.shown_int]; exact int_text_fits h⟩, fun x e => by cases e⟩
theorem OkD.str {x : Str} {n : Nat} (h : okS x n) (k : n ≤ 100000) : OkD (.str x) := ⟨Shw.of_str h k, fun y e => by cases e; exact h.mono (by omega)⟩
/-! ### the law's call from the top, where the frames' guards are told -/
section
variable {P : Program} {w : World} {K : PySem.W.Frag} {mg mb : Str → Option Value}
abbrev scrO (us : List Value) : Obj := { cls := .type "list", data := .seq us.toArray }
def scrH (K : PySem.W.Frag) (a : Addr) (us : List Value) (ns : List Int) : Hp := fun b =>
  if b = a ∧ K.lookup a = none then some (.frz (scrO us) (.lst (ns.map V.int))) else none
theorem scrH_or (K : PySem.W.Frag) (a : Addr) (us : List Value) (ns : List Int) (b : Addr) :
    scrH K a us ns b = none ∨ (b = a ∧ K.lookup a = none ∧ scrH K a us ns b = some (.frz (scrO us) (.lst (ns.map V.int)))) := by
  unfold scrH
  by_cases h : b = a ∧ K.lookup a = none
  · exact .inr ⟨h.1, h.2, if_pos h⟩
  · exact .inl (if_neg h)
/-- what the law's def promises, at the heap behind the top -/
theorem lawG {CX : CXT} {k : Nat} {fa a : Addr} {fd : FuncData} {x : Str} {sp : Sp} {t0 : Shared} {us : List Value} {ns : List Int} (inK : K.In t0.heap) (g1 : t0.heap.Ns mainGlobals mg) (g2 : t0.heap.Ns builtinsNs mb)
    (g3 : ∀ y : Str, y ≠ "__name__" → mb y = bootBuiltins y) (g4 : t0.heap.NoLimit) (g5 : t0.gens = #[]) (there : t0.heap.get? a = some (scrO us)) (hin : IntsAre us ns) (few : ns.length ≤ sizeLine) (room : Room k callerA)
    (G : ∀ b0 : Heap, K.In b0 → b0.Ns mainGlobals mg → Fg P w K mg b0 CX k fa fd [x] sp) (binds : ∀ (s : Shared) (u : Value), BindsTo s fd ⟨[u], []⟩ [(x, u)])
    (promise : ∀ H : Hp, SqL K H a (ns.map V.int) → sp [.ref a] H (fun v _ => v = .bl true) fun _ _ _ => False) (noX : ∀ H e s', CX [] H t0 (fun _ _ _ => False) e s' → False) :
    codeAny (model P w) callerA (.call (.ref fa) ⟨[.ref a], []⟩)
      (fun r s' => r = .ok (.ret (.bool true)) ∧ OldK t0.heap s'.heap ∧ s'.os = t0.os ∧ AllBare s'.gens) t0 := by
  have rel := vals_ints hin
  have off : ∀ {b : Addr} {o : Obj}, t0.heap.get? b = some o → (b = a → K.lookup a = none → False) → (hidT t0.heap (scrH K a us ns)).get? b = some o := fun {b o} e z => by
    refine hidT_get e ?_
    rcases scrH_or K a us ns b with h | ⟨h1, h2, _⟩
    · exact h
    · exact (z h1 h2).elim
  have dicts : ∀ {b : Addr} {o : Obj} {es : Array DictEntry} {ep : Nat}, t0.heap.get? b = some o → o.data = .dict es ep → b = a → False := fun {b o es ep} e d z => by
    rw [z, there] at e
    cases e
    cases (show Data.seq us.toArray _ = Data.dict es ep from d)
  have names : ∀ {b : Addr} {m : Str → Option Value}, t0.heap.Ns b m → (hidT t0.heap (scrH K a us ns)).Ns b m := fun {b m} ⟨o, es, ep, e, d, r⟩ => ⟨o, es, ep, off e (fun z _ => dicts e d z), d, r⟩
  have inB : K.In (hidT t0.heap (scrH K a us ns)) := fun b o e => off (inK b o e) fun z1 z2 => by
    rw [z1, z2] at e
    cases e
  have top : Mod K mg (hidT t0.heap (scrH K a us ns)) := ⟨inB, names g1, ⟨mb, names g2, g3⟩, let ⟨mc, h1, h2⟩ := g4; ⟨mc, names h1, h2⟩⟩
  have hok : HOk P w (scrH K a us ns) t0.heap := fun b u z => by
    rcases scrH_or K a us ns b with h | ⟨h1, _, h3⟩
    · rw [h] at z; cases z
    · rw [h3] at z
      cases z
      subst h1
      exact ⟨there, by rw [List.length_map]; exact few, us, _, rel, there⟩
  have env : Env0 P w K mg (hidT t0.heap (scrH K a us ns)) callerA [] t0 (scrH K a us ns) :=
    ⟨rfl, top, fun b o e => of_hidT e, Nat.le_of_eq (hidT_size _ _), trivial, fun b hb => (nomatch hb), hok, .of_eq g5⟩
  have seen : SqL K (scrH K a us ns) a (ns.map V.int) := by
    cases lk : K.lookup a with
    | none => exact .inl (.inr ⟨scrO us, if_pos ⟨rfl, lk⟩⟩)
    | some o =>
      have e := inK a o lk
      rw [there] at e
      cases e
      exact .inr ⟨_, us.toArray, _, lk, rfl, rfl, rfl, by rw [List.size_toArray, hin.length]; exact few, by simpa using rel⟩
  refine codeAny_mono ((G _ inB (names g1)).run callerA [] t0 (scrH K a us ns) ⟨[.ref a], []⟩ [.ref a] [.ref a] _ _ ⟨room, rfl⟩ env (binds t0 (.ref a)) (.cons rfl .nil) (promise _ seen)) fun r s' end_ => ?_
  match r, end_ with
  | .error e, end_ => exact (noX _ e s' end_).elim
  | .ok .next, end_ => exact False.elim end_
  | .ok .brk, end_ => exact False.elim end_
  | .ok .cont, end_ => exact False.elim end_
  | .ok (.ret u), ⟨v, H', os, bare, un, hok', r', q⟩ =>
    have q' : v = .bl true := q
    subst q'
    obtain rfl : u = Value.bool true := r'
    refine ⟨rfl, OldK.of_keep fun b o e => ?_, os, bare⟩
    rcases scrH_or K a us ns b with h | ⟨h1, h2, h3⟩
    · exact un.keep b o e h (fun z => (nomatch z)) (fun z => (nomatch z))
    · have z2 := un.frzs b _ _ h3
      obtain ⟨e1, _⟩ := hok b _ h3
      obtain ⟨e2, _⟩ := hok' b _ z2
      rw [e] at e1
      cases e1
      exact e2
theorem walkG {l : PySem.W.OpenLaw} {n k : Nat} {q : Program} {loose : List Str} {XP : (Str → Option Value) → Heap → Prop} {YP : World → Heap → Prop} {d : DefRec} {K : Params → PySem.W.Frag} {CX : World → CXT} {sp : World → Sp} {x : Str} (most : l.most = some n) (few : n ≤ sizeLine)
    (plain : d.params.defaults = []) (room : Room k callerA) (inK : ∀ (w : World) (h : Heap), YP w h → (K w.params).In h)
    (G : ∀ (w : World) (mg : Str → Option Value) (fa : Addr) (h : Heap), (K w.params).In h → h.Ns mainGlobals mg → mg d.name = some (.ref fa) → ∃ fd : FuncData,
      (∀ (s : Shared) (u : Value), BindsTo s fd ⟨[u], []⟩ [(x, u)]) ∧ ∀ b0 : Heap, (K w.params).In b0 → b0.Ns mainGlobals mg → Fg l.prog w (K w.params) mg b0 (CX w) k fa fd [x] (sp w))
    (promise : ∀ (w : World) (H : Hp) (a : Addr) (ns : List Int), ns.length ≤ n → (∀ z ∈ ns, Builtin.Int.intBits z ≤ 1048576) → SqL (K w.params) H a (ns.map V.int) → sp w [.ref a] H (fun v _ => v = .bl true) fun _ _ _ => False)
    (noX : ∀ (w : World) (H : Hp) (s : Shared) (e : Value) (s' : Shared), CX w [] H s (fun _ _ _ => False) e s' → False) :
    PySem.W.WalkO q loose XP YP l.row.toRowW d [] (fun f vs => PySem.call f vs) := by
  refine Att.attach_callB most plain fun w _ t0 mg mb fa _ _ _ _ a us ns gr y _ _ _ at_ there hin len bits gens => ?_
  obtain ⟨fd, binds, hF⟩ := G w mg fa _ (inK w _ y) gr.T.g at_
  exact lawG (inK w _ y) gr.T.g gr.T.b gr.T.builtins gr.T.nolimit gens there hin (Nat.le_trans len few) room hF binds (fun H seen => promise w H a ns len bits seen) fun H e s' => noX w H t0 e s'
end
end KX

namespace KX
open PySem PySem.Spec PyProof.Rows L2
/-! ### the heap without one address, and the part that is new -/
def wo (r : Addr) (H : Hp) : Hp := fun b => if b = r then none else H b
theorem wo_get {r b : Addr} {H : Hp} (n : b ≠ r) : wo r H b = H b := if_neg n
theorem wo_same {r : Addr} {H : Hp} : Same (wo r H) H := fun b o e => by
  by_cases h : b = r
  · have e' : wo r H b = none := if_pos h
    rw [e'] at e; cases e
  · rwa [wo_get h] at e
theorem Off.wo {r : Addr} {H H' : Hp} (s : Off r H H') : Same (KX.wo r H) (KX.wo r H') := fun b o e => by
  by_cases h : b = r
  · have e' : KX.wo r H b = none := if_pos h
    rw [e'] at e; cases e
  · rw [wo_get h] at e ⊢
    exact s _ _ h e
theorem Same.wo {r : Addr} {H H' : Hp} (s : Same H H') : Same (KX.wo r H) (KX.wo r H') := Off.wo (.of_same s)
def newP (H H' : Hp) : Hp := fun b => if H b = none then H' b else none
theorem newP_same {H H' : Hp} : Same (newP H H') H' := fun b o e => by
  unfold newP at e
  split at e
  · exact e
  · cases e
theorem newP_get {H H' : Hp} {b : Addr} (h : H b = none) : newP H H' b = H' b := if_pos h
theorem newP_mono {H H1 H2 : Hp} (s : Same H1 H2) : Same (newP H H1) (newP H H2) := fun b o e => by
  unfold newP at e ⊢
  split at e
  · next h => rw [if_pos h]; exact s _ _ e
  · cases e
theorem none_of {H H1 : Hp} (s : Same H H1) {b : Addr} (h : H1 b = none) : H b = none := by
  cases e : H b with
  | none => rfl
  | some o => rw [s _ _ e] at h; cases h
theorem newP_back {H H1 H2 : Hp} (s : Same H H1) : Same (newP H1 H2) (newP H H2) := fun b o e => by
  unfold newP at e ⊢
  split at e
  · next h => rw [if_pos (none_of s h)]; exact e
  · cases e
theorem newP_wo {H H' : Hp} {r : Addr} {o : HO} (h : H r = some o) : Same (newP H H') (wo r H') := fun b u e => by
  unfold newP at e
  split at e
  · next z => rw [wo_get (fun q => by rw [q, h] at z; cases z)]; exact e
  · cases e
theorem DaAllF.len {b : Bool} {K : PySem.W.Frag} {H : Hp} : ∀ {vs : List V} {ds : List PyData}, DaAllF b K H vs ds → vs.length = ds.length
  | _, _, .nil => rfl
  | _, _, .cons _ r => congrArg (· + 1) (DaAllF.len r)
theorem DaAllF.mem {b : Bool} {K : PySem.W.Frag} {H : Hp} : ∀ {vs : List V} {ds : List PyData}, DaAllF b K H vs ds → ∀ v ∈ vs, ∃ d ∈ ds, DaF b K H v d
  | _, _, .nil, _, h => (nomatch h)
  | _, _, .cons a r, v, h => by
    rcases List.mem_cons.mp h with e | h
    · subst e; exact ⟨_, List.mem_cons_self, a⟩
    · obtain ⟨d, hd, k⟩ := DaAllF.mem r v h
      exact ⟨d, List.mem_cons_of_mem _ hd, k⟩
theorem DaAllF.app {b : Bool} {K : PySem.W.Frag} {H : Hp} : ∀ {vs us : List V} {ds es : List PyData}, DaAllF b K H vs ds → DaAllF b K H us es → DaAllF b K H (vs ++ us) (ds ++ es)
  | _, _, _, _, .nil, k => k
  | _, _, _, _, .cons a r, k => .cons a (DaAllF.app r k)
theorem okd_all {ds : List PyData} (h : ds.all okdB = true) {d : PyData} (k : d ∈ ds) : OkD d := okd_of (List.all_eq_true.mp h d k)
/-! ### written data -/
mutual
inductive Lit : Expr → PyData → Prop
  | non {j p} : Lit (.Constant .none j p) .none
  | bl {b j p} : Lit (.Constant (.bool b) j p) (.bool b)
  | int {i j p} : Lit (.Constant (.int i) j p) (.int i)
  | str {x j p} : Lit (.Constant (.str x) j p) (.str x)
  | neg {i j p p'} : Lit (.UnaryOp .USub (.Constant (.int i) j p) p') (.int (-i))
  | negE {a i p} : Lit a (.int i) → Lit (.UnaryOp .USub a p) (.int (-i))
  | sub {a b i j p} : Lit a (.int i) → Lit b (.int j) → Lit (.BinOp a .Sub b p) (.int (i - j))
  | pow {a b i j p} : Lit a (.int i) → Lit b (.int j) → 0 ≤ j → j ≤ 1000000 → i.natAbs < 2 ^ 64 → Lit (.BinOp a .Pow b p) (.int (i ^ j.toNat))
  | lst {es ds p} : LitAll es ds → ds.length ≤ 1000 → Lit (.List es p) (.list ds)
  | tup {es ds x p} : LitAll es ds → ds.length ≤ 1000 → Lit (.Tuple es x p) (.tuple ds)
  | dic0 {p} : Lit (.Dict [] [] p) (.dict [])
  | dicI {i j q v d p} : Lit v d → Lit (.Dict [some (.Constant (.int i) j q)] [v] p) (.dict [(.int i, d)])
  | dicS {x j q v d p} : Lit v d → Lit (.Dict [some (.Constant (.str x) j q)] [v] p) (.dict [(.str x, d)])
inductive LitAll : List Expr → List PyData → Prop
  | nil : LitAll [] []
  | cons {e es d ds} : Lit e d → LitAll es ds → LitAll (e :: es) (d :: ds)
end
theorem Lit.star {e : Expr} {d : PyData} (h : Lit e d) (es : List Expr) (env : Env) : starEach (e :: es) env = (false, eval e env) :: starEach es env := by
  cases h <;> rfl
/-- a list display: its address is told to be none of the run's own -/
def tLstN (t : TA) : TE := fun σ H Q => t σ H fun xs H1 => xs.length ≤ sizeLine ∧ ∀ p, H1 p = none → p ≠ sysModules → Q (.ref p) (upd H1 p (.lst xs))
theorem pe_lstN {X : Cx} {es : List Expr} {t : TA} {pos : Pos} (h : PA X es t) : PE X (.List es pos) (tLstN t) :=
  ⟨fun pins s σ H Q I hq => wpAny_List_spliced (thn (h.run pos pins s σ H _ I hq) fun us t1 ⟨xs, H1, J, r, z, q⟩ => by
    have free : H1 t1.heap.objs.size = none := J.hok.fresh (Nat.le_refl _)
    refine ⟨by rw [← r.length]; exact z, .ref t1.heap.objs.size, L2.upd H1 t1.heap.objs.size (.lst xs), J.laid (t' := t1.toks) (fun b u e => Heap.get?_push_of_some _ e) (Nat.le_refl _) ?_, rfl, q _ free (Nat.ne_of_gt J.big)⟩
    exact ⟨z, us, 0, r, Heap.get?_push_size _ rfl⟩)⟩
def NewN (H : Hp) (o : HO) (Q : VK) : Prop := ∀ p, H p = none → p ≠ sysModules → Q (.ref p) (L2.upd H p o)
theorem i_newN {H : Hp} {o : HO} {Q : VK} (q : ∀ p H', H p = none → p ≠ sysModules → Same H H' → H' p = some o → Q (.ref p) H') : NewN H o Q := fun p hp hn => q p _ hp hn (same_new hp) upd_same
theorem i_lstN {t : TA} {σ : L2.St} {H : Hp} {Q : VK} (q : t σ H fun xs H1 => xs.length ≤ sizeLine ∧ NewN H1 (.lst xs) Q) : tLstN t σ H Q := q
def tLit (K : PySem.W.Frag) (d : PyData) : TE := fun _ H Q => ∀ v H', Same H H' → DaS K (newP H H') v d → Q v H'
def tLits (K : PySem.W.Frag) (ds : List PyData) : TA := fun _ H Q => ∀ vs H', Same H H' → DaAllS K (newP H H') vs ds → Q vs H'
def tLitL (K : PySem.W.Frag) (ds : List PyData) : TE := fun _ H Q => ∀ p xs H', H p = none → p ≠ sysModules → Same H H' → H' p = some (.lst xs) → DaAllS K (newP H H') xs ds → Q (.ref p) H'
theorem _root_.L2.PE.imp {X : Cx} {e : Expr} {t u : TE} (h : PE X e t) (k : ∀ σ H Q, u σ H Q → t σ H Q) : PE X e u := ⟨fun pins s σ H Q I q => h.run pins s σ H Q I (k _ _ _ q)⟩
theorem _root_.L2.PA.imp {X : Cx} {es : List Expr} {t u : TA} (h : PA X es t) (k : ∀ σ H Q, u σ H Q → t σ H Q) : PA X es u := ⟨fun pos pins s σ H Q I q => h.run pos pins s σ H Q I (k _ _ _ q)⟩
theorem one_dict {H : Hp} {p : Addr} {k : Key} {v : V} {K : PySem.W.Frag} {H1 H2 : Hp} {d : PyData} (hp : H p = none) (s1 : Same (upd H p (.dK [])) H1) (hd : DaS K (newP (upd H p (.dK [])) H1) v d) (e : H2 = upd H1 p (.dK [(k, v)])) :
    Same H H2 ∧ DaS K (newP H H2) (.ref p) (.dict [(keyD k, d)]) := by
  subst e
  have h1 : H1 p = some (.dK []) := s1 _ _ upd_same
  have sH : Same H H1 := (same_new hp).trans s1
  have sn : Same (newP (upd H p (.dK [])) H1) (newP H (upd H1 p (.dK [(k, v)]))) := fun b o e => by
    unfold newP at e ⊢
    split at e
    · next h =>
      have nb : b ≠ p := fun z => by rw [z, upd_same] at h; cases h
      rw [upd_ne nb] at h
      rw [if_pos h, upd_ne nb]; exact e
    · cases e
  refine ⟨fun b o e => ?_, .dic (kvs := [(k, v)]) (Rd.of ?_) (.cons (hd.same sn) .nil)⟩
  · have nb : b ≠ p := fun z => by rw [z, hp] at e; cases e
    rw [upd_ne nb]; exact sH _ _ e
  · rw [newP_get hp, upd_same]
mutual
theorem Lit.pe {X : Cx} : ∀ {e : Expr} {d : PyData}, Lit e d → PE X e (tLit X.K d)
  | _, _, .non => pe_non.imp fun σ H Q q => q _ _ (Same.refl _) .non
  | _, _, .bl => pe_bl.imp fun σ H Q q => q _ _ (Same.refl _) (.bl _)
  | _, _, .int => pe_int.imp fun σ H Q q => q _ _ (Same.refl _) (.int _)
  | _, _, .str => pe_str.imp fun σ H Q q => q _ _ (Same.refl _) (.str _)
  | _, _, .neg => (pe_un un_neg pe_int).imp fun σ H Q q => ⟨_, rfl, q _ _ (Same.refl _) (.int _)⟩
  | _, _, .negE ha => (pe_un un_neg ha.pe).imp fun σ H Q q v H1 s1 hv => by
      cases hv
      exact ⟨_, rfl, q _ _ s1 (.int _)⟩
  | _, _, .sub ha hb => (pe_op op_sub ha.pe hb.pe).imp fun σ H Q q v H1 s1 hv w H2 s2 hw => by
      cases hv; cases hw
      exact ⟨_, _, rfl, rfl, q _ _ (s1.trans s2) (.int _)⟩
  | _, _, .pow ha hb j0 j1 i1 => (pe_op op_pow ha.pe hb.pe).imp fun σ H Q q v H1 s1 hv w H2 s2 hw => by
      cases hv; cases hw
      exact ⟨_, _, rfl, rfl, ⟨j0, j1, i1⟩, q _ _ (s1.trans s2) (.int _)⟩
  | _, _, .lst h l => (pe_lstN h.pa).imp fun σ H Q q vs H1 s1 hd => ⟨by rw [hd.len, sizeLine_eq]; exact Nat.le_trans l (by decide), fun p hp hn =>
      q _ _ (s1.trans (same_new hp)) (.lst (SqL.of (by rw [newP_get (none_of s1 hp), upd_same])) (fun _ => hn) (hd.same (newP_mono (same_new hp))))⟩
  | _, _, .tup h l => (pe_tup h.pa).imp fun σ H Q q vs H1 s1 hd => ⟨by rw [hd.len, sizeLine_eq]; exact Nat.le_trans l (by decide), fun p hp =>
      q _ _ (s1.trans (same_new hp)) (.tup (SqT.of (by rw [newP_get (none_of s1 hp), upd_same])) (hd.same (newP_mono (same_new hp))))⟩
  | _, _, .dic0 => pe_dnewK.imp fun σ H Q q p hp => q _ _ (same_new hp) (.dic (Rd.of (by rw [newP_get hp, upd_same])) .nil)
  | _, _, .dicI h => (pe_disp (pps_cons pe_int h.pe pps_nil) (by rfl) (by rfl) (fun z => by cases z) (by show 1 ≤ 15; decide)).imp fun σ H Q q p hp v H1 s1 hd => by
      obtain ⟨a, b⟩ := one_dict (k := .inl _) hp s1 hd rfl
      exact ⟨s1 _ _ upd_same, [(.inl _, v)], rfl, (by show 1 ≤ 15; decide), q _ _ a b⟩
  | _, _, .dicS h => (pe_disp (pps_cons pe_str h.pe pps_nil) (by rfl) (by rfl) (fun z => by cases z) (by show 1 ≤ 15; decide)).imp fun σ H Q q p hp v H1 s1 hd => by
      obtain ⟨a, b⟩ := one_dict (k := .inr _) hp s1 hd rfl
      exact ⟨s1 _ _ upd_same, [(.inr _, v)], rfl, (by show 1 ≤ 15; decide), q _ _ a b⟩
theorem LitAll.pa {X : Cx} : ∀ {es : List Expr} {ds : List PyData}, LitAll es ds → PA X es (tLits X.K ds)
  | _, _, .nil => pa_nil.imp fun σ H Q q => q _ _ (Same.refl _) .nil
  | _, _, .cons h t => (pa_cons h.pe t.pa (h.star _ _)).imp fun σ H Q q v H1 s1 hd vs H2 s2 hds =>
      q _ _ (s1.trans s2) (.cons (hd.same (newP_mono s2)) (hds.same (newP_back s1)))
end
theorem pe_litL {X : Cx} {es : List Expr} {ds : List PyData} {p : Pos} (h : LitAll es ds) (l : ds.length ≤ 1000) : PE X (.List es p) (tLitL X.K ds) :=
  (pe_lstN h.pa).imp fun σ H Q q vs H1 s1 hd => ⟨by rw [hd.len, sizeLine_eq]; exact Nat.le_trans l (by decide), fun p hp hn =>
    q _ _ _ (none_of s1 hp) hn (s1.trans (same_new hp)) upd_same (hd.same (newP_mono (same_new hp)))⟩
theorem i_lit {K : PySem.W.Frag} {d : PyData} {σ : L2.St} {H : Hp} {Q : VK} (q : ∀ v H', Same H H' → DaS K (newP H H') v d → Q v H') : tLit K d σ H Q := q
theorem i_litL {K : PySem.W.Frag} {ds : List PyData} {σ : L2.St} {H : Hp} {Q : VK} (q : ∀ p xs H', H p = none → p ≠ sysModules → Same H H' → H' p = some (.lst xs) → DaAllS K (newP H H') xs ds → Q (.ref p) H') : tLitL K ds σ H Q := q
/-! ### bounds on what is shown -/
theorem i_rEqSame {H : Hp} {Q : VK} {x : V} (h : scal x x = true) (q : Q (.bl true) H) : rEq x x H Q := ⟨h, by rw [decide_eq_true (rfl : x = x)]; exact q⟩
theorem i_rNeSame {H : Hp} {Q : VK} {x : V} (h : scal x x = true) (q : Q (.bl false) H) : rNe x x H Q := ⟨h, by rw [decide_eq_true (rfl : x = x)]; exact q⟩
structure Sh (d : PyData) (n k : Nat) : Prop where
  ok : d.showable = true
  dp : d.depth ≤ k
  ln : d.shown.length ≤ n
theorem Sh.mono {d : PyData} {n k n' k' : Nat} (h : Sh d n k) (a : n ≤ n') (b : k ≤ k') : Sh d n' k' := ⟨h.ok, Nat.le_trans h.dp b, Nat.le_trans h.ln a⟩
theorem Sh.shw {d : PyData} {n k : Nat} (h : Sh d n k) (a : n ≤ 16777216) (b : k ≤ 20) : Shw d := ⟨h.ok, Nat.le_trans h.dp b, by rw [sizeLine_eq]; exact Nat.le_trans h.ln a⟩
theorem join_le (sep : Str) {n : Nat} : ∀ ts : List Str, (∀ t ∈ ts, t.length ≤ n) → (Str.join sep ts).length ≤ ts.length * (n + sep.length)
  | [], _ => by show 0 ≤ _; omega
  | [x], h => by
    have := h x (by simp)
    show x.length ≤ 1 * (n + sep.length)
    omega
  | x :: y :: r, h => by
    have h1 := h x (by simp)
    have ih := join_le sep (y :: r) (fun t ht => h t (List.mem_cons_of_mem _ ht))
    show (x ++ sep ++ Str.join sep (y :: r)).length ≤ _
    rw [Str.length_append, Str.length_append]
    have e : (x :: y :: r).length * (n + sep.length) = (y :: r).length * (n + sep.length) + (n + sep.length) := by
      rw [List.length_cons, Nat.add_mul, Nat.one_mul]
    omega
theorem shownAll_mem : ∀ {ds : List PyData} {t : Str}, t ∈ PyData.shownAll ds → ∃ d ∈ ds, d.shown = t
  | [], t, h => by rw [PyData.shownAll_nil] at h; cases h
  | d :: ds, t, h => by
    rw [PyData.shownAll_cons] at h
    rcases List.mem_cons.mp h with e | h
    · exact ⟨d, List.mem_cons_self, e.symm⟩
    · obtain ⟨e, he, k⟩ := shownAll_mem h
      exact ⟨e, List.mem_cons_of_mem _ he, k⟩
theorem depthAll_le {k : Nat} : ∀ {ds : List PyData}, (∀ d ∈ ds, d.depth ≤ k) → PyData.depthAll ds ≤ k
  | [], _ => by simp [PyData.depthAll]
  | d :: ds, h => by
    have h1 := h d List.mem_cons_self
    have h2 := depthAll_le (ds := ds) fun e he => h e (List.mem_cons_of_mem _ he)
    simp only [PyData.depthAll]
    omega
theorem Sh.lst {ds : List PyData} {n k : Nat} (h : ∀ d ∈ ds, Sh d n k) : Sh (.list ds) (ds.length * (n + 2) + 2) (k + 1) := by
  refine ⟨by simp only [PyData.showable]; exact showableAll_of fun d hd => (h d hd).ok, ?_, ?_⟩
  · have := depthAll_le fun d hd => (h d hd).dp
    simp only [PyData.depth]; omega
  · rw [PyData.shown_list, Str.length_append, Str.length_append]
    have := join_le (", " : Str) (n := n) (PyData.shownAll ds) fun t ht => by
      obtain ⟨d, hd, e⟩ := shownAll_mem ht
      rw [← e]; exact (h d hd).ln
    rw [PyData.shownAll_length] at this
    have e1 : ("[" : Str).length = 1 := by decide +kernel
    have e2 : ("]" : Str).length = 1 := by decide +kernel
    have e3 : (", " : Str).length = 2 := by decide +kernel
    rw [e3] at this
    omega
theorem Sh.tup {ds : List PyData} {n k : Nat} (h : ∀ d ∈ ds, Sh d n k) : Sh (.tuple ds) (ds.length * (n + 2) + 3) (k + 1) := by
  refine ⟨by simp only [PyData.showable]; exact showableAll_of fun d hd => (h d hd).ok, ?_, ?_⟩
  · have := depthAll_le fun d hd => (h d hd).dp
    simp only [PyData.depth]; omega
  · rw [PyData.shown_tuple, Str.length_append, Str.length_append]
    have := join_le (", " : Str) (n := n) (PyData.shownAll ds) fun t ht => by
      obtain ⟨d, hd, e⟩ := shownAll_mem ht
      rw [← e]; exact (h d hd).ln
    rw [PyData.shownAll_length] at this
    have e1 : ("(" : Str).length = 1 := by decide +kernel
    have e3 : (", " : Str).length = 2 := by decide +kernel
    have e2 : (((if (ds.length == 1) = true then ",)" else ")" : String) : Str)).length ≤ 2 := by
      split <;> decide +kernel
    rw [e3] at this
    omega
theorem Sh.bl {b : Bool} : Sh (.bool b) 5 0 := by cases b <;> exact ⟨by decide +kernel, by decide +kernel, by decide +kernel⟩
theorem Sh.non : Sh .none 4 0 := ⟨by decide +kernel, by decide +kernel, by decide +kernel⟩
theorem Sh.int {i : Int} (h : i.natAbs.log2 < 1920) : Sh (.int i) 1921 0 := ⟨by simpa [PyData.showable] using h, by simp [PyData.depth], by rw [PyData.shown_int]; exact int_text_len_1921 h⟩
theorem Sh.str {x : Str} {n : Nat} (h : okS x n) : Sh (.str x) (10 * n + 2) 0 := ⟨rfl, by simp [PyData.depth], shown_str_le h⟩
theorem shw_b2 (a b : Bool) : Shw (.list [.bool a, .bool b]) := (Sh.lst (ds := [.bool a, .bool b]) (n := 5) (k := 0) fun d hd => by
  simp only [List.mem_cons, List.not_mem_nil, or_false] at hd
  rcases hd with rfl | rfl <;> exact Sh.bl).shw (by show 2 * 7 + 2 ≤ _; decide) (by decide)
end KX

namespace KX
open PySem PySem.Spec PyProof.Rows L2
/-! ### own exception classes over any built-in base -/
structure BaseF (newId initId : String) (bmB : List Value) : Prop where
  ex : ∃ B, ExcBaseFacts B newId initId bmB ∧ StoreFacts B bmB "object.__setattr__" "object"
  hand : PySem.W.handedIn (.builtin initId) = true
theorem baseV : BaseF "ValueError.__new__" "ValueError.__init__" (tailOf "ValueError") := ⟨⟨_, PySem.F.excBase_ValueError, PySem.F.store_ValueError⟩, by decide +kernel⟩
theorem baseL : BaseF "LookupError.__new__" "LookupError.__init__" (tailOf "LookupError") := ⟨⟨_, PySem.F.excBase_LookupError, PySem.F.store_LookupError⟩, by decide +kernel⟩
theorem baseR : BaseF "RuntimeError.__new__" "RuntimeError.__init__" (tailOf "RuntimeError") := ⟨⟨_, PySem.F.excBase_RuntimeError, PySem.F.store_RuntimeError⟩, by decide +kernel⟩
theorem baseA : BaseF "ArithmeticError.__new__" "ArithmeticError.__init__" (tailOf "ArithmeticError") := ⟨⟨_, PySem.F.excBase_ArithmeticError, PySem.F.store_ArithmeticError⟩, by decide +kernel⟩
/-- what the written part tells of such a class -/
structure OexB (K : PySem.W.Frag) (newId initId : String) (bmB : List Value) (C : Addr) : Prop where
  bf : BaseF newId initId bmB
  ini : PySem.W.excInitIn K C bmB newId = true
  ov : PySem.W.excOver K C bmB = true
  sa : PySem.W.findIn K (.ref C) "__setattr__" = some (some (.builtin "object.__setattr__"))
  hd : PySem.W.hasDictIn K C = true
  exC : PySem.W.subIn K (.ref C) (.type "BaseException") = some true
  tyC : PySem.W.typeIn K (.ref C) = some (.type "type")
  kC : PySem.W.keepIn K (.ref C) = true
section
open PySem.W
variable {prog : Program} {w : World} {A : Around} {R : Result → Shared → Prop} {s : Shared} {K : PySem.W.Frag} {B : String} {bmB : List Value} {C x t1 : Addr} {name : Str} {tk : Tok} {v : Value}
/-- x.name = v, x an exception without a dict as yet -/
theorem osb_new (SF : StoreFacts B bmB "object.__setattr__" "object") (inK : K.In s.heap) (hx : s.heap.get? x = some (excObj C t1 none .none)) (ov : excOver K C bmB = true) (ht : takerIn K C name = some none) (hh : hasDictIn K C = true)
    (q : ∀ h' tk', (∀ b o, b ≠ x → s.heap.get? b = some o → h'.get? b = some o) → h'.get? x = some (excObj C t1 (some s.heap.objs.size) .none) → h'.Ns1 s.heap.objs.size (fun y => if y = name then some v else none) → R (.ok (.ret .none)) { s with heap := h', toks := tk' }) :
    codeAny (model prog w) A (.call (.builtin "object.__setattr__") ⟨[.ref x, .str name tk, v], []⟩) R s := by
  have lt := Heap.lt_size hx
  refine osa_openX (od := none) SF inK ⟨hx, rfl, rfl, trivial⟩ ov ht fun b => ?_
  obtain ⟨cd, hc, hd⟩ := any_some hh
  refine wpAny_bind (wpAny_pure (wpAny_bind (instanceDict_exc hx (looks_clsIn inK hc) hd ?_)))
  show wpAny _ _ (Builtin.ObjectAttr.storeInDict s.heap.objs.size (.str name tk) name v) _ _ _
  obtain ⟨hp, g, d, t, os⟩ := s
  have far : x ≠ hp.objs.size := Nat.ne_of_lt lt
  have at1 : (hp.push (dictOf [] 0)).get? x = some (excObj C t1 none .none) := Heap.get?_push_of_some _ hx
  refine PySem.HandSPX.store_in_new ⟨_, #[], _, (Heap.get?_update_ne _ _ _ _ far.symm).trans (Heap.get?_push_at rfl rfl), rfl, fun e he => absurd he (by simp), fun _ => rfl⟩ fun h' tk' hn hs => ?_
  refine q h' tk' (fun b o nb e => ?_) ?_ hn
  · exact (hs.2 b (Nat.ne_of_lt (Heap.lt_size e))).trans ((Heap.get?_update_ne _ _ _ _ nb).trans (Heap.get?_push_of_some _ e))
  · exact (hs.2 x far).trans (Heap.get?_update_self _ at1 rfl)
/-- .. that has its dict at dx -/
theorem osb_old {dx : Addr} {m0 : Str → Option Value} {nl : List Str} (SF : StoreFacts B bmB "object.__setattr__" "object") (inK : K.In s.heap) (hx : s.heap.get? x = some (excObj C t1 (some dx) .none)) (hns : s.heap.Ns1 dx m0) (hw : Within m0 nl) (few : nl.length ≤ 1000)
    (ov : excOver K C bmB = true) (ht : takerIn K C name = some none) (hh : hasDictIn K C = true)
    (q : ∀ h' tk', (∀ b o, b ≠ dx → s.heap.get? b = some o → h'.get? b = some o) → h'.Ns1 dx (fun y => if y = name then some v else m0 y) → R (.ok (.ret .none)) { s with heap := h', toks := tk' }) :
    codeAny (model prog w) A (.call (.builtin "object.__setattr__") ⟨[.ref x, .str name tk, v], []⟩) R s := by
  obtain ⟨oD, _, _, hoD, _, _⟩ := hns.count hw
  refine osa_openX (od := some oD) SF inK ⟨hx, rfl, rfl, hoD⟩ ov ht fun b => ?_
  obtain ⟨cd, hc, hd⟩ := any_some hh
  refine wpAny_bind (wpAny_pure (wpAny_bind (wpAny_bind (wpAny_loadPart hx (wpAny_bind ((looks_clsIn inK hc).here ?_))))))
  rw [hd]
  refine wpAny_pure (a := some dx) ?_
  show wpAny _ _ (Builtin.ObjectAttr.storeInDict dx (.str name tk) name v) _ _ _
  obtain ⟨hp, g, d, t, os⟩ := s
  exact PySem.OEX.store_in_old hns hw few fun h' tk' hn hs => q h' tk' (fun b o nb e => (hs.2 b nb).trans e) hn
end
section
variable {X : Cx} {pins : List (Addr × Obj)} {σ : L2.St} {H : Hp} {s : Shared} {newId initId : String} {bmB : List Value} {a C dx : Addr} {f : Str} {y : V} {u : Value} {fs : List (Str × V)} {Q : Unit → Shared → Prop} {E : Value → Shared → Prop} {A : Around}
/-- an exception gets its dict: what is held then -/
theorem inv_dict {h' : Heap} {t' : Nat} {t1 : Addr} (I : Inv X pins σ H s) (e : H a = some (exo a C none)) (far : s.heap.objs.size ≤ dx) (k : ∀ b o, b ≠ a → s.heap.get? b = some o → h'.get? b = some o)
    (hx : h'.get? a = some (PySem.W.excObj C t1 (some dx) .none)) (ok : ObjOk X.prog X.w H h' dx (exd dx fs)) :
    Inv X pins σ (L2.upd (L2.upd H dx (exd dx fs)) a (exo a C (some dx))) { s with heap := h', toks := t' } := by
  have free : H dx = none := I.hok.fresh far
  have ad : dx ≠ a := fun z => by rw [z, e] at free; cases free
  have old : ∀ {b o}, s.heap.get? b = some o → b ≠ dx := fun {b o} z => Nat.ne_of_lt (Nat.lt_of_lt_of_le (Heap.lt_size z) far)
  have off : ∀ {b}, b ≠ a → b ≠ dx → L2.upd (L2.upd H dx (exd dx fs)) a (exo a C (some dx)) b = H b := fun {b} z1 z2 => by rw [upd_ne z1, upd_ne z2]
  have nota : ∀ {b}, H b = none → b ≠ a := fun {b} n z => by rw [z, e] at n; cases n
  have tr : ∀ {b o}, H b = some o → exo a C none ≠ o → b ≠ a ∧ b ≠ dx := fun {b o} z n => ⟨at_ne e z n, ne_of_none z free⟩
  refine I.un ⟨fun b o z n _ _ => k b o (nota n) z, fun b o z n _ _ => ⟨o.slots, k b o (nota n) z⟩, fun b o z n _ => by rw [off (nota n) (old z)]; exact n, fun b o z _ => ?_,
    fun b xs z => ?_, fun b o v z => ?_, fun b ps z => ⟨#[], ?_⟩⟩ fun b o z => ?_
  · by_cases q : b = a
    · rw [q]; exact ⟨_, hx⟩
    · exact ⟨o, k b o q z⟩
  · obtain ⟨z1, z2⟩ := tr z exo_tup
    rw [off z1 z2]; exact z
  · obtain ⟨z1, z2⟩ := tr z exo_frz
    rw [off z1 z2]; exact z
  · obtain ⟨z1, z2⟩ := tr z exo_tbl
    rw [off z1 z2, z]; simp
  · have keepO : ∀ c q, H c = some (.own q) → L2.upd (L2.upd H dx (exd dx fs)) a (exo a C (some dx)) c = some (.own q) := fun c q hc => by
      obtain ⟨z1, z2⟩ := tr hc exo_own
      rw [off z1 z2]; exact hc
    have keepT : ∀ c xs, H c = some (.tup xs) → L2.upd (L2.upd H dx (exd dx fs)) a (exo a C (some dx)) c = some (.tup xs) := fun c xs hc => by
      obtain ⟨z1, z2⟩ := tr hc exo_tup
      rw [off z1 z2]; exact hc
    by_cases q : b = a
    · rw [q, upd_same] at z
      cases z
      rw [q]
      exact exo_ok hx
    · rw [upd_ne q] at z
      by_cases qd : b = dx
      · rw [qd, upd_same] at z
        cases z
        rw [qd]
        exact ok.stay (fun c v _ w => w) (keepO · _) keepT
      · rw [upd_ne qd] at z
        refine (I.hok b o z).stay (fun c v hc w => k c v ?_ w) (keepO · _) keepT
        rcases hc with hc | hc
        · rw [hc]; exact q
        · exact (tr hc exo_own).1
/-- self.f = y, the first one -/
theorem stb_new (T : OexB X.K newId initId bmB C) (I : Inv X pins σ H s) (e : H a = some (exo a C none)) (ht : PySem.W.takerIn X.K C f = some none) (ry : RelV y u)
    (q : ∀ dx s', H dx = none → dx ≠ a → Inv X pins σ (L2.upd (L2.upd H dx (exd dx [(f, y)])) a (exo a C (some dx))) s' → Q () s') : wpAny (model X.prog X.w) A (setAttr (.ref a) f u) Q E s := by
  obtain ⟨t1, ho⟩ := exo_at I.hok e
  obtain ⟨_, _, SF⟩ := T.bf.ex
  refine PySem.W.set_plain (od := none) I.kIn ⟨ho, rfl, rfl, trivial⟩ T.sa ?_
  refine osb_new (s := { s with toks := s.toks + 1 }) SF I.kIn ho T.ov ht T.hd fun h' tk' k hx hn => ?_
  have free : H s.heap.objs.size = none := I.hok.fresh (Nat.le_refl _)
  refine q s.heap.objs.size _ free (fun z => by rw [z, e] at free; cases free) (inv_dict (I.tok _) e (Nat.le_refl _) k hx (exd_ok hn (relO_put (fs := []) ry fun _ => True.intro)))
/-- self.f = y, a further one -/
theorem stb_old (T : OexB X.K newId initId bmB C) (I : Inv X pins σ H s) (e : H a = some (exo a C (some dx))) (ed : H dx = some (exd dx fs)) (few : fs.length ≤ 900) (ht : PySem.W.takerIn X.K C f = some none) (ry : RelV y u)
    (q : ∀ s', Inv X pins σ (L2.upd H dx (exd dx ((f, y) :: fs))) s' → Q () s') : wpAny (model X.prog X.w) A (setAttr (.ref a) f u) Q E s := by
  obtain ⟨t1, ho⟩ := exo_at I.hok e
  obtain ⟨mA, hns, rel⟩ := exd_at I.hok ed
  obtain ⟨_, _, SF⟩ := T.bf.ex
  obtain ⟨oD, _, _, hoD, _, _⟩ := hns.count (within_of rel)
  refine PySem.W.set_plain (od := some oD) I.kIn ⟨ho, rfl, rfl, hoD⟩ T.sa ?_
  refine osb_old (s := { s with toks := s.toks + 1 }) SF I.kIn ho hns (within_of rel) (by rw [List.length_map]; omega) T.ov ht T.hd fun h' tk' k hn => ?_
  obtain ⟨o, es, ep, he, r⟩ := id hn
  exact q _ (I.write (t' := tk') (x := dx) (e := dx) (by rw [ed]; exact True.intro) (.inl rfl) k ⟨o, he⟩ (exd_ok hn (relO_put ry rel)))
/-- Base.__init__(self, ..): nothing of it is told -/
theorem initb_ok {us : List Value} {Q : Value → Shared → Prop} (T : OexB X.K newId initId bmB C) (I : Inv X pins σ H s) (e : H a = some (exo a C none)) (few : us.length ≤ sizeLine) (q : ∀ s', Inv X pins σ H s' → Q .none s') :
    wpAny (model X.prog X.w) A (call (.builtin initId) (.ref a :: us)) Q E s := by
  obtain ⟨_, BF, _⟩ := T.bf.ex
  obtain ⟨nm, N, qn, bs, bm, hdct, sn, sub, ab, col, dd, k0, k1, k2, k3, k5, hC, hT⟩ := PySem.W.excInit_of I.kIn T.ini
  obtain ⟨t1, ho⟩ := exo_at I.hok e
  obtain ⟨hp, g, d, t, os⟩ := s
  refine wpAny_call (PySem.HandSPX.init_base BF hT hC ho few fun h' t2 k hx => ?_)
  have J := I.write (t' := t) (x := a) (e := a) (o := exo a C none) (by rw [e]; exact True.intro) (.inl rfl) k ⟨_, hx⟩ (exo_ok hx)
  have same : L2.upd H a (exo a C none) = H := funext fun b => by
    by_cases z : b = a
    · rw [z, upd_same, e]
    · rw [upd_ne z]
  exact q _ (same ▸ J)
end
/-! ### readings and rules -/
def tBI (K : PySem.W.Frag) (newId initId : String) (bmB : List Value) (ta : TA) : TE := fun σ H Q => ta σ H fun vs H1 =>
  ∃ (a C : Addr) (ws : List V), vs = .ref a :: ws ∧ ws.length ≤ 1000 ∧ OexB K newId initId bmB C ∧ H1 a = some (exo a C none) ∧ Q .non H1
def tStB (K : PySem.W.Frag) (newId initId : String) (bmB : List Value) (f : Str) (to te : TE) : TS := fun D σ H => te σ H fun y H1 => to σ H1 fun x H2 => ∃ a C : Addr, x = .ref a ∧ OexB K newId initId bmB C ∧ PySem.W.takerIn K C f = some none ∧
  ((H2 a = some (exo a C none) ∧ ∀ dx, H2 dx = none → dx ≠ a → D.nx σ (L2.upd (L2.upd H2 dx (exd dx [(f, y)])) a (exo a C (some dx)))) ∨
    ∃ (dx : Addr) (fs : List (Str × V)), H2 a = some (exo a C (some dx)) ∧ H2 dx = some (exd dx fs) ∧ fs.length ≤ 900 ∧ D.nx σ (L2.upd H2 dx (exd dx ((f, y) :: fs))))
/-- what the class CB hands out as its __init__: that of its built-in base -/
structure InitB (K : PySem.W.Frag) (initId : String) (CB : Addr) : Prop where
  sp : PySem.W.specialIn K (.ref CB) "__getattribute__" = some (some (.builtin "type.__getattribute__"))
  rd : PySem.W.readsIn K CB (.type "type") = true
  fc : PySem.W.findCls K (.ref CB) (.type "type") "__init__" = some (.val (.builtin initId))
section
variable {X : Cx} {o e : Expr} {es : List Expr} {to te : TE} {ta : TA} {f x : Str} {p p' p1 p2 pos : Pos} {newId initId : String} {bmB : List Value} {CB : Addr}
theorem pe_binit {pl : Sem Bool} (hg : Gl X x) (hm : X.mg x = some (.ref CB)) (hb : BaseF newId initId bmB) (ib : InitB X.K initId CB) (ha : PA X (e :: es) ta)
    (hdb : (x == ("__debug__" : Str)) = false := by decide)
    (hc : eval (.Call (.Attribute (.Name x p1) "__init__" p2) (e :: es) [] pos) X.env = (do
      let ov ← eval (.Name x p1) X.env
      standAt p2.atName
      let (f, first) ← holding [ov] (getMethod ov "__init__" pl)
      callWith pos f first (backTo pos (starEach (e :: es) X.env)) (backToKw pos (keywordEach [] X.env))) := by rfl)
    (he : starEach (e :: es) X.env = (false, eval e X.env) :: starEach es X.env := by rfl) (hpl : (backTo pos (starEach es X.env)).any (·.1) = false := by rfl) :
    PE X (.Call (.Attribute (.Name x p1) "__init__" p2) (e :: es) [] pos) (tBI X.K newId initId bmB ta) := by
  refine ⟨fun pins s σ H Q I q => ?_⟩
  refine PySem.W.methodCall_KW (ld_glob I hg hm ?_ hdb) hc
  refine PySem.W.method_cls I.kIn ib.sp (PySem.W.cls_value I.kIn ib.rd ib.fc hb.hand ?_)
  show wpAny _ _ (callWith pos (Value.builtin initId) [] (backTo pos (starEach (e :: es) X.env)) []) _ _ _
  refine PyProof.Rows.callWith_method1 (thn (ha.run pos pins _ σ H _ (I.tok _) q) fun us s1 ⟨vs, H1, I1, r1, a, C, ws, ev, few, T, ea, q⟩ => ?_) he hpl
  subst ev
  cases r1 with
  | @cons _ u0 _ ur ra rw' =>
    obtain rfl : u0 = Value.ref a := ra
    exact initb_ok T I1 ea (by rw [← Paired.length rw', sizeLine_eq]; omega) fun s' J => ⟨.non, H1, J, rfl, q⟩
theorem ps_stB (ho : PE X o to) (he : PE X e te) (hs : swapsWith e (some (.Attribute o f p')) pos.line X.env = pure false := by rfl) : PS X (.Assign [.Attribute o f p'] e pos) (tStB X.K newId initId bmB f to te) := by
  refine ⟨fun pins s σ H D I q => ?_⟩
  refine plainObj_wpAny_Assign_Attribute (thn (he.run pins s σ H _ I q) fun v s1 ⟨y, H1, I1, r1, q1⟩ => thn (ho.run pins s1 σ H1 _ I1 q1) fun u s2 ⟨x, H2, I2, r2, a, C, ex, T, ht, q⟩ => ?_) hs
  subst ex
  obtain rfl : u = Value.ref a := r2
  rcases q with ⟨ea, q⟩ | ⟨dx, fs, ea, ed, hl, q⟩
  · exact stb_new T I2 ea ht r1 fun dx s' n ne J => ⟨σ, _, J, q dx n ne⟩
  · exact stb_old T I2 ea ed hl ht r1 fun s' J => ⟨σ, _, J, q⟩
/-- C(e, ..) as what is raised -/
theorem pmk_B {CX : CXT} {C fI : Addr} {k : Nat} {fd : FuncData} {ps : List Str} {sp : Sp} (T : OexB X.K newId initId bmB C) (iC : PySem.W.findIn X.K (.ref C) "__init__" = some (some (.ref fI))) (tI : PySem.W.typeIn X.K (.ref fI) = some (.type "function"))
    (G : FnOk X.prog X.w X.K X.mg X.base CX k fI fd ps sp) (hr : Room (k + 1) X.A) (hb : Binds X.K fd ps []) (hx : Passes CX X (fun _ _ _ => False)) (hg : Gl X x) (hm : X.mg x = some (.ref C)) (ha : PA X (e :: es) ta)
    (hdb : (x == ("__debug__" : Str)) = false := by decide) (he : starEach (e :: es) X.env = (false, eval e X.env) :: starEach es X.env := by rfl) (hpl : (backTo pos (starEach es X.env)).any (·.1) = false := by rfl) :
    PMk X (.Call (.Name x p) (e :: es) [] pos) (tMkO C sp [] ta) := by
  intro pins s σ H Q I q
  obtain ⟨_, BF, _⟩ := T.bf.ex
  refine wpAny_Call_Name_kw (ld_glob I hg hm ?_ hdb)
  refine PySem.W.callWith_K (h₀ := X.base) I.ok.mod.kin T.kC (thn (ha.run pos pins s σ H _ I q) fun us s1 ⟨vs, H1, J, r, few, q1⟩ => ⟨J.kIn, ?_⟩) he hpl
  show wpAny _ _ (call (.ref C) us) _ _ _
  obtain ⟨nm, N, qn, bs, bm, hdct, sn, sub, ab, col, dd, k0, k1, k2, k3, k5, hC, hT⟩ := PySem.W.excInit_of J.kIn T.ini
  obtain ⟨hp, g, dr, tk, os⟩ := s1
  have up : hp.objs.size ≤ hp.objs.size + 1 := Nat.le_succ _
  have free : H1 (hp.objs.size + 1) = none := J.hok.fresh up
  have kk : ∀ b o, hp.get? b = some o → ((hp.push (PySem.W.kdv_tup us)).push (PySem.HandSPX.excO C hp.objs.size)).get? b = some o := fun b o z => Heap.get?_push_of_some _ (Heap.get?_push_of_some _ z)
  have there : ((hp.push (PySem.W.kdv_tup us)).push (PySem.HandSPX.excO C hp.objs.size)).get? (hp.objs.size + 1) = some (PySem.HandSPX.excO C hp.objs.size) := by heap_get
  have J2 := J.laid (t' := tk) (a := hp.objs.size + 1) (o := exo (hp.objs.size + 1) C none) (h' := (hp.push (PySem.W.kdv_tup us)).push (PySem.HandSPX.excO C hp.objs.size)) kk up (exo_ok there)
  have q2 := q1 (hp.objs.size + 1) free
  rw [List.append_nil] at q2
  have r2 : Vals (V.ref (hp.objs.size + 1) :: vs) (Value.ref (hp.objs.size + 1) :: us) := .cons rfl r
  have len : (Value.ref (hp.objs.size + 1) :: us ++ []).length = ps.length := by
    rw [List.append_nil]
    exact (r2.length.symm.trans (G.len _ _ _ _ q2))
  have fits : us.length ≤ sizeLine := by rw [← Paired.length r, sizeLine_eq]; omega
  have bind := hb ⟨(hp.push (PySem.W.kdv_tup us)).push (PySem.HandSPX.excO C hp.objs.size), g, dr, tk, os⟩ (Value.ref (hp.objs.size + 1) :: us) J2.kIn len
  rw [List.append_nil] at bind
  refine wpAny_call (PySem.HandSPX.call_own BF hT hC (PySem.W.looks_findIn J.kIn iC) (fun self => PySem.W.bind_fn J.kIn self tI) fits
    (codeAny_mono (G.run _ X.stack _ _ ⟨Value.ref (hp.objs.size + 1) :: us, []⟩ _ _ _ (fun _ _ _ => False) (hr.make C us []) (J2.env0.make C us []) bind r2 q2) fun r s' hq => ?_))
  match r, hq with
  | .error er, hq => exact hx pins σ _ _ er s' J2 hq
  | .ok .next, hq => exact False.elim hq
  | .ok .brk, hq => exact False.elim hq
  | .ok .cont, hq => exact False.elim hq
  | .ok (.ret u), ⟨v, H2, os2, bare2, un2, hok2, rv, ev, d, fs, ea, ed, hd1, q3⟩ =>
    subst ev
    obtain ⟨h2, g2, d2, t2, os'⟩ := s'
    exact ⟨rv, mk_end (raises_own T.exC T.tyC) J up kk un2 hok2 os2 bare2 ea ed hd1 q3⟩
end
/-- all that is asked of an own exception class -/
structure ExT (K : PySem.W.Frag) (newId initId : String) (bmB : List Value) (C : Addr) : Prop where
  o : OexB K newId initId bmB C
  ga : PySem.W.findIn K (.ref C) "__getattribute__" = some (some (.builtin "BaseException.__getattribute__"))
  gg : PySem.W.findIn K (.ref C) "__getattr__" = some none
  cl : PySem.W.findIn K (.ref C) "__class__" = some (some (.builtin "object.__class__"))
  hm : PySem.W.mroIn K C (.type "object") = some true
structure ClassGet (K : PySem.W.Frag) : Prop where
  hn : PySem.W.specialIn K (.builtin "object.__class__") "__get__" = some (some (.builtin "getset_descriptor.__get__"))
  ht : PySem.W.takesIn K (.builtin "object.__class__") = some true
theorem ExT.xf {K : PySem.W.Frag} {newId initId : String} {bmB : List Value} {C : Addr} (T : ExT K newId initId bmB C) : XfC K C := ⟨T.ga, T.gg, T.o.exC, T.o.hd⟩
/-- an except clause's class -/
theorem ExT.exm {K : PySem.W.Frag} {n1 n2 i1 i2 : String} {b1 b2 : List Value} {C D : Addr} {b : Bool} (_T : ExT K n1 i1 b1 C) (S : ExT K n2 i2 b2 D) (h : PySem.W.subIn K (.ref C) (.ref D) = some b) : PySem.W.exmOne K (.ref C) (.ref D) = some b :=
  PySem.W.exm_ref S.o.exC S.o.hd S.o.tyC h
/-- isinstance(e, c), e the exception that the suite holds: its class D and dict are told -/
def rIsX (K : PySem.W.Frag) (cls : Value) (d : Option Addr) (a : Addr) : List V → Hp → VK → Prop := fun xs H Q => ∃ (D : Addr) (c : V) (cv : Value) (b : Bool), cls = .ref D ∧ (∃ n i m, ExT K n i m D) ∧ ClassGet K ∧ xs = [.ref a, c] ∧ (∀ u, RelV c u → u = cv) ∧ PySem.W.kitOne K (.ref D) cv = some b ∧
  (∀ dd, d = some dd → ∃ fs, H dd = some (.xd fs)) ∧ Q (.bl b) H
theorem i_isX {K : PySem.W.Frag} {a D : Addr} {d : Option Addr} {c : V} {cv : Value} {b : Bool} {n i : String} {m : List Value} {H : Hp} {Q : VK} (T : ExT K n i m D) (G : ClassGet K) (h : ∀ u, RelV c u → u = cv) (k : PySem.W.kitOne K (.ref D) cv = some b) (hd : ∀ dd, d = some dd → ∃ fs, H dd = some (.xd fs)) (q : Q (.bl b) H) :
    rIsX K (.ref D) d a [.ref a, c] H Q := ⟨D, c, cv, b, rfl, ⟨n, i, m, T⟩, G, rfl, h, k, hd, q⟩
theorem rel_ref {a : Addr} : ∀ u, RelV (.ref a) u → u = Value.ref a := fun u r => r
theorem rel_ty {n : String} : ∀ u, RelV (.ty n) u → u = Value.type n := fun u r => r
theorem hasD {K : PySem.W.Frag} {C : Addr} (h : PySem.W.hasDictIn K C = true) : (PySem.W.clsIn K C).isSome = true := by
  obtain ⟨cd, hc, _⟩ := PySem.W.any_some h
  rw [hc]; rfl
theorem call_isX {X : Cx} {a : Addr} {cls : Value} {d : Option Addr} {oe : Obj} {pn : List (Addr × Obj)} (hz : Zc cls d oe) (hf : ∃ vs, oe.data = .fields vs) : CallR (X.suite a ((a, oe) :: pn)) (.builtin "isinstance") (rIsX X.K cls d a) := by
  intro pins s σ H xs us Q I r h
  obtain ⟨D, c, cv, b, rfl, ⟨_, _, _, T⟩, G, rfl, hcv, k, hd, q⟩ := h
  obtain ⟨u1, u2, rfl, r1, r2⟩ : ∃ u1 u2, us = [u1, u2] ∧ RelV (.ref a) u1 ∧ RelV c u2 := by
    cases r with
    | cons r1 r => cases r with
      | cons r2 r => cases r; exact ⟨_, _, rfl, r1, r2⟩
  cases r1
  obtain rfl := hcv _ r2
  obtain ⟨there, _⟩ := I.pin (a, oe) (List.mem_append.mpr (.inl List.mem_cons_self))
  obtain ⟨vs, hv⟩ := hf
  have nc : PySem.W.notCls oe = true := by unfold PySem.W.notCls; rw [hv] <;> rfl
  have J : ∃ od, PySem.W.InstAt s.heap a oe D od := by
    cases d with
    | none => exact ⟨none, there, hz.1, nc, by rw [hz.2]; trivial⟩
    | some dd =>
      obtain ⟨fs, e⟩ := hd dd rfl
      obtain ⟨mA, ⟨o, es, ep, ho, _⟩, _⟩ : ObjOk X.prog X.w H s.heap dd (.xd fs) := I.hok dd _ e
      exact ⟨some o, there, hz.1, nc, by rw [hz.2]; exact ho⟩
  obtain ⟨od, J⟩ := J
  exact PySem.W.kia_one (PySem.W.kitx_exc (hasD T.o.hd) T.ga T.gg T.o.exC T.cl G.hn G.ht T.hm) I.kIn J k (fun z => nomatch z) fun tk => ⟨.bl b, H, I.kept (t' := tk) fun _ _ z => z, rfl, q⟩
/-- repr within an except suite -/
theorem call_reprS {X : Cx} {a : Addr} {pn : List (Addr × Obj)} {k : Nat} (hr : Rg k X.A) : CallR (X.suite a pn) (.builtin "repr") (rRepr X.K) :=
  call_reprD (X := X.suite a pn) hr.gd (by have := hr.room.un; show X.A.units + 100 < cLine; omega)
/-! ### readings -/
section
variable {K : PySem.W.Frag} {σ : L2.St} {H : Hp} {Q : VK} {newId initId : String} {bmB : List Value}
theorem i_bi {ta : TA} (q : ta σ H fun vs H1 => ∃ (a C : Addr) (ws : List V), vs = .ref a :: ws ∧ ws.length ≤ 1000 ∧ OexB K newId initId bmB C ∧ H1 a = some (exo a C none) ∧ Q .non H1) : tBI K newId initId bmB ta σ H Q := q
theorem i_stB {f : Str} {to te : TE} {nx bk ct : L2.St → Hp → Prop} (q : te σ H fun y H1 => to σ H1 fun x H2 => ∃ a C : Addr, x = .ref a ∧ OexB K newId initId bmB C ∧ PySem.W.takerIn K C f = some none ∧
    ((H2 a = some (exo a C none) ∧ ∀ dx, H2 dx = none → dx ≠ a → nx σ (L2.upd (L2.upd H2 dx (exd dx [(f, y)])) a (exo a C (some dx)))) ∨
      ∃ (dx : Addr) (fs : List (Str × V)), H2 a = some (exo a C (some dx)) ∧ H2 dx = some (exd dx fs) ∧ fs.length ≤ 900 ∧ nx σ (L2.upd H2 dx (exd dx ((f, y) :: fs))))) : tStB K newId initId bmB f to te ⟨nx, Q, bk, ct⟩ σ H := q
/-- what an __init__ promises that stores its arguments, in order, as the fields fs -/
def spI (C : Addr) (fs : List Str) : Sp := fun vs H Q _ => ∃ (a : Addr) (ws : List V), vs = .ref a :: ws ∧ ws.length = fs.length ∧ H a = some (exo a C none) ∧
  ∀ d H', H d = none → d ≠ a → H' a = some (exo a C (some d)) → H' d = some (exd d (fs.zip ws).reverse) → (∀ b, b ≠ a → b ≠ d → H' b = H b) → Q .non H'
/-- C(..) that is raised: what is asked behind the arguments -/
def MkR (C : Addr) (sp : Sp) (vs : List V) (H1 : Hp) (W : XK) : Prop := vs.length ≤ 1000 ∧ ∀ a, H1 a = none → sp (.ref a :: (vs ++ [])) (L2.upd H1 a (exo a C none))
  (fun v H2 => v = .non ∧ ∃ (d : Addr) (fs : List (Str × V)), H2 a = some (exo a C (some d)) ∧ H2 d = some (exd d fs) ∧ H1 d = none ∧ W (.ref C) (some d) (L2.upd (del H2 a) d (.xd fs))) (fun _ _ _ => False)
theorem i_mk0 {C : Addr} {sp : Sp} {ta : TA} {W : XK} (q : ta σ H fun vs H1 => MkR C sp vs H1 W) : tMkO C sp [] ta σ H W := q
/-- .. over a heap that is told by what it holds -/
theorem i_mkR {C : Addr} {fs : List Str} {vs : List V} {W : XK} (hl : vs.length = fs.length) (few : fs.length ≤ 1000) (h : ∀ d H2, H d = none → Same H H2 → H2 d = some (.xd (fs.zip vs).reverse) → W (.ref C) (some d) H2) : MkR C (spI C fs) vs H W := by
  refine ⟨by omega, fun a ha => ⟨a, vs, by rw [List.append_nil], hl, upd_same, fun d H' hd ne ea ed off => ⟨rfl, d, _, ea, ed, by rwa [upd_ne ne] at hd, ?_⟩⟩⟩
  rw [upd_ne ne] at hd
  refine h d _ hd (fun b o e => ?_) upd_same
  have n1 : b ≠ a := ne_of_none e ha
  have n2 : b ≠ d := ne_of_none e hd
  rw [upd_ne n2, del_ne n1, off b n1 n2, upd_ne n1]
  exact e
end
def tRaise (t : L2.St → Hp → XK → Prop) (W : WX) : TS := fun _ σ H => t σ H fun cls d H' => W cls d σ H'
theorem ps_raiseN {X : Cx} {W : WX} {e : Expr} {t : L2.St → Hp → XK → Prop} {pos : Pos} (hc : X.calm = true) (tk : Takes X W) (he : PMk X e t) : PS X (.Raise (some e) none pos) (tRaise t W) := ps_raise hc tk he
theorem i_raise {t : L2.St → Hp → XK → Prop} {W : WX} {D : Ends} {σ : L2.St} {H : Hp} (q : t σ H fun cls d H' => W cls d σ H') : tRaise t W D σ H := q
/-- a call that may raise, in a try's body -/
def tCallX (sp : Sp) (E : L2.St → XK) (t : TA) : TE := fun σ H Q => t σ H fun vs H1 => sp vs H1 Q (E σ)
theorem pe_callX {X : Cx} {CX : CXT} {k : Nat} {f : Addr} {fd : FuncData} {ps : List Str} {sp : Sp} {E : L2.St → XK} {x : Str} {p pos : Pos} {e : Expr} {es : List Expr} {t : TA} (F : FnOk X.prog X.w X.K X.mg X.base CX k f fd ps sp) (hr : Room k X.A) (hg : Gl X x) (hm : X.mg x = some (.ref f))
    (hk : PySem.W.keepIn X.K (.ref f) = true) (hb : Binds X.K fd ps []) (hx : ∀ σ, PassesAt CX X σ (E σ)) (ha : PA X (e :: es) t) (hdb : (x == ("__debug__" : Str)) = false := by decide)
    (he : starEach (e :: es) X.env = (false, eval e X.env) :: starEach es X.env := by rfl) (hpl : (backTo pos (starEach es X.env)).any (·.1) = false := by rfl) : PE X (.Call (.Name x p) (e :: es) [] pos) (tCallX sp E t) :=
  pe_callS F hr hg hm hk hb hx ha hdb he hpl
theorem i_callX {sp : Sp} {E : L2.St → XK} {t : TA} {σ : L2.St} {H : Hp} {Q : VK} (q : t σ H fun vs H1 => sp vs H1 Q (E σ)) : tCallX sp E t σ H Q := q
/-- try: tb / except c as n (slot i): ts -/
def tTryAs (K : PySem.W.Frag) (c : Value) (i : Nat) (tb : WX → TS) (ts : Addr → Value → Option Addr → TS) (Wout : WX) : TS := fun D σ H => tb (wAs K c i ts Wout D) D σ H
theorem ps_tryN {X : Cx} {x n : Str} {c : Value} {i : Nat} {body suite : List Stmt} {b₀ : Stmt} {np pos pos' : Pos} {tb : WX → TS} {ts : Addr → Value → Option Addr → TS} {Wout : WX} (hs : X.stack = X.env :: X.outer) (hf : X.env.frame = some X.env.locals) (hN : X.N.Nodup) (hi : X.N[i]? = some n) (hln : X.env.kindOf n = some .local)
    (hc : Names X x c) (tk : Takes X Wout) (hb : ∀ (W : WX) (pn : List (Addr × Obj)) (xe : Value → Shared → Prop), Takes (X.tr pn xe) W → PassesOwn (model X.prog X.w) X.A X.env xe → PSs (X.tr pn xe) body (tb W))
    (hsu : ∀ (a : Addr) (oe : Obj) (cls : Value) (d : Option Addr) (pn : List (Addr × Obj)), Zc cls d oe → (∃ vs, oe.data = .fields vs) → PSs (X.suite a ((a, oe) :: pn)) (b₀ :: suite) (ts a cls d)) :
    PS X (.Try body [.ExceptHandler (some (.Name x np)) (some n) (b₀ :: suite) pos'] [] [] pos) (tTryAs X.K c i tb ts Wout) := ps_try_as hs hf hN hi hln hc tk hb hsu
theorem i_tryN {K : PySem.W.Frag} {c : Value} {i : Nat} {tb : WX → TS} {ts : Addr → Value → Option Addr → TS} {Wout : WX} {D : Ends} {σ : L2.St} {H : Hp} (q : tb (wAs K c i ts Wout D) D σ H) : tTryAs K c i tb ts Wout D σ H := q
/-- the clause takes it -/
theorem i_took {K : PySem.W.Frag} {c cls : Value} {i : Nat} {ts : Addr → Value → Option Addr → TS} {Wout : WX} {D : Ends} {σ : L2.St} {H : Hp} {d : Option Addr} (e : PySem.W.exmOne K cls c = some true)
    (q : ∀ a, H a = none → ts a cls d { nx := fun σ' H' => D.nx (σ'.set i none) H', rt := D.rt, bk := fun σ' H' => D.bk (σ'.set i none) H', ct := fun σ' H' => D.ct (σ'.set i none) H' } (σ.set i (some (.ref a))) H) : WE (wAs K c i ts Wout D) σ cls d H :=
  ⟨true, e, fun _ => q, fun z => Bool.noConfusion z⟩
/-- e.n, e the exception that the suite holds -/
def tXn (K : PySem.W.Frag) (a : Addr) (cls : Value) (d : Option Addr) (n : Str) (te : TE) : TE := fun σ H Q => ∃ C : Addr, cls = .ref C ∧ XfC K C ∧ PySem.W.findIn K (.ref C) n = some none ∧ tXf a cls d C n te σ H Q
theorem pe_xfN {X : Cx} {a : Addr} {oe : Obj} {cls : Value} {d : Option Addr} {pn : List (Addr × Obj)} {e : Expr} {te : TE} {pos : Pos} {n : Str} (hz : Zc cls d oe) (hf : ∃ vs, oe.data = .fields vs) (he : PE (X.suite a ((a, oe) :: pn)) e te)
    (hb : attributeBase e n X.env (eval e X.env) = eval e X.env := by rfl) : PE (X.suite a ((a, oe) :: pn)) (.Attribute e n pos) (tXn X.K a cls d n te) :=
  ⟨fun pins s σ H Q I ⟨_, _, T, hno, q⟩ => (pe_xf T hno hz hf he hb).run pins s σ H Q I q⟩
theorem i_xfN {K : PySem.W.Frag} {a C dd : Addr} {n : Str} {te : TE} {σ : L2.St} {H : Hp} {Q : VK} (T : XfC K C) (hno : PySem.W.findIn K (.ref C) n = some none)
    (q : te σ H fun x H1 => x = .ref a ∧ ∃ (fs : List (Str × V)) (v : V), H1 dd = some (.xd fs) ∧ fs.lookup n = some v ∧ Q v H1) (mono : ∀ Q Q' : VK, (∀ v H, Q v H → Q' v H) → te σ H Q → te σ H Q') : tXn K a (.ref C) (some dd) n te σ H Q :=
  ⟨C, rfl, T, hno, mono _ _ (fun x H1 ⟨e, fs, v, h1, h2, h3⟩ => ⟨e, rfl, dd, fs, v, rfl, h1, h2, h3⟩) q⟩
/-- .. at a slot -/
theorem i_xfV {K : PySem.W.Frag} {a C dd : Addr} {n : Str} {i : Nat} {σ : L2.St} {H : Hp} {Q : VK} {fs : List (Str × V)} {v : V} (T : XfC K C) (hno : PySem.W.findIn K (.ref C) n = some none) (h : σ[i]? = some (some (.ref a))) (e : H dd = some (.xd fs)) (l : fs.lookup n = some v) (q : Q v H) :
    tXn K a (.ref C) (some dd) n (tVar i) σ H Q := ⟨C, rfl, T, hno, .ref a, h, rfl, rfl, dd, fs, v, rfl, e, l, q⟩
end KX

namespace KX
open PySem PySem.Spec PyProof.Rows L2
/-! ### further readings: texts, is, == of data -/
def rIsN : R2 := fun x y H Q => y = .non ∧ Q (.bl (decide (x = .non))) H
def rIsNotN : R2 := fun x y H Q => y = .non ∧ Q (.bl (!decide (x = .non))) H
theorem op_isNN {X : Cx} : OpR X (compareOp .Is) rIsN := op_isN
theorem op_notNN {X : Cx} : OpR X (compareOp .IsNot) rIsNotN := op_notN
def rSplit : V → List V → Hp → VK → Prop := fun x xs H Q => ∃ a b, x = .str a ∧ xs = [.str b] ∧ (b.length == 0) = false ∧ a.length + 2 ≤ sizeLine ∧ NewR H (.lst ((Txt.split a b).map V.str)) Q
theorem pe_splitN {X : Cx} {o e : Expr} {to te : TE} {apos pos : Pos} (ho : PE X o to) (he : PE X e te) (hs : starEach [e] X.env = [(false, eval e X.env)] := by rfl) (hbase : attributeBase o "split" X.env (eval o X.env) = eval o X.env := by rfl) (hline : (apos.endLine == pos.line) = true := by rfl) :
    PE X (.Call (.Attribute o "split" apos) [e] [] pos) (tM1 rSplit to te) := pe_split ho he hs hbase hline
def rFind : V → List V → Hp → VK → Prop := fun x xs H Q => ∃ a b, x = .str a ∧ xs = [.str b] ∧ Q (.int (Txt.find a b)) H
theorem pe_findN {X : Cx} {o e : Expr} {to te : TE} {apos pos : Pos} (ho : PE X o to) (he : PE X e te) (hs : starEach [e] X.env = [(false, eval e X.env)] := by rfl) (hbase : attributeBase o "find" X.env (eval o X.env) = eval o X.env := by rfl) (hline : (apos.endLine == pos.line) = true := by rfl) :
    PE X (.Call (.Attribute o "find" apos) [e] [] pos) (tM1 rFind to te) := pe_m1 PySem.F.slot_str_find PySem.F.type_str_find mt_find ho he hs hbase hline
def rStrI : List V → Hp → VK → Prop := fun xs H Q => ∃ i, xs = [.int i] ∧ i.natAbs.log2 < 1920 ∧ Q (.str (toString i)) H
theorem call_strI {X : Cx} : CallR X (.type "str") rStrI := call_str_int
def rIntS : List V → Hp → VK → Prop := fun xs H Q => ∃ a n, xs = [.str a] ∧ PySem.intText? a = some n ∧ a.length ≤ 640 ∧ Q (.int n) H
theorem call_intS {X : Cx} : CallR X (.type "int") rIntS := call_int_str
/-- f'..{x}..' -/
def tFmtN (te : TE) : TE := fun σ H Q => te σ H fun x H1 => ((∃ y : Str, x = .str y ∧ y.length ≤ sizeLine ∧ Q (.str y) H1) ∨ ∃ i : Int, x = .int i ∧ i.natAbs.log2 < 1920 ∧ Q (.str (toString i)) H1)
def FmR (x : V) (H : Hp) (Q : VK) : Prop := (∃ y : Str, x = .str y ∧ y.length ≤ sizeLine ∧ Q (.str y) H) ∨ ∃ i : Int, x = .int i ∧ i.natAbs.log2 < 1920 ∧ Q (.str (toString i)) H
def tJn (ts : List TE) : TE := fun σ H Q => tJs ts Str.empty σ H fun out H1 => Q (.str out) H1
theorem pe_joinedN {X : Cx} {v1 v2 : Expr} {rest : List Expr} {ts : List TE} {pos : Pos} (h : PJ X (v1 :: v2 :: rest) ts) : PE X (.JoinedStr (v1 :: v2 :: rest) pos) (tJn ts) := pe_joined h
def JsR (ts : List TE) (acc : Str) (σ : L2.St) (R : Str → Hp → Prop) (x : V) (H : Hp) : Prop := ∃ y : Str, x = .str y ∧ (acc ++ y).length ≤ sizeLine ∧ tJs ts (acc ++ y) σ H R
/-- text[::-1] -/
def tRevS (te : TE) : TE := fun σ H Q => te σ H fun x H1 => ∃ z : Str, x = .str z ∧ z.length ≤ sizeLine ∧ Q (.str ⟨z.cps.toList.reverse.toArray⟩) H1
def tRevLN (K : PySem.W.Frag) (te : TE) : TE := fun σ H Q => te σ H fun x H1 => ∃ a xs, x = .ref a ∧ SqL K H1 a xs ∧ NewR H1 (.lst xs.reverse) Q
theorem pe_revLN {X : Cx} {e : Expr} {te : TE} {k : Nat} {p1 p2 p3 pos : Pos} (he : PE X e te) : PE X (.Subscript e (.Slice none none (some (.UnaryOp .USub (.Constant (.int 1) k p1) p2)) p3) pos) (tRevLN X.K te) := pe_revL he
theorem shaped_lay {d : PyData} (h : SeqAt.shaped d = true) : d.canLay0 = true := by
  unfold SeqAt.shaped at h
  exact (Bool.and_eq_true_iff.mp h).1
section
variable {K : PySem.W.Frag} {σ : L2.St} {H : Hp} {Q : VK}
theorem i_isNon {x : V} (q : Q (.bl (decide (x = .non))) H) : rIsN x .non H Q := ⟨rfl, q⟩
theorem i_isNotNon {x : V} (q : Q (.bl (!decide (x = .non))) H) : rIsNotN x .non H Q := ⟨rfl, q⟩
theorem i_split {a b : Str} (h : (b.length == 0) = false) (z : a.length + 2 ≤ sizeLine) (q : NewR H (.lst ((Txt.split a b).map V.str)) Q) : rSplit (.str a) [.str b] H Q := ⟨a, b, rfl, rfl, h, z, q⟩
theorem i_find {a b : Str} (q : Q (.int (Txt.find a b)) H) : rFind (.str a) [.str b] H Q := ⟨a, b, rfl, rfl, q⟩
theorem i_strI {i : Int} (h : i.natAbs.log2 < 1920) (q : Q (.str (toString i)) H) : rStrI [.int i] H Q := ⟨i, rfl, h, q⟩
theorem i_intS {a : Str} {n : Int} (h : PySem.intText? a = some n) (z : a.length ≤ 640) (q : Q (.int n) H) : rIntS [.str a] H Q := ⟨a, n, rfl, h, z, q⟩
theorem i_fmt {te : TE} (q : te σ H fun x H1 => FmR x H1 Q) : tFmt te σ H Q := q
theorem i_fmS {y : Str} (h : y.length ≤ sizeLine) (q : Q (.str y) H) : FmR (.str y) H Q := .inl ⟨y, rfl, h, q⟩
theorem i_fmI {i : Int} (h : i.natAbs.log2 < 1920) (q : Q (.str (toString i)) H) : FmR (.int i) H Q := .inr ⟨i, rfl, h, q⟩
theorem i_jn {ts : List TE} (q : tJs ts Str.empty σ H fun out H1 => Q (.str out) H1) : tJn ts σ H Q := q
theorem i_js0 {acc : Str} {R : Str → Hp → Prop} (q : R acc H) : tJs [] acc σ H R := q
theorem i_js1 {t : TE} {ts : List TE} {acc : Str} {R : Str → Hp → Prop} (q : t σ H fun x H1 => JsR ts acc σ R x H1) : tJs (t :: ts) acc σ H R := q
theorem i_jsR {y : Str} {ts : List TE} {acc : Str} {R : Str → Hp → Prop} (z : (acc ++ y).length ≤ sizeLine) (q : tJs ts (acc ++ y) σ H R) : JsR ts acc σ R (.str y) H := ⟨y, rfl, z, q⟩
theorem i_revS {te : TE} (q : te σ H fun x H1 => ∃ z : Str, x = .str z ∧ z.length ≤ sizeLine ∧ Q (.str ⟨z.cps.toList.reverse.toArray⟩) H1) : tRevS te σ H Q := q
theorem i_exrev {z : Str} {R : Prop} (h : z.length ≤ sizeLine) (q : Q (.str ⟨z.cps.toList.reverse.toArray⟩) H) : ∃ z' : Str, V.str z = .str z' ∧ z'.length ≤ sizeLine ∧ Q (.str ⟨z'.cps.toList.reverse.toArray⟩) H := ⟨z, rfl, h, q⟩
theorem i_revL {te : TE} (q : te σ H fun x H1 => ∃ a xs, x = .ref a ∧ SqL K H1 a xs ∧ NewR H1 (.lst xs.reverse) Q) : tRevLN K te σ H Q := q
theorem i_exrevL {a : Addr} {xs : List V} (h : SqL K H a xs) (q : NewR H (.lst xs.reverse) Q) : ∃ a' xs', V.ref a = .ref a' ∧ SqL K H a' xs' ∧ NewR H (.lst xs'.reverse) Q := ⟨a, xs, rfl, h, q⟩
theorem i_par3 {i j l : Nat} {t : TA} {f g1 k : L2.St → Hp → Prop} (q : t σ H fun vs H1 => ∃ u v w, vs = [u, v, w] ∧ f (((σ.set i (some u)).set j (some v)).set l (some w)) H1) : tPar3 i j l t ⟨f, Q, g1, k⟩ σ H := q
theorem i_ex3 {R : V → V → V → Prop} {u v w : V} (q : R u v w) : ∃ u' v' w', [u, v, w] = [u', v', w'] ∧ R u' v' w' := ⟨u, v, w, rfl, q⟩
theorem i_neD {b c : Bool} {x y : V} {d e : PyData} (h : DaF b K H x d) (k : DaF c K H y e) (hd : d.hasDict = false) (he : e.hasDict = false) (sd : SeqAt.shaped d = true) (se : SeqAt.shaped e = true) (q : Q (.bl (!PyData.eqv d e)) H) : rNeD K x y H Q :=
  ⟨d, e, h.dp hd, k.dp he, sd, se, q⟩
/-- the same data -/
theorem i_neDsame {b c : Bool} {x y : V} {d : PyData} (h : DaF b K H x d) (k : DaF c K H y d) (hd : d.hasDict = false) (sd : SeqAt.shaped d = true) (q : Q (.bl false) H) : rNeD K x y H Q :=
  i_neD h k hd hd sd sd (by rw [SeqAt.eqv_refl _ (shaped_lay sd)]; exact q)
end
theorem rev_signs (z : Str) : (Builtin.Str.strSliceIndices none none (-1) z.length).filterMap (z.cps[·]?) = z.cps.toList.reverse := by
  have e : Builtin.Str.strSliceIndices none none (-1) z.length = sliceRange ((z.length : Int) - 1) (-1) (-1) := rfl
  rw [e, PySem.W.krv_sliceRange, PySem.W.krv_range, List.filterMap_reverse]
  exact congrArg List.reverse (PySem.W.krv_all z.cps)
theorem pe_revS {X : Cx} {e : Expr} {te : TE} {k : Nat} {p1 p2 p3 pos : Pos} (he : PE X e te) : PE X (.Subscript e (.Slice none none (some (.UnaryOp .USub (.Constant (.int 1) k p1) p2)) p3) pos) (tRevS te) := by
  refine ⟨fun pins s σ H Q I h => ?_⟩
  refine Subscript_ (thn (he.run pins s σ H _ I h) fun v s1 ⟨x, H1, I1, r1, z, ex, hz, q⟩ => ?_)
  subst ex
  obtain ⟨t, rfl⟩ := r1
  have step : PO X (some (.UnaryOp .USub (.Constant (.int 1) k p1) p2)) (tPart (tUn (rU fun i => .int (-i)) (tC (.int 1)))) := po_some (pe_un un_neg pe_int)
  refine wpAny_Slice (thn (po_none.run pins s1 σ H1 (fun o G => o = none ∧ G = H1) I1 ⟨rfl, rfl⟩) fun vl s2 ⟨l, G2, J2, pl, el, e2⟩ => ?_)
  subst el e2
  refine thn (po_none.run pins s2 σ G2 (fun o G => o = none ∧ G = G2) J2 ⟨rfl, rfl⟩) fun vu s3 ⟨u, G3, J3, pu, eu, e3⟩ => ?_
  subst eu e3
  refine thn (step.run pins s3 σ G3 (fun o G => o = some (-1) ∧ G = G3) J3 ⟨1, rfl, -1, rfl, rfl, rfl⟩) fun vs s4 ⟨o, G4, J4, ps, eo, e4⟩ => ?_
  subst eo e4
  have J5 : Inv X pins σ G4 { s4 with heap := s4.heap.push { cls := .type "slice", data := .fields #[vl, vu, vs] } } := J4.kept (t' := s4.toks) fun b ob q => Heap.get?_push_of_some _ q
  obtain ⟨l', rfl, e1⟩ := IsPart.raw pl
  obtain ⟨u', rfl, e2⟩ := IsPart.raw pu
  obtain ⟨c', rfl, e3⟩ := IsPart.raw ps
  cases l' with
  | some _ => cases e1
  | none => cases u' with
    | some _ => cases e2
    | none => cases c' with
      | none => cases e3
      | some c =>
        obtain ⟨c, tc⟩ := c
        cases e3
        show wpAny (model X.prog X.w) X.A (subscriptTail e (.Slice none none (some (.UnaryOp .USub (.Constant (.int 1) k p1) p2)) p3) (.str z t) (.ref s4.heap.objs.size)) (EP X pins σ Q) X.xe { s4 with heap := s4.heap.push { cls := .type "slice", data := .fields #[partValue none, partValue none, partValue (some (-1, tc))] } }
        refine tail_any (ops := [.ref s4.heap.objs.size, .str z t]) (PySem.typeIs_str _ _ _) (PySem.F.slot_str_getitem.lookup) ?_ (by with_unfolding_all rfl)
        refine wpAny_getItem_str_slice (l := none) (u := none) (st := some (-1, tc)) ⟨_, Heap.get?_push_size _ rfl, rfl, rfl⟩ rfl ?_
        show Made.post (if ((-1 : Int) == 1 && _) = true then Made.val (.str z t) else Made.str ⟨((Builtin.Str.strSliceIndices none none (-1) z.length).filterMap (z.cps[·]?)).toArray⟩) _ _
        rw [if_neg (by rw [show ((-1 : Int) == 1) = false from rfl, Bool.false_and]; exact Bool.false_ne_true), rev_signs]
        refine ⟨?_, .str _, G4, J5.tok _, ⟨_, rfl⟩, q⟩
        show (z.cps.toList.reverse.toArray).size ≤ sizeLine
        rw [List.size_toArray, List.length_reverse]; exact hz
end KX

namespace KX
open PySem PySem.Spec PyProof.Rows L2
/-! ### versions and windows as data -/
def verD : PyData → Bool
  | .int i => decide (0 ≤ i)
  | _ => false
def winP : PyData → Option (Int × Option Int)
  | .tuple [.int l, .none] => if 0 ≤ l then some (l, none) else none
  | .tuple [.int l, .int h] => if 0 ≤ l ∧ 0 ≤ h ∧ l ≤ h then some (l, some h) else none
  | _ => none
def winB (d : PyData) : Bool := (winP d).isSome
def isN : PyData → Bool
  | .none => true
  | _ => false
def leD : PyData → PyData → Bool
  | .int i, .int k => decide (i ≤ k)
  | _, _ => false
theorem winB_two (a b : PyData) : winB (.tuple [a, b]) = (verD a && (isN b || (verD b && leD a b))) := by
  unfold winB winP verD isN leD
  cases a <;> cases b <;> simp
  all_goals (split <;> simp_all <;> omega)
theorem winB_len {ds : List PyData} (h : ds.length ≠ 2) : winB (.tuple ds) = false := by
  match ds, h with
  | [], _ => rfl
  | [_], _ => cases ‹PyData› <;> rfl
  | [_, _], h => exact absurd rfl h
  | a :: b :: c :: r, _ =>
    unfold winB
    cases a <;> cases b <;> rfl
theorem da_non {b : Bool} {K : PySem.W.Frag} {H : Hp} {v : V} {d : PyData} (h : DaF b K H v d) : decide (v = .non) = isN d := by cases h <;> rfl
theorem verD_int {b : Bool} {K : PySem.W.Frag} {H : Hp} {v : V} {d : PyData} (h : DaF b K H v d) (k : verD d = true) : ∃ i, v = .int i ∧ d = .int i ∧ 0 ≤ i := by
  cases h <;> first | cases k | exact ⟨_, rfl, rfl, of_decide_eq_true k⟩
theorem da_two {b : Bool} {K : PySem.W.Frag} {H : Hp} {xs : List V} {ds : List PyData} (h : DaAllF b K H xs ds) (l : ds.length = 2) : ∃ x1 x2 d1 d2, xs = [x1, x2] ∧ ds = [d1, d2] ∧ DaF b K H x1 d1 ∧ DaF b K H x2 d2 := by
  cases h with
  | nil => cases l
  | cons h1 h => cases h with
    | nil => cases l
    | cons h2 h => cases h with
      | nil => exact ⟨_, _, _, _, rfl, rfl, h1, h2⟩
      | cons _ _ => simp at l
/-- a window as data -/
def hiD : Option Int → PyData
  | none => .none
  | some h => .int h
def hiV : Option Int → V
  | none => .non
  | some h => .int h
def winD (w : Int × Option Int) : PyData := .tuple [.int w.1, hiD w.2]
def okW (w : Int × Option Int) : Prop := 0 ≤ w.1 ∧ ∀ h, w.2 = some h → w.1 ≤ h
theorem winP_D {w : Int × Option Int} (h : okW w) : winP (winD w) = some w := by
  obtain ⟨l, hi⟩ := w
  obtain ⟨h1, h2⟩ := h
  cases hi with
  | none => show (if 0 ≤ l then _ else _) = _; rw [if_pos h1]
  | some k =>
    have := h2 k rfl
    show (if 0 ≤ l ∧ 0 ≤ k ∧ l ≤ k then _ else _) = _
    rw [if_pos ⟨h1, by omega, this⟩]
theorem winP_some {d : PyData} {w : Int × Option Int} (h : winP d = some w) : d = winD w ∧ okW w := by
  unfold winP at h
  split at h
  · split at h
    · cases h; exact ⟨rfl, by assumption, fun k e => nomatch e⟩
    · cases h
  · split at h
    · next c => cases h; exact ⟨rfl, c.1, fun k e => by cases e; exact c.2.2⟩
    · cases h
  · cases h
theorem da_hi {b : Bool} {K : PySem.W.Frag} {H : Hp} : ∀ {o : Option Int} {v : V}, DaF b K H v (hiD o) → v = hiV o
  | none, _, h => by cases h; rfl
  | some _, _, h => by cases h; rfl
/-- a window among the values -/
theorem da_win {b : Bool} {K : PySem.W.Frag} {H : Hp} {w : Int × Option Int} {v : V} (h : DaF b K H v (winD w)) : ∃ a, v = .ref a ∧ SqT K H a [.int w.1, hiV w.2] := by
  cases h with
  | tup hq ha =>
    cases ha with
    | cons h1 r => cases r with
      | cons h2 r =>
        cases r
        cases h1
        have e := da_hi h2
        subst e
        exact ⟨_, rfl, hq⟩
theorem da_hiV {K : PySem.W.Frag} {H : Hp} : ∀ o : Option Int, DaS K H (hiV o) (hiD o)
  | none => DaF.non
  | some h => DaF.int h
theorem da_winT {K : PySem.W.Frag} {H : Hp} {a : Addr} {w : Int × Option Int} (h : SqT K H a [.int w.1, hiV w.2]) : DaS K H (.ref a) (winD w) := DaF.tup h (.cons (DaF.int _) (.cons (da_hiV _) .nil))
def sp_dat (K : PySem.W.Frag) (f : PyData → Bool) : Sp := fun vs H Q _ => ∃ v d, vs = [v] ∧ Da K H v d ∧ ∀ H', Same H H' → Q (.bl (f d)) H'
def sp_req (K : PySem.W.Frag) (f : PyData → Bool) (C : Addr) (n : Str) : Sp := fun vs H Q E => ∃ v d, vs = [v] ∧ Da K H v d ∧ (f d = true → ∀ H', Same H H' → Q .non H') ∧
  (f d = false → ∀ c H', H c = none → Same H H' → H' c = some (.xd [(n, v)]) → E (.ref C) (some c) H')
/-! ### numbers in texts -/
def dg : List Nat := (Str.ofString "0123456789").cps.toList
theorem dg_iff (c : Nat) : c ∈ dg ↔ 48 ≤ c ∧ c ≤ 57 := by
  have e : dg = [48, 49, 50, 51, 52, 53, 54, 55, 56, 57] := by decide +kernel
  rw [e]
  simp only [List.mem_cons, List.not_mem_nil, or_false]
  omega
def digs (x : Str) : Bool := x.cps.toList.all fun c => decide (c ∈ dg)
theorem digs_iff {x : Str} : digs x = true ↔ PySem.NumText.AllDigits x.cps.toList := by
  unfold digs
  rw [List.all_eq_true]
  exact ⟨fun h c hc => (dg_iff c).mp (of_decide_eq_true (h c hc)), fun h c hc => decide_eq_true ((dg_iff c).mpr (h c hc))⟩
def valS (x : Str) : Int := ((PySem.NumText.digitsVal x.cps.toList : Nat) : Int)
/-- decimal without leading zeros -/
def canS (x : Str) : Bool := !(decide (x.cps.toList.head? = some 48) && !decide (x = Str.ofString "0"))
/-- the program's reading: at most sixty digits -/
def pnum (x : Str) : Option Int := if (decide (1 ≤ x.length) && decide (x.length ≤ 60) && digs x) = true then (if canS x = true then some (valS x) else none) else none
theorem intS {x : Str} (h : digs x = true) (h1 : 1 ≤ x.length) (h2 : x.length ≤ 4300) : PySem.intText? x = some (valS x) :=
  PySem.intText_digits (digs_iff.mp h) (fun e => by
    have : x.length = x.cps.toList.length := rfl
    rw [this, e] at h1; simp at h1) h2
def oV : Option Int → V
  | none => .non
  | some i => .int i
theorem str1_eq (c : Nat) : decide (V.str ⟨#[c]⟩ = V.str (Str.ofString "0")) = decide (some c = some 48) := by
  have e : Str.ofString "0" = ⟨#[48]⟩ := by decide +kernel
  rw [e]
  by_cases h : c = 48
  · subst h; rfl
  · rw [decide_eq_false (by simpa using h), decide_eq_false (by simpa using h)]
theorem strV_eq (x y : Str) : decide (V.str x = V.str y) = decide (x = y) := by
  by_cases h : x = y
  · subst h; rw [decide_eq_true rfl, decide_eq_true rfl]
  · rw [decide_eq_false (by simpa using h), decide_eq_false h]
theorem valS_nonneg (x : Str) : 0 ≤ valS x := Int.natCast_nonneg _
/-- the program's reading of a window's text -/
def winAB (b : Str) : Option Int → Option Int → Option (Int × Option Int)
  | some l, some h => if l ≤ h then some (l, some h) else none
  | some l, none => if b = Str.ofString "" then some (l, none) else none
  | none, _ => none
def winS (x : Str) : Option (Int × Option Int) := match Txt.split x (Str.ofString "..") with
  | [a, b] => winAB b (pnum a) (pnum b)
  | _ => none
theorem winS_two {x a b : Str} (h : Txt.split x (Str.ofString "..") = [a, b]) : winS x = winAB b (pnum a) (pnum b) := by unfold winS; rw [h]
theorem winS_not {x : Str} (h : (Txt.split x (Str.ofString "..")).length ≠ 2) : winS x = none := by
  unfold winS
  split
  · next a b e => rw [e] at h; exact absurd rfl h
  · rfl
theorem pnum_nonneg {x : Str} {i : Int} (h : pnum x = some i) : 0 ≤ i := by
  unfold pnum at h
  split at h
  · split at h
    · cases h; exact valS_nonneg x
    · cases h
  · cases h
theorem da_oV {b : Bool} {K : PySem.W.Frag} {H : Hp} : ∀ o : Option Int, DaF b K H (oV o) (hiD o)
  | none => DaF.non
  | some _ => DaF.int _
theorem winS_ok {x : Str} {w : Int × Option Int} (h : winS x = some w) : okW w := by
  unfold winS at h
  split at h
  · next a b _ =>
    cases hl : pnum a with
    | none => rw [hl] at h; cases h
    | some l =>
      cases hk : pnum b with
      | none =>
        rw [hl, hk] at h
        unfold winAB at h
        dsimp only at h
        split at h
        · cases h; exact ⟨pnum_nonneg hl, fun k e => nomatch e⟩
        · cases h
      | some k =>
        rw [hl, hk] at h
        unfold winAB at h
        dsimp only at h
        split at h
        · cases h; exact ⟨pnum_nonneg hl, fun k e => by cases e; assumption⟩
        · cases h
  · cases h
/-- what is written of a window -/
def fmtS (w : Int × Option Int) : Str := match w.2 with
  | none => Str.empty ++ (toString w.1 : String) ++ ".."
  | some h => Str.empty ++ (toString w.1 : String) ++ ".." ++ (toString h : String)
def shortW (w : Int × Option Int) : Prop := w.1.natAbs < 2 ^ 200 ∧ ∀ h, w.2 = some h → h.natAbs < 2 ^ 200
theorem txt_le {i : Int} (h : i.natAbs < 2 ^ 200) : (Str.ofString (toString i)).length ≤ 1921 := int_text_len_1921 (log2_lt_1920 (k := 200) h (by decide) (by decide))
theorem log_of {i : Int} (h : i.natAbs < 2 ^ 200) : i.natAbs.log2 < 1920 := log2_lt_1920 (k := 200) h (by decide) (by decide)
end KX

namespace KX
open PySem PySem.Spec PyProof.Rows L2
/-! ### texts cut at two dots -/
abbrev DD : List Nat := [46, 46]
theorem tl_dd : TL.tl (Str.ofString "..") = DD := by decide +kernel
theorem spl_mem {S : List Nat} : ∀ {L : List Nat} {k : Nat} {acc p : List Nat}, p ∈ TL.spl S k acc L → p.length ≤ acc.length + L.length ∧ ∀ c ∈ p, c ∈ acc ∨ c ∈ L
  | [], k, acc, p, h => by
    rw [TL.spl_nil] at h
    rw [List.mem_singleton.mp h]
    exact ⟨by simp, fun c hc => .inl hc⟩
  | c :: r, k + 1, acc, p, h => by
    have ih := spl_mem (L := r) (k := k) (acc := acc) (p := p) h
    exact ⟨by have := ih.1; simp; omega, fun d hd => (ih.2 d hd).imp id (List.mem_cons_of_mem _)⟩
  | c :: r, 0, acc, p, h => by
    by_cases hp : TL.pre S (c :: r) = true
    · rw [TL.spl_hit hp] at h
      rcases List.mem_cons.mp h with e | h
      · rw [e]; exact ⟨by omega, fun d hd => .inl hd⟩
      · have ih := spl_mem h
        exact ⟨by have := ih.1; simp at this ⊢; omega, fun d hd => .inr ((ih.2 d hd).elim (fun z => by simp at z) (List.mem_cons_of_mem _))⟩
    · have hp' : TL.pre S (c :: r) = false := by simpa using hp
      rw [TL.spl_miss hp'] at h
      have ih := spl_mem h
      refine ⟨by have := ih.1; simp at this ⊢; omega, fun d hd => ?_⟩
      rcases ih.2 d hd with z | z
      · rcases List.mem_append.mp z with z | z
        · exact .inl z
        · exact .inr (by rw [List.mem_singleton.mp z]; exact List.mem_cons_self)
      · exact .inr (List.mem_cons_of_mem _ z)
theorem tl_split (x : Str) : (Txt.split x (Str.ofString "..")).map TL.tl = TL.spl DD 0 [] (TL.tl x) := by
  have h := TL.split_spl x (Str.ofString "..") (by rw [tl_dd]; simp) (TL.kind_ok (by decide +kernel))
  rw [tl_dd] at h
  exact h
theorem splits_ok {x : Str} {n : Nat} (h : okS x n) : ∀ z ∈ Txt.split x (Str.ofString ".."), okS z n := fun z hz => by
  have hm : TL.tl z ∈ TL.spl DD 0 [] (TL.tl x) := by rw [← tl_split]; exact List.mem_map_of_mem hz
  have k := spl_mem hm
  refine ⟨?_, fun c hc => ?_⟩
  · have e1 : z.length = (TL.tl z).length := rfl
    have e2 : x.length = (TL.tl x).length := rfl
    have := k.1; have := h.1
    simp at *; omega
  · rcases k.2 c hc with z | z
    · simp at z
    · exact h.2 c z
/-- the first cut -/
theorem par_spl {L acc : List Nat} : (∃ a r, TL.par DD acc L = some (acc ++ a, r) ∧ L = a ++ DD ++ r ∧ TL.spl DD 0 acc L = (acc ++ a) :: TL.spl DD 0 [] r ∧ ∀ i, i < a.length → TL.pre DD (L.drop i) = false) ∨
    (TL.par DD acc L = none ∧ TL.spl DD 0 acc L = [acc ++ L] ∧ ∀ i, TL.pre DD (L.drop i) = false) := by
  induction L generalizing acc with
  | nil => exact .inr ⟨rfl, by rw [TL.spl_nil, List.append_nil], fun i => by rw [List.drop_nil]; rfl⟩
  | cons c r ih =>
    by_cases hp : TL.pre DD (c :: r) = true
    · refine .inl ⟨[], (c :: r).drop 2, ?_, ?_, ?_, fun i hi => absurd hi (Nat.not_lt_zero _)⟩
      · rw [TL.par_hit hp, List.append_nil]; rfl
      · have e : (c :: r).take 2 = DD := eq_of_beq hp
        rw [List.nil_append, ← e, List.take_append_drop]
      · rw [TL.spl_hit hp, TL.spl_pass, List.append_nil]; rfl
    · have hp' : TL.pre DD (c :: r) = false := by simpa using hp
      rcases ih (acc := acc ++ [c]) with ⟨a, b, h1, h2, h3, h4⟩ | ⟨h1, h2, h3⟩
      · refine .inl ⟨c :: a, b, ?_, ?_, ?_, fun i hi => ?_⟩
        · rw [TL.par_miss hp', h1]; simp
        · rw [h2]; simp
        · rw [TL.spl_miss hp', h3]; simp
        · cases i with
          | zero => exact hp'
          | succ i => exact h4 i (by simpa using hi)
      · refine .inr ⟨?_, ?_, fun i => ?_⟩
        · rw [TL.par_miss hp', h1]
        · rw [TL.spl_miss hp', h2]; simp
        · cases i with
          | zero => exact hp'
          | succ i => exact h3 i
/-- find -/
theorem find_dd (x : Str) : (∃ a r, TL.par DD [] (TL.tl x) = some (a, r) ∧ TL.tl x = a ++ DD ++ r ∧ Txt.find x (Str.ofString "..") = (a.length : Int)) ∨
    (TL.par DD [] (TL.tl x) = none ∧ Txt.find x (Str.ofString "..") = -1) := by
  have hy : TL.tl (Str.ofString "..") ≠ [] := by rw [tl_dd]; simp
  have at_ := fun i => TL.at_iff (x := x) hy i
  rw [tl_dd] at at_
  have hd := PySem.StrLaws.occ_head x (Str.ofString "..") 1 (Nat.le_refl _)
  rcases par_spl (L := TL.tl x) (acc := []) with ⟨a, r, h1, h2, _, h4⟩ | ⟨h1, _, h3⟩
  · have here : TL.pre DD ((TL.tl x).drop a.length) = true := by
      have e : (TL.tl x).drop a.length = DD ++ r := by rw [h2, List.append_assoc]; exact List.drop_left
      rw [e]; exact TL.pre_self _ _
    refine .inl ⟨a, r, h1, h2, ?_⟩
    rcases hd with ⟨_, hn⟩ | ⟨i, s, e, hi, hk⟩
    · exact absurd ((at_ _).mpr here) (hn _)
    · have ei : i = a.length := by
        rcases Nat.lt_trichotomy i a.length with z | z | z
        · have := (at_ _).mp hi
          rw [h4 i z] at this
          cases this
        · exact z
        · exact absurd ((at_ _).mpr here) (hk _ z)
      unfold Txt.find
      rw [e, ei]
  · refine .inr ⟨h1, ?_⟩
    rcases hd with ⟨e, _⟩ | ⟨i, s, e, hi, hk⟩
    · unfold Txt.find; rw [e]
    · have := (at_ _).mp hi
      rw [h3 i] at this
      cases this
/-! ### the law's reading -/
def dgN (c : Nat) : Prop := 48 ≤ c ∧ c ≤ 57
instance (c : Nat) : Decidable (dgN c) := inferInstanceAs (Decidable (_ ∧ _))
abbrev dgs (l : List Nat) : Prop := PySem.NumText.AllDigits l
/-- decimal, without leading zeros -/
def canL (w : List Nat) : Prop := w ≠ [] ∧ dgs w ∧ (w.head? = some 48 → w = [48])
instance (w : List Nat) : Decidable (dgs w) := inferInstanceAs (Decidable (∀ c ∈ w, 48 ≤ c ∧ c ≤ 57))
instance (w : List Nat) : Decidable (canL w) := inferInstanceAs (Decidable (_ ∧ _ ∧ _))
def lnum (w : List Nat) : Option Int := if canL w then some ((PySem.NumText.digitsVal w : Nat) : Int) else none
def lAB (r : List Nat) (l : Option Int) : Option (Int × Option Int) := match l with
  | none => none
  | some l => if r = [] then some (l, none) else match lnum r with
    | none => none
    | some h => if h < l then none else some (l, some h)
def lread (x : Str) : Option (Int × Option Int) := match TL.par DD [] (TL.tl x) with
  | none => none
  | some (a, r) => lAB r (lnum a)
theorem pnum_l (x : Str) : pnum x = if x.length ≤ 60 then lnum (TL.tl x) else none := by
  have e1 : x.length = (TL.tl x).length := rfl
  have e2 : x = Str.ofString "0" ↔ TL.tl x = [48] := by
    have e : TL.tl (Str.ofString "0") = [48] := by decide +kernel
    rw [← e]
    exact ⟨fun z => by rw [z], fun z => TL.ext_tl z⟩
  have ec : canS x = true ↔ (x.cps.toList.head? = some 48 → TL.tl x = [48]) := by
    unfold canS
    simp only [Bool.not_eq_true', Bool.and_eq_false_iff, decide_eq_false_iff_not, Bool.not_eq_false', decide_eq_true_eq]
    rw [← e2]
    exact ⟨fun h k => h.elim (fun z => absurd k z) id, fun h => by
      by_cases k : x.cps.toList.head? = some 48
      · exact .inr (h k)
      · exact .inl k⟩
  have el : 1 ≤ x.length ↔ TL.tl x ≠ [] := by
    rw [e1]
    exact ⟨fun h z => by rw [z] at h; simp at h, fun h => List.length_pos_iff.mpr h⟩
  unfold pnum lnum
  by_cases h1 : x.length ≤ 60
  · rw [if_pos h1]
    by_cases h2 : TL.tl x ≠ [] ∧ dgs (TL.tl x)
    · have hd : digs x = true := digs_iff.mpr h2.2
      rw [if_pos (by simp [hd, h1, el.mpr h2.1])]
      by_cases h3 : canS x = true
      · rw [if_pos h3, if_pos ⟨h2.1, h2.2, ec.mp h3⟩]; rfl
      · rw [if_neg h3, if_neg (fun z => h3 (ec.mpr z.2.2))]
    · rw [if_neg ?_, if_neg (fun z => h2 ⟨z.1, z.2.1⟩)]
      intro z
      simp only [Bool.and_eq_true, decide_eq_true_eq] at z
      exact h2 ⟨el.mp z.1.1, digs_iff.mp z.2⟩
  · rw [if_neg h1, if_neg (by simp [h1])]
/-- where a text is short enough beside its dots, the two readings are one -/
def goodL (L : List Nat) : Prop := ∀ a r, L = a ++ DD ++ r → (dgs a → a.length ≤ 60) ∧ (dgs r → r.length ≤ 60)
theorem lnum_short {w : List Nat} (h : dgs w → w.length ≤ 60) : (if w.length ≤ 60 then lnum w else none) = lnum w := by
  by_cases k : w.length ≤ 60
  · rw [if_pos k]
  · rw [if_neg k]
    unfold lnum
    rw [if_neg fun z => k (h z.2.1)]
theorem read_eq {x : Str} (g : goodL (TL.tl x)) : winS x = lread x := by
  have hs := tl_split x
  rcases par_spl (L := TL.tl x) (acc := []) with ⟨a, r, h1, h2, h3, _⟩ | ⟨h1, h2, _⟩
  · have hr : lread x = lAB r (lnum a) := by unfold lread; rw [h1]; rfl
    obtain ⟨ga, gr⟩ := g a r h2
    rw [h3, List.nil_append] at hs
    rcases par_spl (L := r) (acc := []) with ⟨b, s, k1, k2, k3, _⟩ | ⟨k1, k2, _⟩
    · -- a further cut: neither reads it
      have e1 : winS x = none := winS_not fun z => by
        have l := congrArg List.length hs
        rw [List.length_map, z, k3] at l
        obtain ⟨p, q, e⟩ : ∃ p q, TL.spl DD 0 [] s = p :: q := by
          rcases par_spl (L := s) (acc := []) with ⟨_, _, _, _, z3, _⟩ | ⟨_, z2, _⟩
          · exact ⟨_, _, z3⟩
          · exact ⟨_, _, z2⟩
        rw [e] at l
        simp at l
      have nr : r ≠ [] := fun z => by rw [z] at k2; simp at k2
      have ln : lnum r = none := if_neg fun z => by
        have := z.2.1 46 (by rw [k2]; simp)
        omega
      rw [e1, hr]
      unfold lAB
      cases lnum a with
      | none => rfl
      | some l => dsimp only; rw [if_neg nr, ln]
    · rw [k2, List.nil_append] at hs
      obtain ⟨ys, hys⟩ : ∃ ys, Txt.split x (Str.ofString "..") = ys := ⟨_, rfl⟩
      rw [hys] at hs
      match ys, hs with
      | [y, z], hs =>
        have ey : TL.tl y = a := by injection hs
        have ez : TL.tl z = r := by injection hs with _ q; injection q
        rw [winS_two hys, hr, pnum_l, pnum_l, ey, ez]
        have l1 : y.length = a.length := by rw [← ey]; rfl
        have l2 : z.length = r.length := by rw [← ez]; rfl
        rw [l1, l2, lnum_short ga, lnum_short gr]
        have e0 : z = Str.ofString "" ↔ r = [] := by
          have e : TL.tl (Str.ofString "") = [] := by decide +kernel
          rw [← ez, ← e]
          exact ⟨fun q => by rw [q], fun q => TL.ext_tl q⟩
        unfold winAB lAB
        cases lnum a with
        | none => rfl
        | some l =>
          dsimp only
          by_cases nr : r = []
          · have ln : lnum r = none := by rw [nr]; exact if_neg fun z => z.1 rfl
            rw [ln, if_pos nr]
            dsimp only
            rw [if_pos (e0.mpr nr)]
          · rw [if_neg nr]
            cases lnum r with
            | none => dsimp only; rw [if_neg fun q => nr (e0.mp q)]
            | some k =>
              dsimp only
              by_cases c : l ≤ k
              · rw [if_pos c, if_neg (by omega)]
              · rw [if_neg c, if_pos (by omega)]
  · have e1 : winS x = none := winS_not fun z => by
      have l := congrArg List.length hs
      rw [List.length_map, z, h2] at l
      simp at l
    rw [e1]
    unfold lread
    rw [h1]
end KX

namespace KX
open PySem PySem.Spec PyProof.Rows L2
/-! ### numbers written -/
theorem val_snoc (a : List Nat) (c : Nat) : PySem.NumText.digitsVal (a ++ [c]) = PySem.NumText.digitsVal a * 10 + (c - 48) := by
  unfold PySem.NumText.digitsVal
  rw [List.foldl_append]; rfl
theorem val_pos : ∀ n (a : List Nat), a.length = n → a ≠ [] → dgs a → a.head? ≠ some 48 → 1 ≤ PySem.NumText.digitsVal a := by
  intro n
  induction n with
  | zero => intro a h n; exact absurd (List.length_eq_zero_iff.mp h) n
  | succ n ih =>
    intro a h hn hd hh
    obtain ⟨b, c, rfl⟩ : ∃ b c, a = b ++ [c] := ⟨a.dropLast, a.getLast hn, (List.dropLast_concat_getLast hn).symm⟩
    rw [val_snoc]
    cases b with
    | nil =>
      have hc := hd c (by simp)
      have : c ≠ 48 := fun z => hh (by rw [z]; rfl)
      omega
    | cons d b =>
      have := ih (d :: b) (by simp at h ⊢; omega) (by simp) (fun c hc => hd c (List.mem_append_left _ hc)) (by simpa using hh)
      omega
/-- a number without leading zeros is written as it stands -/
theorem num_back : ∀ n (a : List Nat), a.length = n → canL a → TL.numL (PySem.NumText.digitsVal a) = a := by
  intro n
  induction n with
  | zero => intro a h k; exact absurd (List.length_eq_zero_iff.mp h) k.1
  | succ n ih =>
    intro a h k
    obtain ⟨hn, hd, hz⟩ := k
    obtain ⟨b, c, rfl⟩ : ∃ b c, a = b ++ [c] := ⟨a.dropLast, a.getLast hn, (List.dropLast_concat_getLast hn).symm⟩
    have hc := hd c (by simp)
    cases b with
    | nil =>
      rw [val_snoc]
      show TL.numL (0 * 10 + (c - 48)) = [c]
      rw [TL.numL_lt (by omega)]
      congr 1; omega
    | cons d b =>
      have nh : (d :: b).head? ≠ some 48 := fun z => by
        have := hz (by simpa using z)
        simp at this
      have hb : dgs (d :: b) := fun c hc => hd c (List.mem_append_left _ hc)
      have p := val_pos _ (d :: b) rfl (by simp) hb nh
      have ih' := ih (d :: b) (by simp at h ⊢; omega) ⟨by simp, hb, fun z => absurd z nh⟩
      rw [val_snoc, TL.numL_step (by omega)]
      have e1 : (PySem.NumText.digitsVal (d :: b) * 10 + (c - 48)) / 10 = PySem.NumText.digitsVal (d :: b) := by omega
      have e2 : 48 + (PySem.NumText.digitsVal (d :: b) * 10 + (c - 48)) % 10 = c := by omega
      rw [e1, e2, ih']
theorem canL_num (n : Nat) : canL (TL.numL n) := by
  refine ⟨TL.numL_ne n, TL.numL_digits n, fun h => ?_⟩
  induction n using Nat.strongRecOn with
  | _ n ih =>
    by_cases k : n < 10
    · rw [TL.numL_lt k] at h ⊢
      simpa using h
    · rw [TL.numL_step (by omega)] at h
      have nn := TL.numL_ne (n / 10)
      have hh : (TL.numL (n / 10)).head? = some 48 := by
        cases e : TL.numL (n / 10) with
        | nil => exact absurd e nn
        | cons a b => rw [e] at h; simpa using h
      have := ih (n / 10) (by omega) hh
      have e0 : n / 10 = 0 := by
        have v := TL.numL_val (n / 10)
        rw [this] at v
        exact v.symm
      omega
theorem lnum_num (n : Nat) : lnum (TL.numL n) = some (n : Int) := by
  unfold lnum
  rw [if_pos (canL_num n), TL.numL_val]
/-! ### a window's text -/
def tailL : Option Int → List Nat
  | none => []
  | some h => TL.numL h.toNat
def fmtL (w : Int × Option Int) : List Nat := TL.numL w.1.toNat ++ DD ++ tailL w.2
theorem tl_int {i : Int} (h : 0 ≤ i) : TL.tl (Str.ofString (toString i)) = TL.numL i.toNat := by
  have e : i = ((i.toNat : Nat) : Int) := by omega
  have := TL.tl_num i.toNat
  rw [← e] at this
  exact this
theorem tl_app (x y : Str) : TL.tl (x ++ y) = TL.tl x ++ TL.tl y := TL.tl_append x y
theorem par_fmt {w : Int × Option Int} : TL.par DD [] (fmtL w) = some (TL.numL w.1.toNat, tailL w.2) := by
  have h := TL.par_part1 (s := 46) (S := [46]) (p := TL.numL w.1.toNat) (rest := tailL w.2) (acc := []) (TL.numL_free (by omega))
  rw [List.nil_append] at h
  rw [← h]
  unfold fmtL
  rw [List.append_assoc]
theorem lnum_tail {h : Int} (h0 : 0 ≤ h) : lnum (TL.numL h.toNat) = some h := by
  rw [lnum_num]
  congr 1; omega
theorem read_fmt {w : Int × Option Int} {x : Str} (ok : okW w) (e : TL.tl x = fmtL w) : lread x = some w := by
  unfold lread
  rw [e, par_fmt]
  obtain ⟨l, hi⟩ := w
  obtain ⟨h1, h2⟩ := ok
  dsimp only
  rw [lnum_tail h1]
  cases hi with
  | none => rfl
  | some k =>
    have hk := h2 k rfl
    unfold lAB tailL
    dsimp only at *
    rw [if_neg (TL.numL_ne _), lnum_tail (by omega)]
    dsimp only
    rw [if_neg (by omega)]
theorem lnum_some {a : List Nat} {l : Int} (h : lnum a = some l) : 0 ≤ l ∧ a = TL.numL l.toNat := by
  unfold lnum at h
  split at h
  · next c =>
    cases h
    exact ⟨Int.natCast_nonneg _, by rw [Int.toNat_natCast, num_back _ a rfl c]⟩
  · cases h
/-- what is read is written again -/
theorem fmt_read {w : Int × Option Int} {x : Str} (h : lread x = some w) : TL.tl x = fmtL w := by
  unfold lread at h
  rcases par_spl (L := TL.tl x) (acc := []) with ⟨a, r, h1, h2, _, _⟩ | ⟨h1, _, _⟩
  · rw [h1] at h
    dsimp only at h
    rw [List.nil_append] at h
    unfold lAB at h
    cases hl : lnum a with
    | none => rw [hl] at h; cases h
    | some l =>
      rw [hl] at h
      dsimp only at h
      have ea := (lnum_some hl).2
      by_cases nr : r = []
      · rw [if_pos nr] at h
        cases h
        rw [h2, nr, ea]; rfl
      · rw [if_neg nr] at h
        cases hk : lnum r with
        | none => rw [hk] at h; cases h
        | some k =>
          rw [hk] at h
          dsimp only at h
          split at h
          · cases h
          · cases h
            rw [h2, ea, (lnum_some hk).2]; rfl
  · rw [h1] at h; cases h
/-! ### runs of digits -/
def Run (n : Nat) (L : List Nat) : Prop := ∀ a u b, L = a ++ u ++ b → dgs u → u.length ≤ n
theorem Run.len {n : Nat} {L : List Nat} (h : L.length ≤ n) : Run n L := fun a u b e _ => by rw [e] at h; simp at h; omega
theorem Run.mono {n m : Nat} {L : List Nat} (h : Run n L) (k : n ≤ m) : Run m L := fun a u b e d => Nat.le_trans (h a u b e d) k
theorem Run.mid {n : Nat} {a L b : List Nat} (h : Run n (a ++ L ++ b)) : Run n L := fun p u q e d => h (a ++ p) u (q ++ b) (by rw [e]; simp) d
theorem Run.app {n : Nat} {A B : List Nat} {c : Nat} (ha : Run n A) (hb : Run n B) (nc : ¬ dgN c) : Run n (A ++ c :: B) := by
  intro p u q e d
  rw [List.append_assoc] at e
  rcases List.append_eq_append_iff.mp e with ⟨x, e1, e2⟩ | ⟨x, e1, e2⟩
  · -- p = A ++ x
    cases x with
    | nil =>
      cases u with
      | nil => exact Nat.zero_le _
      | cons v u =>
        rw [List.nil_append] at e2
        injection e2 with z _
        exact absurd (d v List.mem_cons_self) (by rw [← z]; exact nc)
    | cons y x =>
      injection e2 with _ z
      exact hb x u q (by rw [z]; simp) d
  · -- A = p ++ x, x ++ c :: B = u ++ q
    rcases List.append_eq_append_iff.mp e2 with ⟨y, f1, f2⟩ | ⟨y, f1, f2⟩
    · exact ha p u y (by rw [e1, f1]; simp) d
    · cases y with
      | nil =>
        rw [List.append_nil] at f1
        exact ha p u [] (by rw [e1, f1]; simp) d
      | cons v y =>
        injection f2 with z _
        exact absurd (d c (by rw [f1, z]; simp)) nc
theorem Run.rev {n : Nat} {L : List Nat} (h : Run n L) : Run n L.reverse := fun a u b e d => by
  have := h b.reverse u.reverse a.reverse (by rw [← L.reverse_reverse, e]; simp) (fun c hc => d c (List.mem_reverse.mp hc))
  simpa using this
theorem Run.good {L : List Nat} (h : Run 60 L) : goodL L := fun a r e => ⟨fun d => h [] a (DD ++ r) (by rw [e]; simp) d, fun d => h (a ++ DD) r [] (by rw [e]; simp) d⟩
theorem dots_good {L : List Nat} (h : L.count 46 ≤ 1) : goodL L := fun a r e => by
  rw [e] at h
  simp [List.count_append] at h
  omega
/-! ### changed in one place -/
/-- two signs that are no digits, at most one sign between them, beside them at most n signs -/
def Two (n : Nat) (L : List Nat) : Prop := ∃ A c M e B, L = A ++ c :: (M ++ e :: B) ∧ ¬ dgN c ∧ ¬ dgN e ∧ A.length ≤ n ∧ M.length ≤ 1 ∧ B.length ≤ n
def Low (n : Nat) (L : List Nat) : Prop := L.count 46 ≤ 1 ∧ Run n L
theorem Two.run {n : Nat} {L : List Nat} (h : Two n L) (k : 1 ≤ n) : Run n L := by
  obtain ⟨A, c, M, e, B, rfl, hc, he, a, m, b⟩ := h
  exact .app (.len a) (.app (.len (by omega)) (.len b) he) hc
/-- at place i k signs are taken out, X put in -/
def edit (L : List Nat) (i : Nat) (X : List Nat) (k : Nat) : List Nat := L.take i ++ X ++ L.drop (i + k)
theorem edit_left {U V X : List Nat} {i k : Nat} (h : i + k ≤ U.length) : edit (U ++ V) i X k = edit U i X k ++ V := by
  unfold edit
  rw [List.take_append_of_le_length (by omega), List.drop_append_of_le_length h]
  simp
theorem edit_right {U V X : List Nat} {i k : Nat} (h : U.length ≤ i) : edit (U ++ V) i X k = U ++ edit V (i - U.length) X k := by
  unfold edit
  rw [List.take_append, List.drop_append, List.take_of_length_le h, List.drop_of_length_le (l := U) (by omega), List.nil_append]
  have e : i + k - U.length = i - U.length + k := by omega
  rw [e]
  simp
theorem edit_len {L X : List Nat} {i k n : Nat} (h : L.length ≤ n) (hx : X.length ≤ 1) : (edit L i X k).length ≤ n + 1 := by
  unfold edit
  simp only [List.length_append, List.length_take, List.length_drop]
  omega
/-- from two to one: the runs stay short -/
theorem Two.edit {n : Nat} {L X : List Nat} {i k : Nat} (h : Two n L) (hx : X.length ≤ 1) (hk : k ≤ 1) : Run (n + 3) (KX.edit L i X k) := by
  obtain ⟨A, c, M, e, B, rfl, hc, he, a, m, b⟩ := h
  by_cases hi : i ≤ A.length
  · have eq : A ++ c :: (M ++ e :: B) = (A ++ c :: M) ++ e :: B := by simp
    rw [eq, edit_left (by simp; omega)]
    exact .app (.len (Nat.le_trans (edit_len (n := n + 2) (by simp; omega) hx) (by omega))) (.len (by omega)) he
  · have eq : A ++ c :: (M ++ e :: B) = (A ++ [c]) ++ (M ++ e :: B) := by simp
    rw [eq, edit_right (by simp; omega)]
    have eq2 : A ++ [c] ++ KX.edit (M ++ e :: B) (i - (A ++ [c]).length) X k = A ++ c :: KX.edit (M ++ e :: B) (i - (A ++ [c]).length) X k := by simp
    rw [eq2]
    exact .app (.len (by omega)) (.len (Nat.le_trans (edit_len (n := n + 2) (by simp; omega) hx) (by omega))) hc
theorem count_edit {L : List Nat} {i k : Nat} {X : List Nat} (hX : X.count 46 = 0) : (edit L i X k).count 46 ≤ L.count 46 := by
  unfold edit
  have e : L.count 46 = (L.take i).count 46 + (L.drop i).count 46 := by rw [← List.count_append, List.take_append_drop]
  have f : (L.drop (i + k)).count 46 ≤ (L.drop i).count 46 := by
    rw [← List.drop_drop]
    exact (List.drop_sublist _ _).count_le 46
  rw [List.count_append, List.count_append, hX]
  omega
theorem Low.edit {n : Nat} {L X : List Nat} {i k : Nat} (h : Low n L) (hx : X.length ≤ 1) : goodL (KX.edit L i X k) ∨ Run n (KX.edit L i X k) := by
  obtain ⟨h1, h2⟩ := h
  match X, hx with
  | [], _ => exact .inl (dots_good (Nat.le_trans (count_edit rfl) h1))
  | [s], _ =>
    by_cases hs : dgN s
    · exact .inl (dots_good (Nat.le_trans (count_edit (by
        have : s ≠ 46 := fun z => by rw [z] at hs; revert hs; unfold dgN; omega
        simp [this])) h1))
    · right
      have e : KX.edit L i [s] k = L.take i ++ s :: L.drop (i + k) := by unfold KX.edit; simp
      rw [e]
      refine .app ?_ ?_ hs
      · exact Run.mid (a := []) (b := L.drop i) (by rw [List.nil_append, List.take_append_drop]; exact h2)
      · exact Run.mid (a := L.take (i + k)) (b := []) (by rw [List.append_nil, List.take_append_drop]; exact h2)
/-- the text of a window -/
theorem fmt_two {n : Nat} {A B : List Nat} (a : A.length ≤ n) (b : B.length ≤ n) : Two n (A ++ DD ++ B) := ⟨A, 46, [], 46, B, by simp, by decide, by decide, a, by simp, b⟩
theorem fmt_edit {n : Nat} {A B X : List Nat} {i k : Nat} (a : A.length ≤ n) (b : B.length ≤ n) (da : dgs A) (db : dgs B) (hx : X.length ≤ 1) (hk : k ≤ 1) : Two (n + 1) (edit (A ++ DD ++ B) i X k) ∨ Low (n + 1) (edit (A ++ DD ++ B) i X k) := by
  have ca : A.count 46 = 0 := List.count_eq_zero.mpr fun z => by have := da _ z; omega
  have cb : B.count 46 = 0 := List.count_eq_zero.mpr fun z => by have := db _ z; omega
  have e0 : A ++ DD ++ B = A ++ (46 :: 46 :: B) := by simp
  rw [e0]
  by_cases h1 : i + k ≤ A.length
  · left
    rw [edit_left h1]
    exact ⟨edit A i X k, 46, [], 46, B, by simp, by decide, by decide, edit_len a hx, by simp, by omega⟩
  · by_cases h2 : i ≤ A.length
    · -- i = |A|, k = 1: the first dot goes
      have hi : i = A.length := by omega
      have hk1 : k = 1 := by omega
      subst hi hk1
      rw [edit_right (Nat.le_refl _), Nat.sub_self]
      have e : A ++ edit (46 :: 46 :: B) 0 X 1 = A ++ X ++ 46 :: B := by unfold edit; simp
      rw [e]
      match X, hx with
      | [], _ =>
        refine .inr ⟨by simp [List.count_append, ca, cb], ?_⟩
        rw [List.append_nil]
        exact .app (.len (by omega)) (.len (by omega)) (by decide)
      | [s], _ =>
        by_cases hs : dgN s
        · have : s ≠ 46 := fun z => by rw [z] at hs; revert hs; unfold dgN; omega
          exact .inr ⟨by simp [List.count_append, ca, cb, this], .app (.len (by simp; omega)) (.len (by omega)) (by decide)⟩
        · exact .inl ⟨A, s, [], 46, B, by simp, hs, by decide, by omega, by simp, by omega⟩
    · have h3 : A.length < i := by omega
      by_cases h4 : i ≤ A.length + 1
      · have hi : i = A.length + 1 := by omega
        subst hi
        have e1 : A ++ (46 :: 46 :: B) = (A ++ [46]) ++ (46 :: B) := by simp
        rw [e1, edit_right (by simp)]
        have e2 : A.length + 1 - (A ++ [46]).length = 0 := by simp
        rw [e2]
        by_cases hk0 : k = 0
        · subst hk0
          have e : A ++ [46] ++ edit (46 :: B) 0 X 0 = A ++ 46 :: (X ++ 46 :: B) := by unfold edit; simp
          rw [e]
          exact .inl ⟨A, 46, X, 46, B, rfl, by decide, by decide, by omega, hx, by omega⟩
        · have hk1 : k = 1 := by omega
          subst hk1
          have e : A ++ [46] ++ edit (46 :: B) 0 X 1 = A ++ 46 :: (X ++ B) := by unfold edit; simp
          rw [e]
          match X, hx with
          | [], _ => exact .inr ⟨by simp [List.count_append, ca, cb], .app (.len (by omega)) (.len (by simp; omega)) (by decide)⟩
          | [s], _ =>
            by_cases hs : dgN s
            · have : s ≠ 46 := fun z => by rw [z] at hs; revert hs; unfold dgN; omega
              exact .inr ⟨by simp [List.count_append, ca, cb, this], .app (.len (by omega)) (.len (by simp; omega)) (by decide)⟩
            · exact .inl ⟨A, 46, [], s, B, by simp, by decide, hs, by omega, by simp, by omega⟩
      · have e1 : A ++ (46 :: 46 :: B) = (A ++ DD) ++ B := by simp
        rw [e1, edit_right (by simp; omega)]
        exact .inl ⟨A, 46, [], 46, edit B (i - (A ++ DD).length) X k, by simp, by decide, by decide, by omega, by simp, edit_len b hx⟩
/-- what the law's change may make -/
inductive Chg (L : List Nat) : List Nat → Prop
  | ed (i : Nat) (X : List Nat) (k : Nat) : X.length ≤ 1 → k ≤ 1 → Chg L (edit L i X k)
  | rev : Chg L L.reverse
  | turn : Chg L (TL.joinL DD (TL.spl DD 0 [] L).reverse)
theorem joinL_run {n : Nat} : ∀ ps : List (List Nat), (∀ p ∈ ps, Run n p) → Run n (TL.joinL DD ps)
  | [], _ => .len (by simp [TL.joinL])
  | [p], h => h p (by simp)
  | p :: q :: r, h => by
    have ih := joinL_run (q :: r) fun x hx => h x (List.mem_cons_of_mem _ hx)
    show Run n (p ++ 46 :: ([] ++ 46 :: TL.joinL DD (q :: r)))
    exact .app (h p (by simp)) (.app (.len (by simp)) ih (by decide)) (by decide)
theorem spl_run' {n : Nat} : ∀ m (L : List Nat), L.length ≤ m → Run n L → ∀ p ∈ TL.spl DD 0 [] L, Run n p
  | m, L, hm, h, p, hp => by
    rcases par_spl (L := L) (acc := []) with ⟨a, r, _, e, s, _⟩ | ⟨_, s, _⟩
    · rw [s] at hp
      rcases List.mem_cons.mp hp with z | z
      · rw [z, List.nil_append]
        exact Run.mid (a := []) (b := DD ++ r) (by rw [List.nil_append, ← List.append_assoc, ← e]; exact h)
      · match m, hm with
        | 0, hm => rw [e] at hm; simp at hm
        | m + 1, hm => exact spl_run' m r (by rw [e] at hm; simp at hm; omega) (Run.mid (a := a ++ DD) (b := []) (by rw [List.append_nil, ← e]; exact h)) p z
    · rw [s] at hp
      rw [List.mem_singleton.mp hp, List.nil_append]
      exact h
def St0 (L : List Nat) : Prop := ∃ A B, L = A ++ DD ++ B ∧ A.length ≤ 56 ∧ B.length ≤ 56 ∧ dgs A ∧ dgs B
def St1 (L : List Nat) : Prop := Two 57 L ∨ Low 57 L
theorem St0.good {L : List Nat} (h : St0 L) : goodL L := by
  obtain ⟨A, B, rfl, a, b, _, _⟩ := h
  exact ((fmt_two a b).run (by decide)).mono (by decide) |>.good
theorem St1.good {L : List Nat} (h : St1 L) : goodL L := h.elim (fun z => ((z.run (by decide)).mono (by decide)).good) fun z => dots_good z.1
theorem St0.step {L L' : List Nat} (h : St0 L) (c : Chg L L') : St1 L' := by
  obtain ⟨A, B, rfl, a, b, da, db⟩ := h
  cases c with
  | ed i X k hx hk => exact fmt_edit a b da db hx hk
  | rev => exact .inl ⟨B.reverse, 46, [], 46, A.reverse, by simp, by decide, by decide, by simp; omega, by simp, by simp; omega⟩
  | turn =>
    have ha : 46 ∉ A := fun z => by have := da _ z; omega
    have hb : 46 ∉ B := fun z => by have := db _ z; omega
    have e : TL.spl DD 0 [] (A ++ DD ++ B) = [A, B] := by
      have h1 := TL.spl_part1 (s := 46) (S := [46]) (p := A) (rest := B) (acc := []) ha
      have h2 := TL.spl_last1 (s := 46) (S := [46]) (p := B) (acc := []) hb
      rw [h2] at h1
      rw [List.append_assoc]
      exact h1
    rw [e]
    show St1 (B ++ (DD ++ A))
    exact .inl ⟨B, 46, [], 46, A, rfl, by decide, by decide, by omega, by simp, by omega⟩
theorem St1.step {L L' : List Nat} (h : St1 L) (c : Chg L L') : goodL L' := by
  rcases h with h | h
  · cases c with
    | ed i X k hx hk => exact (h.edit hx hk).good
    | rev => exact ((h.run (by decide)).rev.mono (by decide)).good
    | turn =>
      have r := h.run (by decide)
      exact ((joinL_run _ fun p hp => spl_run' _ L (Nat.le_refl _) r p (List.mem_reverse.mp hp)).mono (by decide)).good
  · cases c with
    | ed i X k hx hk => exact (h.edit hx).elim id fun z => (z.mono (by decide)).good
    | rev => exact dots_good (by rw [List.count_reverse]; exact h.1)
    | turn =>
      have e : TL.spl DD 0 [] L = [L] := by
        rcases par_spl (L := L) (acc := []) with ⟨a, r, _, e, _, _⟩ | ⟨_, s, _⟩
        · have := h.1
          rw [e] at this
          simp [List.count_append] at this
          omega
        · rw [s, List.nil_append]
      rw [e]
      exact dots_good h.1
/-! ### slices by places -/
theorem tl_cut_to {z : Str} {i : Int} (h : 0 ≤ i) : TL.tl (cutS z none (some i)) = (TL.tl z).take i.toNat := by
  have e : TL.tl (cutS z none (some i)) = ((TL.tl z).drop (HT.sIx z.length 0 none)).take (HT.sIx z.length z.length (some i) - HT.sIx z.length 0 none) := rfl
  rw [e]
  have l : z.length = (TL.tl z).length := rfl
  unfold HT.sIx
  dsimp only
  rw [List.drop_zero, Nat.sub_zero, if_neg (by omega)]
  by_cases k : i.toNat ≤ z.length
  · congr 1; omega
  · rw [List.take_of_length_le (by omega), List.take_of_length_le (by omega)]
theorem tl_cut_from {z : Str} {i : Int} (h : 0 ≤ i) : TL.tl (cutS z (some i) none) = (TL.tl z).drop i.toNat := by
  have e : TL.tl (cutS z (some i) none) = ((TL.tl z).drop (HT.sIx z.length 0 (some i))).take (HT.sIx z.length z.length none - HT.sIx z.length 0 (some i)) := rfl
  rw [e]
  have l : z.length = (TL.tl z).length := rfl
  unfold HT.sIx
  dsimp only
  rw [if_neg (by omega)]
  by_cases k : i.toNat ≤ z.length
  · rw [List.take_of_length_le (by rw [List.length_drop]; omega)]
    congr 1; omega
  · rw [List.drop_of_length_le (by omega), List.drop_of_length_le (by omega)]; simp
theorem fmtW_tl {w : Int × Option Int} (ok : okW w) : TL.tl (fmtS w) = fmtL w := by
  obtain ⟨l, hi⟩ := w
  obtain ⟨h1, h2⟩ := ok
  have h1 : 0 ≤ l := h1
  unfold fmtS fmtL
  cases hi with
  | none =>
    show TL.tl (Str.empty ++ Str.ofString (toString l) ++ Str.ofString "..") = _
    rw [tl_app, tl_app, tl_dd, tl_int h1]
    show [] ++ _ ++ _ = _
    simp [tailL]
  | some k =>
    have hk : l ≤ k := h2 k rfl
    show TL.tl (Str.empty ++ Str.ofString (toString l) ++ Str.ofString ".." ++ Str.ofString (toString k)) = _
    rw [tl_app, tl_app, tl_app, tl_dd, tl_int h1, tl_int (by omega)]
    show [] ++ _ ++ _ ++ _ = _
    simp [tailL]
theorem joinL_len : ∀ ps : List (List Nat), (TL.joinL DD ps).length = (ps.map (·.length)).sum + 2 * (ps.length - 1)
  | [] => rfl
  | [p] => by simp [TL.joinL]
  | p :: q :: r => by
    have ih := joinL_len (q :: r)
    show (p ++ (DD ++ TL.joinL DD (q :: r))).length = _
    rw [List.length_append, List.length_append, ih]
    simp only [List.map_cons, List.sum_cons, List.length_cons, List.length_nil]
    omega
theorem spl_sum : ∀ m (L : List Nat), L.length ≤ m → ((TL.spl DD 0 [] L).map (·.length)).sum + 2 * ((TL.spl DD 0 [] L).length - 1) = L.length ∧ 1 ≤ (TL.spl DD 0 [] L).length
  | m, L, hm => by
    rcases par_spl (L := L) (acc := []) with ⟨a, r, _, e, s, _⟩ | ⟨_, s, _⟩
    · match m, hm with
      | 0, hm => rw [e] at hm; simp at hm
      | m + 1, hm =>
        have ih := spl_sum m r (by rw [e] at hm; simp at hm; omega)
        have ei : L.length = a.length + 2 + r.length := by rw [e]; simp; omega
        rw [s]
        simp only [List.nil_append, List.map_cons, List.sum_cons, List.length_cons]
        omega
    · rw [s]; simp
theorem turn_len (L : List Nat) : (TL.joinL DD (TL.spl DD 0 [] L).reverse).length = L.length := by
  rw [joinL_len, List.map_reverse, List.length_reverse]
  have e : (((TL.spl DD 0 [] L).map (·.length)).reverse).sum = ((TL.spl DD 0 [] L).map (·.length)).sum := List.sum_reverse _
  rw [e]
  exact (spl_sum _ L (Nat.le_refl _)).1
end KX

namespace KX
open PySem PySem.Spec PyProof.Rows L2
/-! ### a zip whose pair is held by another -/
/-- a zip over the iterators in TI; f0, f1: what it knows of the pair it has handed out -/
abbrev ZipO (h : Heap) (z TI TO : Addr) (f0 : Value) (f1 : Bool) : Prop :=
  h.get? z = some { cls := .type "zip", dict := none, data := .fields #[f0, .bool f1, .bool false, .ref TI, .ref TO], slots := #[] }
section
variable {prog : Program} {w : World} {A : Around} {E : Value → Shared → Prop} {s : Shared}
theorem alive_any {a : Addr} {Q : Option Obj → Shared → Prop} (h : Q (s.heap.get? a) s) : wpAny (model prog w) A (loadIfAlive a) Q E s := fun _ _ _ => h
/-- its own pair is free -/
theorem free_none {z TI TO : Addr} {f1 : Bool} (hz : ZipO s.heap z TI TO .none f1) {Q : Bool → Shared → Prop} (h : Q true s) : wpAny (model prog w) A (Builtin.SmallTypes.ownedTupleIsFree (.ref z)) Q E s := by
  unfold Builtin.SmallTypes.ownedTupleIsFree
  exact wpAny_bind (wpAny_field hz rfl (x := .none) rfl (wpAny_pure h))
theorem free_gone {z TI TO T : Addr} {f1 : Bool} (hz : ZipO s.heap z TI TO (rawInt T) f1) (hT : s.heap.get? T = none) {Q : Bool → Shared → Prop} (h : Q true s) : wpAny (model prog w) A (Builtin.SmallTypes.ownedTupleIsFree (.ref z)) Q E s := by
  unfold Builtin.SmallTypes.ownedTupleIsFree
  refine wpAny_bind (wpAny_field hz rfl (x := rawInt T) rfl ?_)
  show wpAny _ _ (loadIfAlive ((T : Int).toNat) >>= _) _ _ _
  rw [Int.toNat_natCast]
  refine wpAny_bind (alive_any ?_)
  rw [hT]
  exact wpAny_pure h
/-- the next pair, made anew from its own -/
theorem zipnext_free {z TI TO i1 i2 l1 l2 : Addr} {f0 : Value} {f1 : Bool} {k1 k2 : Nat} {xs ys : Array Value} {x y a b : Value} {Q : Value → Shared → Prop} (D : ZipApart z TI TO i1 i2 l1 l2)
    (hfree : ∀ {Q : Bool → Shared → Prop}, Q true s → wpAny (model prog w) A (Builtin.SmallTypes.ownedTupleIsFree (.ref z)) Q E s) (hz : ZipO s.heap z TI TO f0 f1) (hTI : IsPair s.heap TI (.ref i1) (.ref i2)) (hTO : IsPair s.heap TO a b)
    (h1 : s.heap.IsListIter i1 l1 k1) (h2 : s.heap.IsListIter i2 l2 k2) (hl1 : s.heap.IsList l1 xs) (hl2 : s.heap.IsList l2 ys) (hx : xs[k1]? = some x) (hy : ys[k2]? = some y)
    (hQ : ∀ h', ZipO h' z TI TO (rawInt s.heap.objs.size) false → IsPair h' TO x y → h'.IsListIter i1 l1 (k1 + 1) → h'.IsListIter i2 l2 (k2 + 1) → IsPair h' s.heap.objs.size x y → h'.objs.size = s.heap.objs.size + 1 →
      (∀ c o, c ≠ z → c ≠ TO → c ≠ i1 → c ≠ i2 → s.heap.get? c = some o → h'.get? c = some o) → Q (.ref s.heap.objs.size) { s with heap := h' }) :
    wpAny (model prog w) A (Builtin.«zip.__next__» ⟨[.ref z], []⟩) (fun fin s' => ∃ v, fin = .done (.ret v) ∧ Q v s') E s := by
  show wpAny _ _ (field (.ref z) 2 >>= _) _ _ _
  refine wpAny_bind (wpAny_field hz rfl (x := .bool false) rfl ?_)
  show wpAny _ _ (field (.ref z) 3 >>= _) _ _ _
  refine wpAny_bind (wpAny_field hz rfl (x := .ref TI) rfl ?_)
  refine wpAny_bind (wpAny_seqItems hTI rfl ?_)
  show wpAny _ _ (Builtin.SmallTypes.ownedTupleIsFree (.ref z) >>= _) _ _ _
  refine wpAny_bind (hfree ?_)
  simp only [if_true]
  refine wpAny_bind (wpAny_rule (wpAny_bind (wpAny_field hz rfl (x := .ref TO) rfl (wpAny_bind (wpAny_setField_rec hz (by simp) fun g1 z1 s1 => ?_)))))
  replace z1 : ZipO g1 z TI TO .ellipsis f1 := z1
  refine wpAny_bind ?_
  simp only [List.zipIdx_cons, List.zipIdx_nil, List.forIn_cons, List.forIn_nil]
  refine wpAny_bind (wpAny_bind (wpAny_onRaise ?_))
  show wpAny _ _ (Builtin.SmallTypes.nextOf (.ref i1) >>= _) _ _ _
  refine wpAny_bind (wpAny_nextOf_list_item (h1.extBut s1.extBut D.i1z) (hl1.extBut s1.extBut D.l1z) hx fun g2 a2 s2 => wpAny_pure ?_)
  have p2 : IsPair g2 TO a b := s2.extBut _ _ D.TOi1 (s1.extBut _ _ D.TOz hTO)
  refine wpAny_bind (wpAny_seqItems p2 rfl (wpAny_bind (wpAny_updateSeq_pair p2 fun g3 p3 s3 => ?_)))
  replace p3 : IsPair g3 TO x b := p3
  refine wpAny_bind (wpAny_letGo (wpAny_pure ?_))
  refine wpAny_bind (wpAny_bind (wpAny_onRaise ?_))
  show wpAny _ _ (Builtin.SmallTypes.nextOf (.ref i2) >>= _) _ _ _
  refine wpAny_bind (wpAny_nextOf_list_item (((h2.extBut s1.extBut D.i2z).extBut s2.extBut D.i12.symm).extBut s3.extBut D.TOi2.symm) (((hl2.extBut s1.extBut D.l2z).extBut s2.extBut D.l2i1).extBut s3.extBut D.l2TO) hy fun g4 a4 s4 => wpAny_pure ?_)
  have p4 : IsPair g4 TO x b := s4.extBut _ _ D.TOi2 p3
  refine wpAny_bind (wpAny_seqItems p4 rfl (wpAny_bind (wpAny_updateSeq_pair p4 fun g5 p5 s5 => ?_)))
  replace p5 : IsPair g5 TO x y := p5
  refine wpAny_bind (wpAny_letGo (wpAny_pure (wpAny_pure ?_)))
  refine wpAny_bind (wpAny_seqItems p5 rfl (wpAny_bind (wpAny_newTuple ?_)))
  have sz : g5.objs.size = s.heap.objs.size := by rw [s5.1, s4.1, s3.1, s2.1, s1.1]
  have z5 : ZipO g5 z TI TO .ellipsis f1 := s5.extBut _ _ D.TOz.symm (s4.extBut _ _ D.i2z.symm (s3.extBut _ _ D.TOz.symm (s2.extBut _ _ D.i1z.symm z1)))
  have k5 : ∀ c o, c ≠ z → c ≠ TO → c ≠ i1 → c ≠ i2 → s.heap.get? c = some o → g5.get? c = some o := fun c o c1 c2 c3 c4 e =>
    s5.extBut _ _ c2 (s4.extBut _ _ c4 (s3.extBut _ _ c2 (s2.extBut _ _ c3 (s1.extBut _ _ c1 e))))
  have a5 : g5.IsListIter i1 l1 (k1 + 1) := ((a2.extBut s3.extBut D.TOi1.symm).extBut s4.extBut D.i12).extBut s5.extBut D.TOi1.symm
  have b5 : g5.IsListIter i2 l2 (k2 + 1) := a4.extBut s5.extBut D.TOi2.symm
  have zlt : z < g5.objs.size := Heap.lt_size z5
  show wpAny _ _ (Builtin.SmallTypes.ownedTupleHandOut (.ref z) (.ref g5.objs.size) >>= _) _ _ _
  refine wpAny_bind ?_
  unfold Builtin.SmallTypes.ownedTupleHandOut
  have z6 : ZipO (g5.push { cls := .type "tuple", data := .seq #[x, y] }) z TI TO .ellipsis f1 := Heap.get?_push_of_some _ z5
  refine wpAny_bind (wpAny_setField_rec z6 (by simp) fun g7 z7 s7 => ?_)
  replace z7 : ZipO g7 z TI TO (rawInt g5.objs.size) f1 := z7
  refine wpAny_setField_rec z7 (by simp) fun g8 z8 s8 => ?_
  replace z8 : ZipO g8 z TI TO (rawInt g5.objs.size) false := z8
  have up : ∀ c o, c ≠ z → g5.get? c = some o → g8.get? c = some o := fun c o c1 e => s8.extBut _ _ c1 (s7.extBut _ _ c1 (Heap.get?_push_of_some _ e))
  have T8 : IsPair g8 g5.objs.size x y := s8.extBut _ _ (Nat.ne_of_gt zlt) (s7.extBut _ _ (Nat.ne_of_gt zlt) (Heap.get?_push_size _ rfl))
  have sz8 : g8.objs.size = g5.objs.size + 1 := by rw [s8.1, s7.1, Heap.size_push]
  rw [sz] at z8 T8 sz8
  refine wpAny_pure ⟨_, rfl, ?_⟩
  show Q (.ref g5.objs.size) _
  rw [sz]
  exact hQ g8 z8 (up _ _ D.TOz p5) (a5.at fun o e => up _ o D.i1z e) (b5.at fun o e => up _ o D.i2z e) T8 sz8 fun c o c1 c2 c3 c4 e => up c o c1 (k5 c o c1 c2 c3 c4 e)
theorem zipend_free {z TI TO i1 i2 l1 l2 : Addr} {f0 : Value} {f1 : Bool} {k1 k2 : Nat} {xs ys : Array Value} {a b : Value} {Q : Fin → Shared → Prop} (hh : A.handled = none) (D : ZipApart z TI TO i1 i2 l1 l2)
    (hfree : ∀ {Q : Bool → Shared → Prop}, Q true s → wpAny (model prog w) A (Builtin.SmallTypes.ownedTupleIsFree (.ref z)) Q E s) (hz : ZipO s.heap z TI TO f0 f1) (hTI : IsPair s.heap TI (.ref i1) (.ref i2)) (hTO : IsPair s.heap TO a b)
    (h1 : s.heap.IsListIter i1 l1 k1) (h2 : s.heap.IsListIter i2 l2 k2) (hl1 : s.heap.IsList l1 xs) (hl2 : s.heap.IsList l2 ys) (hend : xs[k1]? = none ∨ ys[k2]? = none)
    (hE : ∀ h' e, (∀ c o, c ≠ z → c ≠ TO → c ≠ i1 → c ≠ i2 → s.heap.get? c = some o → h'.get? c = some o) → (∃ o, h'.get? e = some o ∧ o.cls = .type "StopIteration") → E (.ref e) { s with heap := h' }) :
    wpAny (model prog w) A (Builtin.«zip.__next__» ⟨[.ref z], []⟩) Q E s := by
  show wpAny _ _ (field (.ref z) 2 >>= _) _ _ _
  refine wpAny_bind (wpAny_field hz rfl (x := .bool false) rfl ?_)
  show wpAny _ _ (field (.ref z) 3 >>= _) _ _ _
  refine wpAny_bind (wpAny_field hz rfl (x := .ref TI) rfl ?_)
  refine wpAny_bind (wpAny_seqItems hTI rfl ?_)
  show wpAny _ _ (Builtin.SmallTypes.ownedTupleIsFree (.ref z) >>= _) _ _ _
  refine wpAny_bind (hfree ?_)
  simp only [if_true]
  refine wpAny_bind (wpAny_rule (wpAny_bind (wpAny_field hz rfl (x := .ref TO) rfl (wpAny_bind (wpAny_setField_rec hz (by simp) fun g1 z1 s1 => ?_)))))
  replace z1 : ZipO g1 z TI TO .ellipsis f1 := z1
  refine wpAny_bind ?_
  simp only [List.zipIdx_cons, List.zipIdx_nil, List.forIn_cons, List.forIn_nil]
  refine wpAny_bind (wpAny_bind (wpAny_onRaise ?_))
  show wpAny _ _ (Builtin.SmallTypes.nextOf (.ref i1) >>= _) _ _ _
  cases hx : xs[k1]? with
  | none =>
    refine wpAny_bind (wpAny_nextOf_list_end hh (h1.extBut s1.extBut D.i1z) (hl1.extBut s1.extBut D.l1z) hx fun g2 e s2 he => ?_)
    obtain ⟨oe, hoe, hce⟩ := he
    have z2 : ZipO g2 z TI TO .ellipsis f1 := s2 _ _ D.i1z.symm z1
    have ez : e ≠ z := fun q => by subst q; rw [z2] at hoe; cases hoe; simp at hce
    exact wpAny_setField_rec z2 (by simp) fun g3 _ s3 => hE g3 e (fun c o c1 _ c3 _ q => s3.extBut _ _ c1 (s2 _ _ c3 (s1.extBut _ _ c1 q))) ⟨oe, s3.extBut _ _ ez hoe, hce⟩
  | some x =>
    have hy : ys[k2]? = none := by rcases hend with h | h; rw [hx] at h; cases h; exact h
    refine wpAny_bind (wpAny_nextOf_list_item (h1.extBut s1.extBut D.i1z) (hl1.extBut s1.extBut D.l1z) hx fun g2 a2 s2 => wpAny_pure ?_)
    have p2 : IsPair g2 TO a b := s2.extBut _ _ D.TOi1 (s1.extBut _ _ D.TOz hTO)
    refine wpAny_bind (wpAny_seqItems p2 rfl (wpAny_bind (wpAny_updateSeq_pair p2 fun g3 p3 s3 => ?_)))
    refine wpAny_bind (wpAny_letGo (wpAny_pure ?_))
    refine wpAny_bind (wpAny_bind (wpAny_onRaise ?_))
    show wpAny _ _ (Builtin.SmallTypes.nextOf (.ref i2) >>= _) _ _ _
    refine wpAny_bind (wpAny_nextOf_list_end hh (((h2.extBut s1.extBut D.i2z).extBut s2.extBut D.i12.symm).extBut s3.extBut D.TOi2.symm) (((hl2.extBut s1.extBut D.l2z).extBut s2.extBut D.l2i1).extBut s3.extBut D.l2TO) hy fun g4 e s4 he => ?_)
    obtain ⟨oe, hoe, hce⟩ := he
    have z4 : ZipO g4 z TI TO .ellipsis f1 := s4 _ _ D.i2z.symm (s3.extBut _ _ D.TOz.symm (s2.extBut _ _ D.i1z.symm z1))
    have ez : e ≠ z := fun q => by subst q; rw [z4] at hoe; cases hoe; simp at hce
    exact wpAny_setField_rec z4 (by simp) fun g5 _ s5 => hE g5 e (fun c o c1 c2 c3 c4 q => s5.extBut _ _ c1 (s4 _ _ c4 (s3.extBut _ _ c2 (s2.extBut _ _ c3 (s1.extBut _ _ c1 q))))) ⟨oe, s5.extBut _ _ ez hoe, hce⟩
/-- what it knows: nothing as yet, or a pair handed out before -/
def ZipS (h : Heap) (z TI TO : Addr) : Prop := ∃ f0 f1, ZipO h z TI TO f0 f1 ∧ (f0 = .none ∨ ∃ T : Addr, f0 = rawInt T)
/-- its next pair, whatever it knows -/
theorem zipnext_any {z TI TO i1 i2 l1 l2 : Addr} {k1 k2 : Nat} {xs ys : Array Value} {x y a b : Value} {Q : Value → Shared → Prop} (D : ZipApart z TI TO i1 i2 l1 l2)
    (hz : ZipS s.heap z TI TO) (hTI : IsPair s.heap TI (.ref i1) (.ref i2)) (hTO : IsPair s.heap TO a b)
    (h1 : s.heap.IsListIter i1 l1 k1) (h2 : s.heap.IsListIter i2 l2 k2) (hl1 : s.heap.IsList l1 xs) (hl2 : s.heap.IsList l2 ys) (hx : xs[k1]? = some x) (hy : ys[k2]? = some y)
    (hQ : ∀ h', ZipS h' z TI TO → (∃ x y, IsPair h' TO x y) → h'.IsListIter i1 l1 (k1 + 1) → h'.IsListIter i2 l2 (k2 + 1) → IsPair h' s.heap.objs.size x y → h'.objs.size = s.heap.objs.size + 1 →
      (∀ c o, c ≠ z → c ≠ TO → c ≠ i1 → c ≠ i2 → s.heap.get? c = some o → h'.get? c = some o) → Q (.ref s.heap.objs.size) { s with heap := h' }) :
    wpAny (model prog w) A (Builtin.SmallTypes.nextOf (.ref z)) Q E s := by
  obtain ⟨f0, f1, hz, hf⟩ := hz
  have hTy : s.TypeIs (.ref z) "zip" := ⟨_, hz, rfl⟩
  unfold Builtin.SmallTypes.nextOf
  have fin : ∀ Q' : Value → Shared → Prop, (∀ v s', Q v s' → Q' v s') → wpAny (model prog w) A.in1 (Builtin.«zip.__next__» ⟨[.ref z], []⟩) (fun fin s' => ∃ v, fin = .done (.ret v) ∧ Q' v s') E s := by
    intro Q' hQ'
    rcases hf with rfl | ⟨T, rfl⟩
    · exact zipnext_free D (fun h => free_none hz h) hz hTI hTO h1 h2 hl1 hl2 hx hy fun h' q1 q2 q3 q4 q5 q6 q7 => hQ' _ _ (hQ h' ⟨_, _, q1, .inr ⟨_, rfl⟩⟩ ⟨_, _, q2⟩ q3 q4 q5 q6 q7)
    · cases hT : s.heap.get? T with
      | none => exact zipnext_free D (fun h => free_gone hz hT h) hz hTI hTO h1 h2 hl1 hl2 hx hy fun h' q1 q2 q3 q4 q5 q6 q7 => hQ' _ _ (hQ h' ⟨_, _, q1, .inr ⟨_, rfl⟩⟩ ⟨_, _, q2⟩ q3 q4 q5 q6 q7)
      | some o => exact PySem.zip_next_item_held D hz hT hTI h1 h2 hl1 hl2 hx hy fun h' q1 q3 q4 q5 q6 q7 => hQ' _ _ (hQ h' ⟨_, _, q1, .inr ⟨_, rfl⟩⟩ ⟨_, _, q7 _ _ D.TOz D.TOi1 D.TOi2 hTO⟩ q3 q4 q5 q6 fun c o c1 _ c3 c4 e => q7 c o c1 c3 c4 e)
  refine wpAny_bind (wpAny_callSpecial?_slot (name := Str.ofString "__next__") hTy F.slot_zip_next
    (wpAny_call_entry F.slot_zip_next hTy F.entry_zip_next (fin _ fun v s' h => wpAny_pure h) (F.args_zip_next_1 _)))
theorem zipend_any {z TI TO i1 i2 l1 l2 : Addr} {k1 k2 : Nat} {xs ys : Array Value} {a b : Value} {Q : Value → Shared → Prop} (hh : A.handled = none) (D : ZipApart z TI TO i1 i2 l1 l2)
    (hz : ZipS s.heap z TI TO) (hTI : IsPair s.heap TI (.ref i1) (.ref i2)) (hTO : IsPair s.heap TO a b)
    (h1 : s.heap.IsListIter i1 l1 k1) (h2 : s.heap.IsListIter i2 l2 k2) (hl1 : s.heap.IsList l1 xs) (hl2 : s.heap.IsList l2 ys) (hend : xs[k1]? = none ∨ ys[k2]? = none)
    (hE : ∀ h' e, (∀ c o, c ≠ z → c ≠ TO → c ≠ i1 → c ≠ i2 → s.heap.get? c = some o → h'.get? c = some o) → (∃ o, h'.get? e = some o ∧ o.cls = .type "StopIteration") → E (.ref e) { s with heap := h' }) :
    wpAny (model prog w) A (Builtin.SmallTypes.nextOf (.ref z)) Q E s := by
  obtain ⟨f0, f1, hz, hf⟩ := hz
  have hTy : s.TypeIs (.ref z) "zip" := ⟨_, hz, rfl⟩
  unfold Builtin.SmallTypes.nextOf
  have fin : ∀ Q' : Fin → Shared → Prop, wpAny (model prog w) A.in1 (Builtin.«zip.__next__» ⟨[.ref z], []⟩) Q' E s := by
    intro Q'
    rcases hf with rfl | ⟨T, rfl⟩
    · exact zipend_free hh D (fun h => free_none hz h) hz hTI hTO h1 h2 hl1 hl2 hend hE
    · cases hT : s.heap.get? T with
      | none => exact zipend_free hh D (fun h => free_gone hz hT h) hz hTI hTO h1 h2 hl1 hl2 hend hE
      | some o => exact PySem.zip_next_end_held hh D hz hT hTI h1 h2 hl1 hl2 hend fun h' e k q => hE h' e (fun c o c1 _ c3 c4 x => k c o c1 c3 c4 x) q
  refine wpAny_bind (wpAny_callSpecial?_slot (name := Str.ofString "__next__") hTy F.slot_zip_next
    (wpAny_call_entry F.slot_zip_next hTy F.entry_zip_next (fin _) (F.args_zip_next_1 _)))
/-- the next number and item of an enumerate, its inner iterator told by what it gives -/
theorem enumnext_of {e it : Addr} {c : Int} {x old : Value} {Q : Value → Shared → Prop} {R : Heap → Prop} (he : IsEnum s.heap e it c old)
    (inner : ∀ {Q' : Value → Shared → Prop}, (∀ h₁, R h₁ → Q' x { s with heap := h₁ }) → wpAny (model prog w) A (Builtin.SmallTypes.nextOf (.ref it)) Q' E s)
    (kE : ∀ h₁, R h₁ → IsEnum h₁ e it c old)
    (hQ : ∀ h₁ h', R h₁ → IsEnumOut h' e it (c + 1) x h₁.objs.size → h'.get? h₁.objs.size = some { cls := .type "tuple", data := .seq #[.int c s.toks, x] } → h'.objs.size = h₁.objs.size + 1 →
      (∀ b o, b ≠ e → h₁.get? b = some o → h'.get? b = some o) → Q (.ref h₁.objs.size) { s with heap := h', toks := s.toks + 1 }) :
    wpAny (model prog w) A (Builtin.«enumerate.__next__» ⟨[.ref e], []⟩) (fun fin s' => ∃ v, fin = .done (.ret v) ∧ Q v s') E s := by
  obtain ⟨hp, g, d, tk, os⟩ := s
  show wpAny _ _ (field (.ref e) 2 >>= _) _ _ _
  refine wpAny_bind (wpAny_field he rfl (x := .ref it) rfl (wpAny_bind (inner fun g1 r1 => ?_)))
  have e1 : IsEnum g1 e it c old := kE g1 r1
  show wpAny _ _ (field (.ref e) 3 >>= _) _ _ ⟨g1, g, d, tk, os⟩
  refine wpAny_bind (wpAny_field e1 rfl (x := rawInt c) rfl ?_)
  show wpAny _ _ (field (.ref e) 4 >>= _) _ _ ⟨g1, g, d, tk, os⟩
  refine wpAny_bind (wpAny_field e1 rfl (x := .none) rfl ?_)
  show wpAny _ _ (mkInt c >>= _) _ _ ⟨g1, g, d, tk, os⟩
  refine wpAny_bind (wpAny_mkInt ?_)
  show wpAny _ _ (setField (.ref e) 3 (rawInt (c + 1)) >>= _) _ _ ⟨g1, g, d, tk + 1, os⟩
  refine wpAny_bind (wpAny_setField_rec e1 (by simp) fun g2 e2 s2 => ?_)
  replace e2 : IsEnum g2 e it (c + 1) old := e2
  show wpAny _ _ (setField (.ref e) 4 .none >>= _) _ _ ⟨g2, g, d, tk + 1, os⟩
  refine wpAny_bind (wpAny_setField_rec e2 (by simp) fun g3 e3 s3 => ?_)
  replace e3 : IsEnum g3 e it (c + 1) old := e3
  show wpAny _ _ (newTuple [.int c tk, x] >>= _) _ _ ⟨g3, g, d, tk + 1, os⟩
  refine wpAny_bind (wpAny_newTuple ?_)
  have sz : g3.objs.size = g1.objs.size := by rw [s3.1, s2.1]
  have elt : e < g1.objs.size := Heap.lt_size e1
  have e4 : IsEnum (g3.push { cls := .type "tuple", data := .seq #[.int c tk, x] }) e it (c + 1) old := Heap.get?_push_of_some _ e3
  show wpAny _ _ (Builtin.SmallTypes.ownedTupleIsFree (.ref e) >>= _) _ _ ⟨_, g, d, tk + 1, os⟩
  refine wpAny_bind ?_
  unfold Builtin.SmallTypes.ownedTupleIsFree
  refine wpAny_bind (wpAny_field e4 rfl (x := .none) rfl (wpAny_pure ?_))
  simp only [if_true]
  refine wpAny_bind (wpAny_rule (wpAny_bind (wpAny_field e4 rfl (x := old) rfl (wpAny_bind (wpAny_setField_rec e4 (by simp) fun g5 e5 s5 => ?_)))))
  replace e5 : IsEnum g5 e it (c + 1) x := e5
  show wpAny _ _ (Builtin.SmallTypes.ownedTupleHandOut (.ref e) (.ref g3.objs.size) >>= _) _ _ ⟨g5, g, d, tk + 1, os⟩
  refine wpAny_bind ?_
  unfold Builtin.SmallTypes.ownedTupleHandOut
  refine wpAny_bind (wpAny_setField_rec e5 (by simp) fun g6 e6 s6 => ?_)
  replace e6 : IsEnumOut g6 e it (c + 1) x g3.objs.size := e6
  refine wpAny_setField_rec e6 (by simp) fun g7 e7 s7 => ?_
  replace e7 : IsEnumOut g7 e it (c + 1) x g3.objs.size := e7
  have up : ∀ b o, b ≠ e → (g3.push { cls := .type "tuple", data := .seq #[.int c tk, x] }).get? b = some o → g7.get? b = some o := fun b o n q => s7.extBut _ _ n (s6.extBut _ _ n (s5.extBut _ _ n q))
  have t7 : g7.get? g3.objs.size = some { cls := .type "tuple", data := .seq #[.int c tk, x] } := up _ _ (by rw [sz]; exact Nat.ne_of_gt elt) (Heap.get?_push_size _ rfl)
  have z7 : g7.objs.size = g3.objs.size + 1 := by rw [s7.1, s6.1, s5.1, Heap.size_push]
  rw [sz] at e7 t7 z7
  refine wpAny_bind (wpAny_letGo (wpAny_pure ⟨_, rfl, ?_⟩))
  rw [sz]
  exact hQ g1 g7 r1 e7 t7 z7 fun b o n q => up b o n (Heap.get?_push_of_some _ (s3.extBut _ _ n (s2.extBut _ _ n q)))
theorem enumend_of {e it : Addr} {c : Int} {old : Value} {Q : Fin → Shared → Prop} (he : IsEnum s.heap e it c old) (inner : ∀ {Q' : Value → Shared → Prop}, wpAny (model prog w) A (Builtin.SmallTypes.nextOf (.ref it)) Q' E s) :
    wpAny (model prog w) A (Builtin.«enumerate.__next__» ⟨[.ref e], []⟩) Q E s := by
  show wpAny _ _ (field (.ref e) 2 >>= _) _ _ _
  exact wpAny_bind (wpAny_field he rfl (x := .ref it) rfl (wpAny_bind inner))
end
/-! ### enumerate(zip(a, b), k) -/
/-- the lists at a and b as they stand at each turn, the items in new pairs, each in a new pair with its number -/
def Itez (K : PySem.W.Frag) (k0 : Int) (a b : Addr) : It :=
  ⟨fun i H => ∃ (xs ys : List V) (x y : V), SqL K H a xs ∧ SqL K H b ys ∧ xs[i]? = some x ∧ ys[i]? = some y,
    fun i H v H' => ∃ T U x y, v = .ref T ∧ H U = none ∧ H T = none ∧ T ≠ U ∧ H' = upd (upd H U (.tup [x, y])) T (.tup [.int (k0 + (i : Nat)), .ref U]) ∧ (∀ xs, SqL K H a xs → xs[i]? = some x) ∧ ∀ ys, SqL K H b ys → ys[i]? = some y,
    fun i H => ∃ xs ys : List V, SqL K H a xs ∧ SqL K H b ys ∧ (xs.length ≤ i ∨ ys.length ≤ i)⟩
/-- the enumerate lies apart from the zip's cells -/
structure EzApart (e z TI TO i1 i2 : Addr) : Prop where
  ez : e ≠ z
  eTI : e ≠ TI
  eTO : e ≠ TO
  ei1 : e ≠ i1
  ei2 : e ≠ i2
def EzSt (e z TI TO i1 i2 a b : Addr) (k0 : Int) (i : Nat) (h : Heap) : Prop :=
  (∃ old, IsEnum h e z (k0 + (i : Nat)) old) ∧ ZipS h z TI TO ∧ PySem.IsPair h TI (.ref i1) (.ref i2) ∧ (∃ x y, PySem.IsPair h TO x y) ∧ h.IsListIter i1 a i ∧ h.IsListIter i2 b i
theorem turn_ez {P : Program} {w : World} {K : PySem.W.Frag} {elts : List Expr} {kk : Nat} {tpos : Pos} {a b e z TI TO i1 i2 : Addr} (k0 : Int) (D : ZipApart z TI TO i1 i2 a b) (S : EzApart e z TI TO i1 i2) :
    Turn P w K (.Tuple elts kk tpos) (Itez K k0 a b) [e, z, TI, TO, i1, i2] e (EzSt e z TI TO i1 i2 a b k0) where
  mem := by simp
  obj := fun i h st c hc => by
    obtain ⟨⟨old, he⟩, ⟨f0, f1, hz, _⟩, hTI, ⟨x, y, hTO⟩, ⟨o1, e1, _, d1⟩, ⟨o2, e2, _, d2⟩⟩ := st
    have e' : c = e ∨ c = z ∨ c = TI ∨ c = TO ∨ c = i1 ∨ c = i2 := by simpa using hc
    rcases e' with q | q | q | q | q | q
    · rw [q]; exact ⟨_, he, fun v q => nomatch q⟩
    · rw [q]; exact ⟨_, hz, fun v q => nomatch q⟩
    · rw [q]; exact ⟨_, hTI, fun v q => nomatch q⟩
    · rw [q]; exact ⟨_, hTO, fun v q => nomatch q⟩
    · rw [q]; exact ⟨o1, e1, fun v q => by rw [d1] at q; cases q⟩
    · rw [q]; exact ⟨o2, e2, fun v q => by rw [d2] at q; cases q⟩
  keep := fun i h h' st k => by
    obtain ⟨⟨old, he⟩, ⟨f0, f1, hz, hf⟩, hTI, ⟨x, y, hTO⟩, h1, h2⟩ := st
    exact ⟨⟨old, k e (by simp) _ he⟩, ⟨f0, f1, k z (by simp) _ hz, hf⟩, k TI (by simp) _ hTI, ⟨x, y, k TO (by simp) _ hTO⟩, h1.at fun o q => k i1 (by simp) o q, h2.at fun o q => k i2 (by simp) o q⟩
  item := by
    intro X hP hw hK hc i pins s σ H E I hf st hg
    subst hP hw hK
    obtain ⟨⟨old, he⟩, hz, hTI, ⟨x0, y0, hTO⟩, h1, h2⟩ := st
    obtain ⟨xs, ys, x, y, hqx, hqy, hx, hy⟩ := hg
    obtain ⟨its, rv, p, _⟩ := I.list hqx
    obtain ⟨its2, rv2, p2, _⟩ := I.list hqy
    obtain ⟨u, hu, ru⟩ := rv.get hx
    obtain ⟨u2, hu2, ru2⟩ := rv2.get hy
    have lte : e < s.heap.objs.size := Heap.lt_size he
    have ltz : z < s.heap.objs.size := by obtain ⟨_, _, q, _⟩ := hz; exact Heap.lt_size q
    have ltTI : TI < s.heap.objs.size := Heap.lt_size hTI
    have ltTO : TO < s.heap.objs.size := Heap.lt_size hTO
    have lt1 : i1 < s.heap.objs.size := by obtain ⟨_, q, _⟩ := h1; exact Heap.lt_size q
    have lt2 : i2 < s.heap.objs.size := by obtain ⟨_, q, _⟩ := h2; exact Heap.lt_size q
    have all : ∀ c ∈ [e, z, TI, TO, i1, i2], c < s.heap.objs.size := fun c hcm => by
      have e' : c = e ∨ c = z ∨ c = TI ∨ c = TO ∨ c = i1 ∨ c = i2 := by simpa using hcm
      rcases e' with q | q | q | q | q | q <;> (rw [q]; assumption)
    have hT : s.TypeIs (.ref e) "enumerate" := ⟨_, he, rfl⟩
    unfold pyNext
    refine wpAny_bind (wpAny_attempt (wpAny_callSpecial?_slot (name := Str.ofString "__next__") hT PySem.F.slot_enumerate_next
      (wpAny_call_entry PySem.F.slot_enumerate_next hT PySem.F.entry_enumerate_next ?_ (PySem.F.args_enumerate_next_1 _))))
    refine enumnext_of (x := .ref s.heap.objs.size) (R := fun g => ZipS g z TI TO ∧ (∃ x y, PySem.IsPair g TO x y) ∧ g.IsListIter i1 a (i + 1) ∧ g.IsListIter i2 b (i + 1) ∧ PySem.IsPair g s.heap.objs.size u u2 ∧ g.objs.size = s.heap.objs.size + 1 ∧
      ∀ c o, c ≠ z → c ≠ TO → c ≠ i1 → c ≠ i2 → s.heap.get? c = some o → g.get? c = some o) he (fun {Q'} q => zipnext_any D hz hTI hTO h1 h2 p.isList p2.isList (x := u) (y := u2) (by simpa using hu) (by simpa using hu2) fun g a1 a2 a3 a4 a5 a6 a7 => q g ⟨a1, a2, a3, a4, a5, a6, a7⟩)
      (fun g r => r.2.2.2.2.2.2 _ _ S.ez S.eTO S.ei1 S.ei2 he) fun g g' r oe tT sz k => ?_
    obtain ⟨gz, ⟨x1, y1, gTO⟩, g1, g2, gU, gs, gk⟩ := r
    refine wpAny_pure ⟨_, rfl, wpAny_letOwnedTupleGo_enum (s := { s with heap := g', toks := s.toks + 1 }) oe fun h'' he' sb => ?_⟩
    have ge : e ≠ g.objs.size := by rw [gs]; exact Nat.ne_of_lt (Nat.lt_succ_of_lt lte)
    have eU : e ≠ s.heap.objs.size := Nat.ne_of_lt lte
    have UT : s.heap.objs.size ≠ g.objs.size := by rw [gs]; exact Nat.ne_of_lt (Nat.lt_succ_self _)
    have kk : ∀ c o, c ≠ e → g.get? c = some o → h''.get? c = some o := fun c o n q => (sb.2 c n).trans (k c o n q)
    have kall : ∀ c o, c ∉ [e, z, TI, TO, i1, i2] → s.heap.get? c = some o → h''.get? c = some o := fun c o hn q => kk c o (fun q' => hn (by simp [q'])) (gk c o (fun q' => hn (by simp [q'])) (fun q' => hn (by simp [q'])) (fun q' => hn (by simp [q'])) (fun q' => hn (by simp [q'])) q)
    have hU2 : PySem.IsPair h'' s.heap.objs.size u u2 := kk _ _ eU.symm gU
    have hT2 : h''.get? g.objs.size = some { cls := .type "tuple", data := .seq #[.int (k0 + (i : Nat)) s.toks, .ref s.heap.objs.size] } := (sb.2 _ ge.symm).trans tT
    have fU : H s.heap.objs.size = none := I.hok.fresh (Nat.le_refl _)
    have newU : ObjOk X.prog X.w (upd H s.heap.objs.size (.tup [x, y])) g s.heap.objs.size (.tup [x, y]) :=
      ⟨by show 2 ≤ sizeLine; decide, [u, u2], .cons ru (.cons ru2 .nil), ⟨_, gU, rfl, _, rfl⟩⟩
    have I1 : Inv X pins σ (upd H s.heap.objs.size (.tup [x, y])) { s with heap := g, toks := s.toks } := I.turnedNew (ch := [e, z, TI, TO, i1, i2]) (fun c o hn q => gk c o (fun q' => hn (by simp [q'])) (fun q' => hn (by simp [q'])) (fun q' => hn (by simp [q'])) (fun q' => hn (by simp [q'])) q) hf (Nat.le_refl _) newU
    have hf1 : ∀ c ∈ [e, z, TI, TO, i1, i2], FpOk X pins (upd H s.heap.objs.size (.tup [x, y])) c := fun c hcm => ⟨by rw [upd_ne (Nat.ne_of_lt (all c hcm))]; exact (hf c hcm).1, (hf c hcm).2⟩
    have fT : H g.objs.size = none := I.hok.fresh (by rw [gs]; exact Nat.le_succ _)
    have fT1 : upd H s.heap.objs.size (.tup [x, y]) g.objs.size = none := by rw [upd_ne UT.symm]; exact fT
    have newT : ObjOk X.prog X.w (upd (upd H s.heap.objs.size (.tup [x, y])) g.objs.size (.tup [.int (k0 + (i : Nat)), .ref s.heap.objs.size])) h'' g.objs.size (.tup [.int (k0 + (i : Nat)), .ref s.heap.objs.size]) :=
      ⟨by show 2 ≤ sizeLine; decide, [.int (k0 + (i : Nat)) s.toks, .ref s.heap.objs.size], .cons ⟨_, rfl⟩ (.cons rfl .nil), ⟨_, hT2, rfl, _, rfl⟩⟩
    have I2 : Inv X pins σ (upd (upd H s.heap.objs.size (.tup [x, y])) g.objs.size (.tup [.int (k0 + (i : Nat)), .ref s.heap.objs.size])) { s with heap := h'', toks := s.toks + 1 } :=
      I1.turnedNew (ch := [e, z, TI, TO, i1, i2]) (fun c o hn q => kk c o (fun q' => hn (by simp [q'])) q) hf1 (Nat.le_refl _) newT
    refine ⟨.ref g.objs.size, _, I2, rfl, ⟨_, _, x, y, rfl, fU, fT, UT.symm, rfl, fun l hl => by rw [I.list_inj hl hqx]; exact hx, fun l hl => by rw [I.list_inj hl hqy]; exact hy⟩, ⟨⟨.ref s.heap.objs.size, ?_⟩, ?_, ?_, ⟨x1, y1, ?_⟩, ?_, ?_⟩, fun c hcm => ?_⟩
    · have q : k0 + ((i + 1 : Nat) : Int) = k0 + (i : Nat) + 1 := by omega
      rw [q]; exact he'
    · obtain ⟨f0, f1, q, r⟩ := gz
      exact ⟨f0, f1, kk _ _ S.ez.symm q, r⟩
    · exact kk _ _ S.eTI.symm (gk _ _ D.TIz D.TITO D.TIi1 D.TIi2 hTI)
    · exact kk _ _ S.eTO.symm gTO
    · exact g1.at fun o q => kk _ o S.ei1.symm q
    · exact g2.at fun o q => kk _ o S.ei2.symm q
    · have lt := all c hcm
      rw [upd_ne (Nat.ne_of_lt (by rw [gs]; exact Nat.lt_succ_of_lt lt)), upd_ne (Nat.ne_of_lt lt)]
      exact (hf c hcm).1
  done := by
    intro X hP hw hK hc i pins s σ H E I hf st hg
    subst hP hw hK
    obtain ⟨⟨old, he⟩, hz, hTI, ⟨x0, y0, hTO⟩, h1, h2⟩ := st
    obtain ⟨xs, ys, hqx, hqy, hend⟩ := hg
    obtain ⟨its, rv, p, _⟩ := I.list hqx
    obtain ⟨its2, rv2, p2, _⟩ := I.list hqy
    have l1 := rv.length
    have l2 := rv2.length
    have hn : its.toArray[i]? = none ∨ its2.toArray[i]? = none := by
      rcases hend with q | q
      · exact .inl (by simp; omega)
      · exact .inr (by simp; omega)
    have hT : s.TypeIs (.ref e) "enumerate" := ⟨_, he, rfl⟩
    unfold pyNext
    refine wpAny_bind (wpAny_attempt (wpAny_callSpecial?_slot (name := Str.ofString "__next__") hT PySem.F.slot_enumerate_next
      (wpAny_call_entry PySem.F.slot_enumerate_next hT PySem.F.entry_enumerate_next (enumend_of he fun {Q'} => zipend_any (I.ok.hd hc) D hz hTI hTO h1 h2 p.isList p2.isList hn fun h' x k hx => ?_) (PySem.F.args_enumerate_next_1 _))))
    obtain ⟨o, ho, hcl⟩ := hx
    refine wpAny_bind (wpAny_isInstance (T := "StopIteration") (b := true) ⟨o, ho, hcl⟩ isSubtype_stop ?_)
    exact wpAny_pure ⟨rfl, I.turnedL (t' := s.toks) (ch := [e, z, TI, TO, i1, i2]) (fun c o hb q => k c o (fun q' => hb (by simp [q'])) (fun q' => hb (by simp [q'])) (fun q' => hb (by simp [q'])) (fun q' => hb (by simp [q'])) q) hf⟩
  self := fun A i s Q E st h => let ⟨⟨_, he⟩, _⟩ := st; wpAny_pyIter_enum he h
/-- enumerate(z, k), z a zip: one new cell -/
theorem meets_ez {z TI TO : Addr} (k : Int) (t : Tok) (hfit : Builtin.SmallTypes.fitsIndex k = true) :
    Meets (Builtin.«enumerate.__new__» ⟨[.type "enumerate", .ref z, .int k t], []⟩) (fun _ R s => PySem.IsZip s.heap z TI TO .none ∧
      R (.ok (.ret (.ref s.heap.objs.size))) { s with heap := s.heap.push { cls := .type "enumerate", data := .fields #[.none, .bool false, .ref z, rawInt k, .none, .none] } }) :=
  .of_wp fun prog w A R s h => by
    obtain ⟨hp, g, d, tk, os⟩ := s; obtain ⟨h1, h⟩ := h
    have hsub := sub_enumerate
    have hnf : (!Builtin.SmallTypes.fitsIndex k) = false := by rw [hfit]; rfl
    have q1 : ∀ {A' : Around} {E : Value → Shared → Prop} {Q : Value → Shared → Prop}, Q (.ref z) ⟨hp, g, d, tk, os⟩ → wpAny (model prog w) A' (pyIter (.ref z)) Q E ⟨hp, g, d, tk, os⟩ :=
      fun q => wpAny_pyIter_zip h1 q
    wp_walk using q1
    refine wpAny_stack_any fun st => wpAny_pure ?_
    split
    · rename_i c _ _ _ _ _
      cases (c == Value.type "enumerate")
      · wp_walk using q1
        exact ⟨_, rfl, h⟩
      · wp_walk using q1
        exact ⟨_, rfl, h⟩
    · wp_walk using q1
      exact ⟨_, rfl, h⟩
theorem ez_begins {prog : Program} {w : World} {A : Around} {E : Value → Shared → Prop} {s : Shared} {z TI TO : Addr} {k : Int} {t : Tok} {Q : Value → Shared → Prop} (hz : PySem.IsZip s.heap z TI TO .none) (hk0 : -(2 ^ 63) ≤ k) (hk1 : k < 2 ^ 63)
    (h : ∀ h', IsEnum h' s.heap.objs.size z k .none → (∀ b o, s.heap.get? b = some o → h'.get? b = some o) → Q (.ref s.heap.objs.size) { s with heap := h' }) :
    wpAny (model prog w) A (call (.type "enumerate") [.ref z, .int k t]) Q E s := by
  refine callType_new PySem.F.called_enumerate (by decide) (PySem.F.typeCall_enumerate_2 _ _) (PySem.F.newCall_enumerate_2 _ _) (fun obj => PySem.F.args_object_init_3 obj _ _) PySem.F.entry_enumerate_new
    (meets_ez k t (fits_start hk0 hk1)) ⟨hz, ?_⟩
  have he : IsEnum (s.heap.push { cls := .type "enumerate", data := .fields #[.none, .bool false, .ref z, rawInt k, .none, .none] }) s.heap.objs.size z k .none := Heap.get?_push_size _ rfl
  exact ⟨⟨_, he, rfl⟩, h _ he fun b o x => Heap.get?_push_of_some _ x⟩
def iEnumZip (K : PySem.W.Frag) (k : Int) (ta : TA) : TI := fun σ H R => ta σ H fun vs H1 => ∃ a b xs ys, vs = [.ref a, .ref b] ∧ SqL K H1 a xs ∧ SqL K H1 b ys ∧ R (Itez K k a b) H1
theorem pi_enumzip {X : Cx} {e e2 : Expr} {ta : TA} {p p2 p3 pos pos2 tpos : Pos} {elts : List Expr} {kk j : Nat} {k : Int} (hg : Gl X "enumerate") (hm : X.mg "enumerate" = none) (hg2 : Gl X "zip") (hm2 : X.mg "zip" = none) (ha : PA X [e, e2] ta) (hk0 : -(2 ^ 63) ≤ k := by decide) (hk1 : k < 2 ^ 63 := by decide)
    (hs : starEach [e, e2] X.env = (false, eval e X.env) :: starEach [e2] X.env := by rfl) (hpl : (backTo pos2 (starEach [e2] X.env)).any (·.1) = false := by rfl)
    (hs2 : starEach [.Call (.Name "zip" p2) [e, e2] [] pos2, .Constant (.int k) j p3] X.env = (false, eval (.Call (.Name "zip" p2) [e, e2] [] pos2) X.env) :: starEach [.Constant (.int k) j p3] X.env := by rfl)
    (hpl2 : (backTo pos (starEach [.Constant (.int k) j p3] X.env)).any (·.1) = false := by rfl) :
    PI X (.Tuple elts kk tpos) (.Call (.Name "enumerate" p) [.Call (.Name "zip" p2) [e, e2] [] pos2, .Constant (.int k) j p3] [] pos) (iEnumZip X.K k ta) := by
  refine ⟨fun pins s σ H R I h => ?_⟩
  refine Call_ (ld_blt I hg hm boot_enumerate (PyProof.Rows.callWith_type1 ?_ hs2 hpl2))
  rw [hs2]
  show wpAny _ _ (spliced ((false, eval (.Call (.Name "zip" p2) [e, e2] [] pos2) X.env) :: backTo pos (starEach [.Constant (.int k) j p3] X.env))) _ _ s
  refine Calls.spliced_cons ?_
  refine Call_ (ld_blt I hg2 hm2 PyProof.Rows.boot_zip (PyProof.Rows.callWith_type1 (thn (ha.run pos2 pins s σ H _ I h) fun us s1 ⟨vs, H1, I1, r1, q1⟩ => ?_) hs hpl))
  obtain ⟨a, b, xs, ys, ex, hqx, hqy, q⟩ := q1
  subst ex
  cases r1 with
  | cons r rr =>
    cases rr with
    | cons r' rr =>
      cases rr
      cases r
      cases r'
      obtain ⟨its, rv, p1, _⟩ := I1.list hqx
      obtain ⟨its2, rv2, p2, _⟩ := I1.list hqy
      have la : a < s1.heap.objs.size := p1.lt
      have lb : b < s1.heap.objs.size := p2.lt
      refine call_zip_2 p1.isList p2.isList fun h' hz hTI hTO h1 h2 hsz hk => ?_
      have I2 : Inv X pins σ H1 { s1 with heap := h' } := I1.kept (t' := s1.toks) hk
      show wpAny _ _ (spliced ((false, eval (.Constant (.int k) j p3) X.env) :: backTo pos (starEach [] X.env))) _ _ _
      refine Calls.spliced_cons (wpAny_Constant_int (Calls.spliced_nil ?_))
      refine ez_begins (TI := s1.heap.objs.size + 2) (TO := s1.heap.objs.size + 3) hz hk0 hk1 fun h'' he hk' => wpAny_pyIter_enum he ?_
      have I3 : Inv X pins σ H1 { s1 with heap := h'', toks := s1.toks + 1 } := I1.kept fun c o q => hk' _ _ (hk _ _ q)
      refine ⟨_, [_, s1.heap.objs.size + 4, s1.heap.objs.size + 2, s1.heap.objs.size + 3, s1.heap.objs.size, s1.heap.objs.size + 1], _, _, H1, rfl, I3, turn_ez k (PySem.W.ktu_apart s1.heap.objs.size a b la lb) ⟨?_, ?_, ?_, ?_, ?_⟩,
        ⟨⟨.none, ?_⟩, ⟨_, _, hk' _ _ hz, .inl rfl⟩, hk' _ _ hTI, ⟨_, _, hk' _ _ hTO⟩, h1.at fun o q => hk' _ o q, h2.at fun o q => hk' _ o q⟩, fun c hcm => ?_, q⟩
      any_goals (show h'.objs.size ≠ _; rw [hsz]; exact Nat.ne_of_gt (by omega))
      · have e0 : k + ((0 : Nat) : Int) = k := by omega
        rw [e0]; exact he
      · have e' : c = h'.objs.size ∨ c = s1.heap.objs.size + 4 ∨ c = s1.heap.objs.size + 2 ∨ c = s1.heap.objs.size + 3 ∨ c = s1.heap.objs.size ∨ c = s1.heap.objs.size + 1 := by simpa using hcm
        have hle : s1.heap.objs.size ≤ c := by
          rcases e' with z | z | z | z | z | z
          · rw [z, hsz]; exact Nat.le_add_right _ _
          · rw [z]; exact Nat.le_add_right _ _
          · rw [z]; exact Nat.le_add_right _ _
          · rw [z]; exact Nat.le_add_right _ _
          · rw [z]; exact Nat.le_refl _
          · rw [z]; exact Nat.le_add_right _ _
        exact I1.fpOk hle (I1.hok.fresh hle)
end KX

namespace KX
open PySem PySem.Spec PyProof.Rows L2
/-! ### walks that may lay new pairs: n turns, what comes at turn i is told by R -/
structure Wq (J : It) (n : Nat) (G : Hp → Prop) (R : Nat → V → Hp → Prop) : Prop where
  go : ∀ i H, G H → i < n → J.go i H
  yl : ∀ i H x H', G H → J.yld i H x H' → i < n → Same H H' ∧ R i x H'
  st : ∀ H, G H → J.stop n H
theorem Wk.q {J : It} {xs : List V} {G : Hp → Prop} (W : Wk J xs G) : Wq J xs.length G fun i x _ => xs[i]? = some x :=
  ⟨W.go, fun i H x H' g y h => by obtain ⟨e, k⟩ := W.yl i H x H' g y h; subst e; exact ⟨Same.refl _, k⟩, fun H g => W.st _ H g (Nat.le_refl _)⟩
/-- a pair at its address -/
def PairAt (f g : Nat → Option V) : Nat → V → Hp → Prop := fun i v H => ∃ T x y, v = .ref T ∧ H T = some (.tup [x, y]) ∧ f i = some x ∧ g i = some y
theorem wq_enum {K : PySem.W.Frag} {a : Addr} {xs : List V} : Wq (Ite K a) xs.length (fun H => SqL K H a xs) (PairAt (fun i => some (.int (i : Nat))) (fun i => xs[i]?)) := by
  have W := walk_enum (K := K) (a := a) (xs := xs)
  refine ⟨fun i H g h => W.goes i H h g, fun i H x H' g y h => ?_, fun H g => W.stops H g⟩
  obtain ⟨T, u, v, e, n, e2, h1, h2⟩ := W.yields i H x H' h g y
  subst e2
  exact ⟨same_new n, T, u, v, e, upd_same, h1, h2⟩
theorem wq_zip {K : PySem.W.Frag} {a b : Addr} {xs ys : List V} {n : Nat} (hn : n = min xs.length ys.length) : Wq (Itz K a b) n (fun H => SqL K H a xs ∧ SqL K H b ys) (PairAt (fun i => xs[i]?) (fun i => ys[i]?)) := by
  have W := walk_zip (K := K) (a := a) (b := b) (xs := xs) (ys := ys) hn
  refine ⟨fun i H g h => W.goes i H h g, fun i H x H' g y h => ?_, fun H g => W.stops H g⟩
  obtain ⟨T, u, v, e, n, e2, h1, h2⟩ := W.yields i H x H' h g y
  subst e2
  exact ⟨same_new n, T, u, v, e, upd_same, h1, h2⟩
def PairAt2 (k0 : Int) (f g : Nat → Option V) : Nat → V → Hp → Prop := fun i v H => ∃ T U x y, v = .ref T ∧ H T = some (.tup [.int (k0 + (i : Nat)), .ref U]) ∧ H U = some (.tup [x, y]) ∧ f i = some x ∧ g i = some y
theorem wq_ez {K : PySem.W.Frag} {k0 : Int} {a b : Addr} {xs ys : List V} {n : Nat} (hn : n = min xs.length ys.length) : Wq (Itez K k0 a b) n (fun H => SqL K H a xs ∧ SqL K H b ys) (PairAt2 k0 (fun i => xs[i]?) (fun i => ys[i]?)) := by
  subst hn
  refine ⟨fun i H g h => ?_, fun i H v H' g y h => ?_, fun H g => ⟨xs, ys, g.1, g.2, by omega⟩⟩
  · have h1 : i < xs.length := by omega
    have h2 : i < ys.length := by omega
    exact ⟨xs, ys, xs[i], ys[i], g.1, g.2, by simp [h1], by simp [h2]⟩
  · obtain ⟨T, U, x, z, e, hU, hT, ne, eH, k1, k2⟩ := y
    subst eH
    have n1 : upd H U (.tup [x, z]) T = none := by rw [upd_ne ne]; exact hT
    exact ⟨(same_new hU).trans (same_new n1), T, U, x, z, e, upd_same, by rw [upd_ne ne.symm]; exact upd_same, k1 xs g.1, k2 ys g.2⟩
theorem f_wq {J : It} {n : Nat} {G : Hp → Prop} {R : Nat → V → Hp → Prop} (W : Wq J n G R) {g : TG} {tb : TS} {f b k : L2.St → Hp → Prop} {Q : VK} {σ : L2.St} {H : Hp} (Pv : Nat → L2.St → Hp → Prop) (h0 : Pv 0 σ H) (hG : ∀ i σ H, Pv i σ H → G H)
    (hs : ∀ i x σ H H', i < n → Pv i σ H → Same H H' → R i x H' → g x σ H' fun σ2 H2 => tb ⟨Pv (i + 1), Q, f, Pv (i + 1)⟩ σ2 H2) (hd : ∀ σ H, Pv n σ H → f σ H) : ForR J g tb ⟨f, Q, b, k⟩ σ H := by
  refine ⟨fun i m σ H => m = n - i ∧ i ≤ n ∧ Pv i σ H, ⟨n, by simp, Nat.zero_le _, h0⟩, ?_⟩
  rintro i m σ H ⟨rfl, hi, p⟩
  by_cases hlt : i < n
  · refine .inr ⟨W.go i H (hG _ _ _ p) hlt, Pv (i + 1), fun σ' H' p' => ⟨n - (i + 1), by omega, rfl, hlt, p'⟩, fun x H' y => ?_⟩
    obtain ⟨s, r⟩ := W.yl i H x H' (hG _ _ _ p) y hlt
    exact hs i x σ H H' hlt p s r
  · have e : i = n := by omega
    subst e
    exact .inl ⟨W.st H (hG _ _ _ p), hd σ H p⟩
theorem l_wq {J : It} {n : Nat} {G : Hp → Prop} {R : Nat → V → Hp → Prop} (W : Wq J n G R) {g : TG} {tt : TT} {te : TE} {vs : List Nat} {Q : VK} {σ : L2.St} {H1 : Hp}
    (q : ∀ D H0, H1 D = none → Same H1 H0 → H0 D = some (.lst []) → ∃ Pv : Nat → List V → Hp → Prop, Pv 0 [] H0 ∧ (∀ i ys H, Pv i ys H → G H) ∧
      (∀ i ys x H H', i < n → Pv i ys H → Same H H' → R i x H' → g x (wipe σ vs) H' fun σ2 H2 => wipe σ2 vs = wipe σ vs ∧ tt σ2 H2 fun b H3 =>
        if b = true then te σ2 H3 fun y H4 => LcEl D (Pv (i + 1)) y H4 else ∃ ys, Pv (i + 1) ys H3) ∧
      (∀ ys H, Pv n ys H → Q (.ref D) H)) : LcR J g tt te vs σ H1 Q := by
  intro D hD
  obtain ⟨Pv, h0, hG, hs, hd⟩ := q D _ hD (same_new hD) upd_same
  refine ⟨fun i m H => m = n - i ∧ i ≤ n ∧ ∃ ys, Pv i ys H, ⟨n, by simp, Nat.zero_le _, _, h0⟩, ?_⟩
  rintro i m H ⟨rfl, hi, ys, p⟩
  by_cases hlt : i < n
  · refine .inr ⟨W.go i H (hG _ _ _ p) hlt, fun H => ∃ ys, Pv (i + 1) ys H, fun H' p' => ⟨n - (i + 1), by omega, rfl, hlt, p'⟩, fun x H' y => ?_⟩
    obtain ⟨s, r⟩ := W.yl i H x H' (hG _ _ _ p) y hlt
    exact hs i ys x H H' hlt p s r
  · have e : i = n := by omega
    subst e
    exact .inl ⟨W.st H (hG _ _ _ p), hd ys H p⟩
/-- .. the test and the element change nothing of what was tracked, the elements are no new objects -/
theorem l_fq {J : It} {n : Nat} {G : Hp → Prop} {R : Nat → V → Hp → Prop} (W : Wq J n G R) {g : TG} {tt : TT} {te : TE} {vs : List Nat} {Q : VK} {σ : L2.St} {H1 : Hp} (p : Nat → Bool) (F : Nat → V) (hlen : n < sizeLine) (hG : ∀ H', Same H1 H' → G H')
    (hs : ∀ (i : Nat) x H' (S : VK) (N : Hp → Prop), i < n → R i x H' → Same H1 H' → (p i = true → ∀ H'', Same H' H'' → S (F i) H'') → (p i = false → ∀ H'', Same H' H'' → N H'') →
      g x (wipe σ vs) H' fun σ2 H2 => wipe σ2 vs = wipe σ vs ∧ tt σ2 H2 fun b H3 => if b = true then te σ2 H3 S else N H3)
    (q : ∀ D H', H1 D = none → Same H1 H' → H' D = some (.lst (((List.range n).filter p).map F)) → Q (.ref D) H') : LcR J g tt te vs σ H1 Q := by
  refine l_wq W fun D H0 n0 s0 e0 => ⟨fun i ys H => Same H1 H ∧ H D = some (.lst ys) ∧ ys = ((List.range i).filter p).map F ∧ ys.length ≤ i, ⟨s0, e0, rfl, Nat.le_refl _⟩, fun i ys H h => hG _ h.1, fun i ys x Ha H hi h sa hr => ?_, fun ys H h => ?_⟩
  · obtain ⟨s1, e1, hy, hl⟩ := h
    replace s1 := s1.trans sa
    replace e1 := sa _ _ e1
    have ht : List.range (i + 1) = List.range i ++ [i] := List.range_succ
    refine hs i x H (fun y H4 => LcEl D (fun ys H => Same H1 H ∧ H D = some (.lst ys) ∧ ys = ((List.range (i + 1)).filter p).map F ∧ ys.length ≤ i + 1) y H4) (fun H3 => ∃ ys, Same H1 H3 ∧ H3 D = some (.lst ys) ∧ ys = ((List.range (i + 1)).filter p).map F ∧ ys.length ≤ i + 1) hi hr s1 (fun hp H'' s2 => ?_) fun hp H'' s2 => ?_
    · refine i_lcEl (s2 _ _ e1) (by omega) fun H5 o5 e5 => ⟨Off.new n0 (s1.trans s2) o5, e5, ?_, by simp; omega⟩
      rw [ht, List.filter_append, List.map_append, hy]
      simp [hp]
    · refine ⟨ys, s1.trans s2, s2 _ _ e1, ?_, by omega⟩
      rw [ht, List.filter_append, List.map_append, hy]
      simp [hp]
  · obtain ⟨s1, e1, hy, hl⟩ := h
    rw [hy] at e1
    exact q D H n0 s1 e1
theorem lc_yes {g : TG} {te : TE} {x : V} {σ σ1 : L2.St} {H : Hp} {vs : List Nat} {S : VK} {N : Hp → Prop} (h : g x σ1 H fun σ2 H2 => wipe σ2 vs = wipe σ vs ∧ te σ2 H2 S) : g x σ1 H fun σ2 H2 => wipe σ2 vs = wipe σ vs ∧ tYes σ2 H2 fun b H3 => if b = true then te σ2 H3 S else N H3 := by
  have e : (fun (σ2 : L2.St) H2 => wipe σ2 vs = wipe σ vs ∧ tYes σ2 H2 fun b H3 => if b = true then te σ2 H3 S else N H3) = fun σ2 H2 => wipe σ2 vs = wipe σ vs ∧ te σ2 H2 S := by
    funext σ2 H2
    show (_ ∧ if true = true then te σ2 H2 S else N H2) = _
    rw [if_pos rfl]
  rw [e]; exact h
theorem l_mq {J : It} {n : Nat} {G : Hp → Prop} {R : Nat → V → Hp → Prop} (W : Wq J n G R) {g : TG} {te : TE} {vs : List Nat} {Q : VK} {σ : L2.St} {H1 : Hp} (F : Nat → V) (hlen : n < sizeLine) (hG : ∀ H', Same H1 H' → G H')
    (hs : ∀ (i : Nat) x H' (S : VK), i < n → R i x H' → Same H1 H' → (∀ H'', Same H' H'' → S (F i) H'') → g x (wipe σ vs) H' fun σ2 H2 => wipe σ2 vs = wipe σ vs ∧ te σ2 H2 S)
    (q : ∀ D H', H1 D = none → Same H1 H' → H' D = some (.lst ((List.range n).map F)) → Q (.ref D) H') : LcR J g tYes te vs σ H1 Q :=
  l_fq W (fun _ => true) F hlen hG (fun i x H' S N hi hr s1 hS _ => lc_yes (hs i x H' S hi hr s1 (hS rfl))) (fun D H' n0 s e => q D H' n0 s (by rw [e, List.filter_eq_self.mpr (by simp)]))
/-- .. each element is data that is laid anew -/
theorem Off.newP {D : Addr} {H0 H H' : Hp} (s : Off D H H') : Same (KX.wo D (KX.newP H0 H)) (KX.wo D (KX.newP H0 H')) := fun b o e => by
  by_cases h : b = D
  · have e' : KX.wo D (KX.newP H0 H) b = none := if_pos h
    rw [e'] at e; cases e
  · rw [wo_get h] at e ⊢
    unfold KX.newP at e ⊢
    split at e
    · next z => rw [if_pos z]; exact s _ _ h e
    · cases e
theorem l_dq {J : It} {n : Nat} {G : Hp → Prop} {R : Nat → V → Hp → Prop} {b : Bool} {K : PySem.W.Frag} (W : Wq J n G R) {g : TG} {te : TE} {vs : List Nat} {Q : VK} {σ : L2.St} {H1 : Hp} (dd : Nat → PyData) (hlen : n < sizeLine) (hG : ∀ H', Same H1 H' → G H')
    (hs : ∀ (i : Nat) x H' (S : VK) (D : Addr) (zs : List V), i < n → R i x H' → Same H1 H' → H1 D = none → H' D = some (.lst zs) → (∀ y H'', Same H' H'' → DaF b K (wo D (newP H1 H'')) y (dd i) → S y H'') → g x (wipe σ vs) H' fun σ2 H2 => wipe σ2 vs = wipe σ vs ∧ te σ2 H2 S)
    (q : ∀ D H' ys, H1 D = none → Same H1 H' → H' D = some (.lst ys) → DaAllF b K (wo D (newP H1 H')) ys ((List.range n).map dd) → Q (.ref D) H') : LcR J g tYes te vs σ H1 Q := by
  refine l_wq W fun D H0 n0 s0 e0 => ⟨fun i ys H => Same H1 H ∧ H D = some (.lst ys) ∧ DaAllF b K (wo D (newP H1 H)) ys ((List.range i).map dd), ⟨s0, e0, .nil⟩, fun i ys H h => hG _ h.1, fun i ys x Ha H hi h sa hr => lc_yes ?_, fun ys H h => q D H ys n0 h.1 h.2.1 h.2.2⟩
  obtain ⟨s1, e1, hy⟩ := h
  replace s1 := s1.trans sa
  replace e1 := sa _ _ e1
  replace hy := hy.same (Off.newP (.of_same sa))
  refine hs i x H (fun y H4 => LcEl D (fun ys H => Same H1 H ∧ H D = some (.lst ys) ∧ DaAllF b K (wo D (newP H1 H)) ys ((List.range (i + 1)).map dd)) y H4) D ys hi hr s1 n0 e1 fun y H'' s2 hd => ?_
  have ll : ys.length = i := by rw [hy.len]; simp
  refine i_lcEl (s2 _ _ e1) (by omega) fun H5 o5 e5 => ⟨Off.new n0 (s1.trans s2) o5, e5, ?_⟩
  rw [List.range_succ, List.map_append]
  exact ((hy.same (Off.newP (.of_same s2))).same (Off.newP o5)).app (.cons (hd.same (Off.newP o5)) .nil)
/-- .. the test or the element draws -/
theorem l_rq {J : It} {n : Nat} {G : Hp → Prop} {R : Nat → V → Hp → Prop} (W : Wq J n G R) {g : TG} {tt : TT} {te : TE} {vs : List Nat} {Q : VK} {σ : L2.St} {H1 : Hp} (r : Addr) (ok : V → Prop) (hlen : n < sizeLine) (h0 : Rok H1 r) (hG : ∀ H', Off r H1 H' → G H')
    (hs : ∀ (i : Nat) x H' (S : VK) (N : Hp → Prop), i < n → R i x H' → Off r H1 H' → Rok H' r → (∀ y H'', ok y → Off r H' H'' → Rok H'' r → S y H'') → (∀ H'', Off r H' H'' → Rok H'' r → N H'') →
      g x (wipe σ vs) H' fun σ2 H2 => wipe σ2 vs = wipe σ vs ∧ tt σ2 H2 fun b H3 => if b = true then te σ2 H3 S else N H3)
    (q : ∀ D H' ys, H1 D = none → D ≠ r → Off r H1 H' → Rok H' r → H' D = some (.lst ys) → ys.length ≤ n → (∀ y ∈ ys, ok y) → Q (.ref D) H') : LcR J g tt te vs σ H1 Q := by
  refine l_wq W fun D H0 n0 s0 e0 => ⟨fun i ys H => Off r H1 H ∧ Rok H r ∧ H D = some (.lst ys) ∧ ys.length ≤ i ∧ ∀ y ∈ ys, ok y, ⟨.of_same s0, h0.same s0, e0, Nat.le_refl _, fun y h => by cases h⟩, fun i ys H h => hG _ h.1, fun i ys x Ha H hi h sa hr => ?_, fun ys H h => q D H ys n0 (h0.ne n0) h.1 h.2.1 h.2.2.1 h.2.2.2.1 h.2.2.2.2⟩
  obtain ⟨o1, r1, e1, hl, hy⟩ := h
  have hDr : D ≠ r := h0.ne n0
  replace o1 := o1.trans (.of_same sa)
  replace r1 := r1.same sa
  replace e1 := sa _ _ e1
  refine hs i x H (fun y H4 => LcEl D (fun ys H => Off r H1 H ∧ Rok H r ∧ H D = some (.lst ys) ∧ ys.length ≤ i + 1 ∧ ∀ y ∈ ys, ok y) y H4) (fun H3 => ∃ ys, Off r H1 H3 ∧ Rok H3 r ∧ H3 D = some (.lst ys) ∧ ys.length ≤ i + 1 ∧ ∀ y ∈ ys, ok y) hi hr o1 r1 (fun y H'' hk o2 r2 => ?_) fun H'' o2 r2 => ?_
  · refine i_lcEl (Off.get o2 hDr e1) (by omega) fun H5 o5 e5 => ⟨Off.thenF o5 n0 (Off.refl _ _) (o1.trans o2), r2.off o5 hDr.symm, e5, by simp; omega, fun z hz => ?_⟩
    rcases List.mem_append.mp hz with hz | hz
    · exact hy z hz
    · rw [List.mem_singleton.mp hz]; exact hk
  · exact ⟨ys, o1.trans o2, r2, Off.get o2 hDr e1, by omega, hy⟩
/-! ### readings -/
section
variable {K : PySem.W.Frag} {σ : L2.St} {H : Hp} {Q : VK}
theorem i_iEnum {ta : TA} {R : It → Hp → Prop} (q : ta σ H fun vs H1 => ∃ a xs, vs = [.ref a] ∧ SqL K H1 a xs ∧ R (Ite K a) H1) : iEnum K ta σ H R := q
theorem i_exen {p : Addr} {xs : List V} {F : Addr → Prop} (h : SqL K H p xs) (q : F p) : ∃ a xs, [V.ref p] = [.ref a] ∧ SqL K H a xs ∧ F a := ⟨p, xs, rfl, h, q⟩
theorem i_iZip {ta : TA} {R : It → Hp → Prop} (q : ta σ H fun vs H1 => ∃ a b xs ys, vs = [.ref a, .ref b] ∧ SqL K H1 a xs ∧ SqL K H1 b ys ∧ R (Itz K a b) H1) : iZip K ta σ H R := q
theorem i_exz {p r : Addr} {xs ys : List V} {F : Addr → Addr → Prop} (h : SqL K H p xs) (k : SqL K H r ys) (q : F p r) : ∃ a b xs ys, [V.ref p, V.ref r] = [.ref a, .ref b] ∧ SqL K H a xs ∧ SqL K H b ys ∧ F a b := ⟨p, r, xs, ys, rfl, h, k, q⟩
theorem i_ez {k0 : Int} {ta : TA} {R : It → Hp → Prop} (q : ta σ H fun vs H1 => ∃ a b xs ys, vs = [.ref a, .ref b] ∧ SqL K H1 a xs ∧ SqL K H1 b ys ∧ R (Itez K k0 a b) H1) : iEnumZip K k0 ta σ H R := q
/-- list(xs), xs a list -/
def rListN (K : PySem.W.Frag) : List V → Hp → VK → Prop := fun xs H Q => ∃ p ys, xs = [.ref p] ∧ SqL K H p ys ∧ NewR H (.lst ys) Q
theorem call_listN {X : Cx} : CallR X (.type "list") (rListN X.K) := fun pins s σ H xs us Q I r ⟨p, ys, e, h, q⟩ => call_list_of pins s σ H xs us Q I r ⟨p, ys, e, .inl h, q⟩
theorem i_listN {p : Addr} {ys : List V} (h : SqL K H p ys) (q : NewR H (.lst ys) Q) : rListN K [.ref p] H Q := ⟨p, ys, rfl, h, q⟩
/-- int(b), b a bool -/
def rIntB : List V → Hp → VK → Prop := fun xs H Q => ∃ k, xs = [.bl k] ∧ Q (.int (if k then 1 else 0)) H
theorem call_intB {X : Cx} : CallR X (.type "int") rIntB := fun pins s σ H xs us Q I r h => call_int1 pins s σ H xs us Q I r (.inr h)
theorem i_intB {k : Bool} (q : Q (.int (if k then 1 else 0)) H) : rIntB [.bl k] H Q := ⟨k, rfl, q⟩
theorem i_tyL {p : Addr} {xs : List V} {B : Prop} (h : SqL K H p xs) (q : B) : tyV K "list" (.ref p) H ∧ B := ⟨.inl ⟨rfl, xs, h⟩, q⟩
theorem i_isBl {a b : Bool} (q : Q (.bl (decide (a = b))) H) : rIsB (.bl a) (.bl b) H Q := ⟨a, b, rfl, rfl, q⟩
end
/-! ### rules within a comprehension: the written part by its own name -/
section
variable {X : Cx} {K : PySem.W.Frag}
theorem ix_tupK (h : X.K = K) : IxR X (rIxT K) := h ▸ ix_tup
theorem ix_listK (h : X.K = K) : IxR X (rIxL K) := h ▸ ix_list
theorem call_lenNK (h : X.K = K) : CallR X (.builtin "len") (rLen K) := h ▸ call_lenN
theorem call_reprNK (h : X.K = K) (hr : Rg 1 X.A) : CallR X (.builtin "repr") (rRepr K) := h ▸ call_reprN hr
theorem call_isiDK (h : X.K = K) : CallR X (.builtin "isinstance") (rIsiD K) := h ▸ call_isiD
theorem op_neDK (h : X.K = K) (hu : X.A.units + 64 < cLine) : OpR X (compareOp .NotEq) (rNeD K) := h ▸ op_neD hu
theorem op_eqDK (h : X.K = K) (hu : X.A.units + 64 < cLine) : OpR X (compareOp .Eq) (rEqD K) := h ▸ op_eqD hu
theorem lit_peK {e : Expr} {d : PyData} (h : X.K = K) (l : Lit e d) : PE X e (tLit K d) := h ▸ l.pe
end
/-! ### calls by keywords alone -/
def pmL {α : Type} (pm : List Nat) (l : List α) : List α := pm.filterMap (l[·]?)
theorem vals_get {vs : List V} {us : List Value} (r : Vals vs us) : ∀ i : Nat, (vs[i]? = none ∧ us[i]? = none) ∨ ∃ x u, vs[i]? = some x ∧ us[i]? = some u ∧ RelV x u := by
  induction r with
  | nil => exact fun i => .inl ⟨rfl, rfl⟩
  | cons r _ ih => exact fun i => match i with
    | 0 => .inr ⟨_, _, rfl, rfl, r⟩
    | i + 1 => ih i
theorem pmL_vals {vs : List V} {us : List Value} (r : Vals vs us) : ∀ pm : List Nat, Vals (pmL pm vs) (pmL pm us)
  | [] => .nil
  | i :: pm => by
    have ih := pmL_vals r pm
    unfold pmL at ih ⊢
    rcases vals_get r i with ⟨h1, h2⟩ | ⟨x, u, h1, h2, h3⟩
    · rw [List.filterMap_cons, List.filterMap_cons, h1, h2]; exact ih
    · rw [List.filterMap_cons, List.filterMap_cons, h1, h2]; exact .cons h3 ih
structure KB0 (K : PySem.W.Frag) (fd : FuncData) (ps ks : List Str) (pm : List Nat) : Prop where
  to : ∀ (s : Shared) (ws : List Value), K.In s.heap → ws.length = ks.length → BindsTo s fd ⟨[], ks.zip ws⟩ (ps.zip (pmL pm ws))
theorem _root_.L2.Fun.kb0 {K : PySem.W.Frag} {x qual : Str} {st : Stmt} {f : Addr} {fd : FuncData} {ps ks : List Str} {pm : List Nat} (F : Fun K x qual st f fd)
    (h : ∀ (kV doc pm' : Value) (an : Option Addr) (cdv ct : Value) (ws : List Value), ws.length = ks.length → bindArgs (PySem.W.fnOf x qual (defArgs st) (defBody st) (defScope st) .none kV doc pm' an cdv ct) ⟨[], ks.zip ws⟩ = pure (ps.zip (pmL pm ws))) : KB0 K fd ps ks pm := by
  obtain ⟨oc, od, kV, doc, pm', an, cdv, ct, osl, rfl, lk, hcd⟩ := F.ex
  exact ⟨fun s ws _ hl => .of_eq (h kV doc pm' an cdv ct ws hl)⟩
def tCallW (sp : Sp) (n : Nat) (pm : List Nat) (E : XK) (tk : TA) : TE := fun σ H Q => tk σ H fun zs H2 => zs.length = n ∧ sp (pmL pm zs) H2 Q E
theorem pe_callW {X : Cx} {CX : CXT} {k : Nat} {f : Addr} {fd : FuncData} {ps ks : List Str} {sp : Sp} {E : XK} {x : Str} {p pos : Pos} {kws : List Keyword} {tk : TA} {pm : List Nat}
    (F : FnOk X.prog X.w X.K X.mg X.base CX k f fd ps sp) (hr : Room k X.A) (hg : Gl X x) (hm : X.mg x = some (.ref f)) (hk : PySem.W.keepIn X.K (.ref f) = true) (hb : KB0 X.K fd ps ks pm) (hx : Passes CX X E) (hkw : PK X kws tk)
    (hall : (backToKw pos (keywordEach kws X.env)).all (·.1.isSome) = true := by rfl) (hks : (backToKw pos (keywordEach kws X.env)).filterMap (·.1) = ks := by rfl) (hdb : (x == ("__debug__" : Str)) = false := by decide)
    (hpl : ((backTo pos (starEach [] X.env)).any (·.1) || (backToKw pos (keywordEach kws X.env)).any (·.1.isNone)) = false := by rfl) :
    PE X (.Call (.Name x p) [] kws pos) (tCallW sp ks.length pm E tk) := by
  refine ⟨fun pins s σ H Q I h => ?_⟩
  refine wpAny_Call_Name_kw (ld_glob I hg hm ?_ hdb)
  refine PySem.W.callWith_KW0 (h₀ := X.base) I.ok.mod.kin hk hall ?_ hpl
  refine thn (hkw.run pos pins s σ H _ I h) fun ws s2 ⟨zs, H2, I2, rz, lz, q2⟩ => ⟨I2.kIn, ?_⟩
  rw [hks]
  have r2 := pmL_vals rz pm
  have hl : (pmL pm ws).length = ps.length := by rw [← r2.length]; exact F.len _ _ _ _ q2
  refine wpAny_call (codeAny_mono (F.run X.A X.stack s2 H2 ⟨[], ks.zip ws⟩ (pmL pm ws) (pmL pm zs) Q E hr I2.env0 (hb.to s2 ws I2.kIn (by rw [← rz.length]; exact lz)) r2 q2) fun r s' hq => ?_)
  cases r with
  | error e => exact hx pins σ H2 s2 e s' I2 hq
  | ok fl =>
    cases fl with
    | ret u => exact I2.after hq
    | next => exact False.elim hq
    | brk => exact False.elim hq
    | cont => exact False.elim hq
theorem i_callW {sp : Sp} {n : Nat} {pm : List Nat} {E : XK} {tk : TA} {σ : L2.St} {H : Hp} {Q : VK} (q : tk σ H fun zs H2 => zs.length = n ∧ sp (pmL pm zs) H2 Q E) : tCallW sp n pm E tk σ H Q := q
end KX

namespace KX
open PySem PySem.Spec PyProof.Rows L2
/-! ### lists of windows -/
theorem da_list {b : Bool} {K : PySem.W.Frag} {H : Hp} {v : V} {d : PyData} (h : DaF b K H v d) (e : isi d "list" = true) : ∃ a xs ds, v = .ref a ∧ d = .list ds ∧ SqL K H a xs ∧ DaAllF b K H xs ds := by
  cases h with
  | lst hq _ ha => exact ⟨_, _, _, rfl, rfl, hq, ha⟩
  | _ => cases e
theorem da_get {b : Bool} {K : PySem.W.Frag} {H : Hp} : ∀ {xs : List V} {ds : List PyData}, DaAllF b K H xs ds → ∀ {i : Nat} {x : V}, xs[i]? = some x → ∃ d, ds[i]? = some d ∧ DaF b K H x d
  | _, _, .nil, i, x, h => by simp at h
  | _, _, .cons h r, 0, x, e => by cases e; exact ⟨_, rfl, h⟩
  | _, _, .cons h r, i + 1, x, e => da_get r (by simpa using e)
/-- the position of the first one that is no window, None for what is no list -/
def badV : PyData → Option V
  | .list ds => (ds.findIdx? fun d => !winB d).map fun i => .int (i : Nat)
  | _ => some .non
theorem badV_not {d : PyData} (h : isi d "list" = false) : badV d = some .non := by
  cases d <;> first | rfl | cases h
theorem badV_none {ds : List PyData} (h : ∀ d ∈ ds, winB d = true) : badV (.list ds) = none := by
  show (ds.findIdx? fun d => !winB d).map (fun i => V.int (i : Nat)) = none
  rw [List.findIdx?_eq_none_iff.mpr fun d hd => by rw [h d hd]; rfl]; rfl
theorem badV_at {ds : List PyData} {i : Nat} {d : PyData} (hj : ∀ j, j < i → ∀ d, ds[j]? = some d → winB d = true) (hd : ds[i]? = some d) (h : winB d = false) : badV (.list ds) = some (.int i) := by
  obtain ⟨hi, e⟩ := List.getElem?_eq_some_iff.mp hd
  have : ds.findIdx? (fun d => !winB d) = some i := by
    rw [List.findIdx?_eq_some_iff_getElem]
    refine ⟨hi, by rw [e, h]; rfl, fun j hji => ?_⟩
    have hl : j < ds.length := Nat.lt_trans hji hi
    rw [hj j hji _ (List.getElem?_eq_getElem hl)]; decide
  show (ds.findIdx? fun d => !winB d).map (fun i => V.int (i : Nat)) = _
  rw [this]; rfl
theorem badV_all {ds : List PyData} (h : badV (.list ds) = none) : ∀ d ∈ ds, winB d = true := by
  replace h : (ds.findIdx? fun d => !winB d).map (fun i => V.int (i : Nat)) = none := h
  have h' : ds.findIdx? (fun d => !winB d) = none := by simpa using h
  intro d hd
  have := List.findIdx?_eq_none_iff.mp h' d hd
  simpa using this
/-- a list of windows, as windows -/
theorem wins_of : ∀ {ds : List PyData}, (∀ d ∈ ds, winB d = true) → ∃ ws : List (Int × Option Int), ds = ws.map winD ∧ ∀ w ∈ ws, okW w
  | [], _ => ⟨[], rfl, by simp⟩
  | d :: ds, h => by
    obtain ⟨w, hw⟩ := Option.isSome_iff_exists.mp (show (winP d).isSome = true from h d (by simp))
    obtain ⟨e, ok⟩ := winP_some hw
    obtain ⟨ws, e2, k⟩ := wins_of (ds := ds) fun x hx => h x (List.mem_cons_of_mem _ hx)
    exact ⟨w :: ws, by rw [e, e2]; rfl, List.forall_mem_cons.mpr ⟨ok, k⟩⟩
theorem badV_wins {ws : List (Int × Option Int)} (h : ∀ w ∈ ws, okW w) : badV (.list (ws.map winD)) = none := badV_none fun d hd => by
  obtain ⟨w, hw, rfl⟩ := List.mem_map.mp hd
  unfold winB
  rw [winP_D (h w hw)]; rfl
/-- what reaches, contains, rises -/
def reachW (w : Int × Option Int) (n : Int) : Bool := match w.2 with
  | none => true
  | some h => decide (h ≥ n)
def contW (w : Int × Option Int) (n : Int) : Bool := decide (w.1 ≤ n) && reachW w n
def risesW (w u : Int × Option Int) : Bool := !decide (u.1 < w.1) && (match w.2 with
  | none => u.2.isNone
  | some h => reachW u h)
def posV : Option Nat → V
  | none => .non
  | some i => .int (i : Nat)
/-- the first fall, from place i on -/
def fallAt : Nat → (Int × Option Int) → List (Int × Option Int) → Option Nat
  | _, _, [] => none
  | i, w, u :: r => if risesW w u = true then fallAt (i + 1) u r else some i
def fallI : List (Int × Option Int) → Option Nat
  | [] => none
  | w :: r => fallAt 1 w r
def leastI (n : Int) (ws : List (Int × Option Int)) : Option Nat := ws.findIdx? fun w => reachW w n
theorem fallAt_none {i : Nat} {w : Int × Option Int} {r : List (Int × Option Int)} : fallAt i w r = none ↔ ∀ (j : Nat) a b, (w :: r)[j]? = some a → r[j]? = some b → risesW a b = true := by
  induction r generalizing i w with
  | nil => simp [fallAt]
  | cons u r ih =>
    unfold fallAt
    by_cases h : risesW w u = true
    · rw [if_pos h, ih]
      constructor
      · intro k j a b ha hb
        cases j with
        | zero => simp at ha hb; rw [← ha, ← hb]; exact h
        | succ j => exact k j a b (by simpa using ha) (by simpa using hb)
      · intro k j a b ha hb
        exact k (j + 1) a b (by simpa using ha) (by simpa using hb)
    · rw [if_neg h]
      constructor
      · intro k; cases k
      · intro k; exact absurd (k 0 w u rfl rfl) h
theorem fallAt_some {i : Nat} {w : Int × Option Int} {r : List (Int × Option Int)} {j : Nat} (hj : ∀ k, k < j → ∀ a b, (w :: r)[k]? = some a → r[k]? = some b → risesW a b = true) {a b : Int × Option Int} (ha : (w :: r)[j]? = some a) (hb : r[j]? = some b) (h : risesW a b = false) : fallAt i w r = some (i + j) := by
  induction r generalizing i w j with
  | nil => simp at hb
  | cons u r ih =>
    unfold fallAt
    cases j with
    | zero =>
      simp at ha hb
      rw [ha, hb, if_neg (by rw [h]; decide)]; rfl
    | succ j =>
      rw [if_pos (hj 0 (Nat.succ_pos _) w u rfl rfl)]
      rw [ih (j := j) (fun k hk a b ha hb => hj (k + 1) (by omega) a b (by simpa using ha) (by simpa using hb)) (by simpa using ha) (by simpa using hb)]
      congr 1; omega
theorem fallI_none {ws : List (Int × Option Int)} (h : ∀ (j : Nat) a b, ws[j]? = some a → ws[j + 1]? = some b → risesW a b = true) : fallI ws = none := by
  cases ws with
  | nil => rfl
  | cons w r => exact fallAt_none.mpr fun j a b ha hb => h j a b ha (by simpa using hb)
theorem fallI_some {ws : List (Int × Option Int)} {j : Nat} (hj : ∀ k, k < j → ∀ a b, ws[k]? = some a → ws[k + 1]? = some b → risesW a b = true) {a b : Int × Option Int} (ha : ws[j]? = some a) (hb : ws[j + 1]? = some b) (h : risesW a b = false) : fallI ws = some (1 + j) := by
  cases ws with
  | nil => simp at ha
  | cons w r => exact fallAt_some (fun k hk a b ha hb => hj k hk a b ha (by simpa using hb)) ha (by simpa using hb) h
theorem badV_list {d : PyData} (h : badV d = none) : ∃ ws : List (Int × Option Int), d = .list (ws.map winD) ∧ ∀ w ∈ ws, okW w := by
  cases d with
  | list ds =>
    obtain ⟨ws, e, k⟩ := wins_of (badV_all h)
    exact ⟨ws, by rw [e], k⟩
  | _ => cases h
theorem wins_get {ws : List (Int × Option Int)} {i : Nat} {d : PyData} (h : (ws.map winD)[i]? = some d) : ∃ w, ws[i]? = some w ∧ d = winD w := by
  rw [List.getElem?_map] at h
  cases e : ws[i]? with
  | none => rw [e] at h; cases h
  | some w => rw [e] at h; cases h; exact ⟨w, rfl, rfl⟩
theorem cutV_from {xs : List V} {i : Int} (h : 0 ≤ i) : cutV xs (some i) none = xs.drop i.toNat := by
  unfold cutV HT.sIx
  dsimp only
  rw [if_neg (by omega)]
  by_cases k : i.toNat ≤ xs.length
  · rw [List.take_of_length_le (by rw [List.length_drop]; omega)]
    congr 1; omega
  · rw [List.drop_of_length_le (by omega), List.drop_of_length_le (by omega)]; simp
theorem cutV_to {xs : List V} {i : Int} (h : 0 ≤ i) : cutV xs none (some i) = xs.take i.toNat := by
  unfold cutV HT.sIx
  dsimp only
  rw [List.drop_zero, Nat.sub_zero, if_neg (by omega)]
  by_cases k : i.toNat ≤ xs.length
  · congr 1; omega
  · rw [List.take_of_length_le (by omega), List.take_of_length_le (by omega)]
theorem leastI_some {n : Int} {ws : List (Int × Option Int)} {i : Nat} (hj : ∀ j, j < i → ∀ w, ws[j]? = some w → reachW w n = false) {w : Int × Option Int} (hw : ws[i]? = some w) (h : reachW w n = true) : leastI n ws = some i := by
  obtain ⟨hi, e⟩ := List.getElem?_eq_some_iff.mp hw
  unfold leastI
  rw [List.findIdx?_eq_some_iff_getElem]
  refine ⟨hi, by rw [e, h], fun j hji => ?_⟩
  rw [hj j hji _ (List.getElem?_eq_getElem (Nat.lt_trans hji hi))]; decide
theorem leastI_none {n : Int} {ws : List (Int × Option Int)} (hj : ∀ (j : Nat) w, ws[j]? = some w → reachW w n = false) : leastI n ws = none := by
  unfold leastI
  rw [List.findIdx?_eq_none_iff]
  intro w hw
  obtain ⟨j, hj2, rfl⟩ := List.getElem_of_mem hw
  exact hj j _ (by simp)
/-! ### a list of windows at a, apart from the law's numbers at r -/
def WLs (K : PySem.W.Frag) (H : Hp) (r a : Addr) (ws : List (Int × Option Int)) : Prop := a ≠ r ∧ ∃ xs, H a = some (.lst xs) ∧ DaAll K (wo a (wo r H)) xs (ws.map winD)
theorem wo_off {r a : Addr} {H H' : Hp} (s : Off r H H') : Same (wo a (wo r H)) (wo a (wo r H')) := Same.wo s.wo
theorem wo_off2 {r a : Addr} {H H' : Hp} (s : Off a H H') : Same (wo a (wo r H)) (wo a (wo r H')) := fun b o e => by
  by_cases h : b = a
  · have e' : wo a (wo r H) b = none := if_pos h
    rw [e'] at e; cases e
  · rw [wo_get h] at e ⊢
    by_cases k : b = r
    · have e' : wo r H b = none := if_pos k
      rw [e'] at e; cases e
    · rw [wo_get k] at e ⊢
      exact s _ _ h e
theorem WLs.off {K : PySem.W.Frag} {H H' : Hp} {r a : Addr} {ws : List (Int × Option Int)} (h : WLs K H r a ws) (s : Off r H H') : WLs K H' r a ws := by
  obtain ⟨n, xs, e, d⟩ := h
  exact ⟨n, xs, s.get n e, d.same (wo_off s)⟩
theorem WLs.da {K : PySem.W.Frag} {H : Hp} {r a : Addr} {ws : List (Int × Option Int)} (h : WLs K H r a ws) : Da K H (.ref a) (.list (ws.map winD)) := by
  obtain ⟨n, xs, e, d⟩ := h
  exact Da.lst (SqL.of e) ((d.same wo_same).same wo_same)
theorem da_set {b : Bool} {K : PySem.W.Frag} {H : Hp} {v : V} {d : PyData} (h : DaF b K H v d) : ∀ {xs : List V} {ds : List PyData}, DaAllF b K H xs ds → ∀ i : Nat, DaAllF b K H (xs.set i v) (ds.set i d)
  | _, _, .nil, _ => .nil
  | _, _, .cons _ r, 0 => .cons h r
  | _, _, .cons k r, i + 1 => .cons k (da_set h r i)
/-- one more, or another one: v a window laid anew -/
theorem da_win2 {K : PySem.W.Frag} {H : Hp} {r a p : Addr} {w : Int × Option Int} (h1 : p ≠ a) (h2 : p ≠ r) (e : H p = some (.tup [.int w.1, hiV w.2])) : Da K (wo a (wo r H)) (.ref p) (winD w) :=
  (da_winT (SqT.of (by rw [wo_get h1, wo_get h2]; exact e))).da
theorem WLs.app {K : PySem.W.Frag} {H H' : Hp} {r a : Addr} {ws : List (Int × Option Int)} {w : Int × Option Int} {v : V} {xs : List V} (h : WLs K H r a ws) (e : H a = some (.lst xs)) (o : Off a H H') (e' : H' a = some (.lst (xs ++ [v]))) (d : Da K (wo a (wo r H)) v (winD w)) : WLs K H' r a (ws ++ [w]) := by
  obtain ⟨n, xs', e2, k⟩ := h
  rw [e] at e2
  cases e2
  refine ⟨n, _, e', ?_⟩
  rw [List.map_append]
  exact (k.same (wo_off2 o)).app (.cons (d.same (wo_off2 o)) .nil)
theorem WLs.set {K : PySem.W.Frag} {H H' : Hp} {r a : Addr} {ws : List (Int × Option Int)} {w : Int × Option Int} {v : V} {xs : List V} {i : Nat} (h : WLs K H r a ws) (e : H a = some (.lst xs)) (o : Off a H H') (e' : H' a = some (.lst (xs.set i v))) (d : Da K (wo a (wo r H)) v (winD w)) : WLs K H' r a (ws.set i w) := by
  obtain ⟨n, xs', e2, k⟩ := h
  rw [e] at e2
  cases e2
  refine ⟨n, _, e', ?_⟩
  rw [List.map_set]
  exact da_set (d.same (wo_off2 o)) (k.same (wo_off2 o)) i
theorem WLs.len {K : PySem.W.Frag} {H : Hp} {r a : Addr} {ws : List (Int × Option Int)} {xs : List V} (h : WLs K H r a ws) (e : H a = some (.lst xs)) : xs.length = ws.length := by
  obtain ⟨_, xs', e2, k⟩ := h
  rw [e] at e2
  cases e2
  rw [k.len]; simp
/-! ### the law's own look -/
def topW (w : Int × Option Int) : Int := match w.2 with
  | none => 10 ^ Int.toNat 64
  | some h => h
def fallsW (w u : Int × Option Int) : Bool := decide (u.1 < w.1) || decide (topW u < topW w)
/-- what the law's numbers stay below -/
def W60 (w : Int × Option Int) : Prop := okW w ∧ w.1 < 10 ^ 60 ∧ ∀ h, w.2 = some h → h < 10 ^ 60
theorem falls_rises {w u : Int × Option Int} (hw : W60 w) (hu : W60 u) : fallsW w u = !risesW w u := by
  obtain ⟨l, o⟩ := w
  obtain ⟨l2, o2⟩ := u
  have z : (10 : Int) ^ 60 < 10 ^ Int.toNat 64 := by decide +kernel
  unfold fallsW risesW reachW topW
  have h1 := hw.2.2
  have h2 := hu.2.2
  dsimp only at h1 h2 ⊢
  generalize (10 : Int) ^ Int.toNat 64 = m at z ⊢
  cases o <;> cases o2 <;> simp
  · rename_i k
    have := h2 k rfl
    exact .inr (by omega)
  · rename_i k
    have := h1 k rfl
    omega
  · rw [← decide_not]
    congr 2
    exact propext (by omega)
theorem atI_zero {v : V} {xs : List V} : atI (v :: xs) 0 = some v := by
  unfold atI ixN
  simp
def firstI (bs : List Bool) : Option Nat := (List.range bs.length).find? fun i => bs.getD i false
theorem first_get {bs : List Bool} : atI ((((List.range bs.length).filter fun i => bs.getD i false).map fun i => V.int ((i : Nat) : Int)) ++ [V.non]) 0 = some (posV (firstI bs)) := by
  unfold firstI
  rw [← List.head?_filter]
  cases (List.range bs.length).filter fun i => bs.getD i false with
  | nil => rfl
  | cons i r => exact atI_zero
theorem firstI_some {bs : List Bool} {i : Nat} (h : bs[i]? = some true) (hj : ∀ j, j < i → ∀ b, bs[j]? = some b → b = false) : firstI bs = some i := by
  obtain ⟨hi, e⟩ := List.getElem?_eq_some_iff.mp h
  unfold firstI
  rw [List.find?_range_eq_some]
  refine ⟨by rw [List.getD_eq_getElem?_getD, h]; rfl, by simpa using hi, fun j hji => ?_⟩
  have hl : j < bs.length := Nat.lt_trans hji hi
  rw [List.getD_eq_getElem?_getD, List.getElem?_eq_getElem hl]
  have := hj j hji _ (List.getElem?_eq_getElem hl)
  simp [this]
theorem firstI_none {bs : List Bool} (hj : ∀ (j : Nat) b, bs[j]? = some b → b = false) : firstI bs = none := by
  unfold firstI
  rw [List.find?_eq_none]
  intro j hm
  have hl : j < bs.length := by simpa using hm
  rw [List.getD_eq_getElem?_getD, List.getElem?_eq_getElem hl]
  have := hj j _ (List.getElem?_eq_getElem hl)
  simp [this]
/-- the law's flags: none at the first window, then where it falls -/
def flagI (ws : List (Int × Option Int)) (i : Nat) : Bool := match ws[i]?, ws[i + 1]? with
  | some a, some b => !risesW a b
  | _, _ => false
def flagsB (ws : List (Int × Option Int)) : List Bool := false :: (List.range (ws.length - 1)).map (flagI ws)
theorem pair_of {b : Bool} {K : PySem.W.Frag} {H : Hp} {xs : List V} {ws : List (Int × Option Int)} (ha : DaAllF b K H xs (ws.map winD)) {i : Nat} {x1 x2 : V} (h1 : xs[i]? = some x1) (h2 : xs[Int.toNat 1 + i]? = some x2) :
    ∃ w1 w2, ws[i]? = some w1 ∧ ws[i + 1]? = some w2 ∧ DaF b K H x1 (winD w1) ∧ DaF b K H x2 (winD w2) ∧ flagI ws i = !risesW w1 w2 := by
  obtain ⟨d1, hd1, k1⟩ := da_get ha h1
  obtain ⟨d2, hd2, k2⟩ := da_get ha h2
  obtain ⟨w1, hw1, rfl⟩ := wins_get hd1
  obtain ⟨w2, hw2, rfl⟩ := wins_get hd2
  have i1 : Int.toNat 1 + i = i + 1 := by omega
  rw [i1] at hw2
  exact ⟨w1, w2, hw1, hw2, k1, k2, by unfold flagI; rw [hw1, hw2]⟩
theorem flags_get {ws : List (Int × Option Int)} {i : Nat} {a b : Int × Option Int} (ha : ws[i]? = some a) (hb : ws[i + 1]? = some b) : (flagsB ws)[i + 1]? = some (!risesW a b) := by
  have := (List.getElem?_eq_some_iff.mp hb).1
  unfold flagsB
  rw [List.getElem?_cons_succ, List.getElem?_map, List.getElem?_range (by omega)]
  simp [flagI, ha, hb]
theorem first_fall {ws : List (Int × Option Int)} : firstI ((flagsB ws).take ws.length) = fallI ws := by
  by_cases hall : ∀ (j : Nat) a b, ws[j]? = some a → ws[j + 1]? = some b → risesW a b = true
  · rw [fallI_none hall]
    refine firstI_none fun j c hc => ?_
    rw [List.getElem?_take] at hc
    split at hc
    · next hl =>
      cases j with
      | zero => cases hc; rfl
      | succ j =>
        have h1 : j < ws.length := by omega
        rw [flags_get (List.getElem?_eq_getElem h1) (List.getElem?_eq_getElem hl)] at hc
        cases hc
        rw [hall j _ _ (List.getElem?_eq_getElem h1) (List.getElem?_eq_getElem hl)]; rfl
    · cases hc
  · obtain ⟨j, hj, hm⟩ : ∃ j, (∃ a b, ws[j]? = some a ∧ ws[j + 1]? = some b ∧ risesW a b = false) ∧ ∀ k, k < j → ∀ a b, ws[k]? = some a → ws[k + 1]? = some b → risesW a b = true := by
      have ex : ∃ j, ∃ a b, ws[j]? = some a ∧ ws[j + 1]? = some b ∧ risesW a b = false := by
        false_or_by_contra
        rename_i hn
        refine hall fun j a b ha hb => ?_
        cases h : risesW a b with
        | true => rfl
        | false => exact absurd ⟨j, a, b, ha, hb, h⟩ hn
      obtain ⟨j, hj⟩ := ex
      induction j using Nat.strongRecOn with
      | _ j ih =>
        by_cases hk : ∃ k, k < j ∧ ∃ a b, ws[k]? = some a ∧ ws[k + 1]? = some b ∧ risesW a b = false
        · obtain ⟨k, hkj, hk⟩ := hk
          exact ih k hkj hk
        · refine ⟨j, hj, fun k hkj a b ha hb => ?_⟩
          cases h : risesW a b with
          | true => rfl
          | false => exact absurd ⟨k, hkj, a, b, ha, hb, h⟩ hk
    obtain ⟨a, b, ha, hb, h⟩ := hj
    have hl := (List.getElem?_eq_some_iff.mp hb).1
    rw [fallI_some hm ha hb h, Nat.add_comm]
    refine firstI_some ?_ fun k hk c hc => ?_
    · rw [List.getElem?_take, if_pos hl, flags_get ha hb, h]; rfl
    · rw [List.getElem?_take, if_pos (by omega)] at hc
      cases k with
      | zero => cases hc; rfl
      | succ k =>
        have h1 : k < ws.length := by omega
        have h2 : k + 1 < ws.length := by omega
        rw [flags_get (List.getElem?_eq_getElem h1) (List.getElem?_eq_getElem h2)] at hc
        cases hc
        rw [hm k (by omega) _ _ (List.getElem?_eq_getElem h1) (List.getElem?_eq_getElem h2)]; rfl
theorem first_least {ws : List (Int × Option Int)} {n : Int} : firstI (ws.map fun w => reachW w n) = leastI n ws := by
  by_cases hall : ∀ (j : Nat) w, ws[j]? = some w → reachW w n = false
  · rw [leastI_none hall]
    refine firstI_none fun j b hb => ?_
    rw [List.getElem?_map] at hb
    cases e : ws[j]? with
    | none => rw [e] at hb; cases hb
    | some w => rw [e] at hb; cases hb; exact hall j w e
  · cases hf : leastI n ws with
    | none =>
      unfold leastI at hf
      rw [List.findIdx?_eq_none_iff] at hf
      exact absurd (fun j w hw => hf w (List.mem_of_getElem? hw)) hall
    | some i =>
      unfold leastI at hf
      rw [List.findIdx?_eq_some_iff_getElem] at hf
      obtain ⟨hi, h1, h2⟩ := hf
      refine firstI_some (by rw [List.getElem?_map, List.getElem?_eq_getElem hi]; simp [h1]) fun j hj b hb => ?_
      have hl : j < ws.length := Nat.lt_trans hj hi
      rw [List.getElem?_map, List.getElem?_eq_getElem hl] at hb
      cases hb
      simpa using h2 j hj
theorem wo_new {r a p : Addr} {H G : Hp} (n : H p = none) (s : Same H G) : Same (wo a (wo r H)) (wo p (wo r G)) := fun b o e => by
  by_cases h : b = a
  · have e' : wo a (wo r H) b = none := if_pos h
    rw [e'] at e; cases e
  · rw [wo_get h] at e
    by_cases k : b = r
    · have e' : wo r H b = none := if_pos k
      rw [e'] at e; cases e
    · rw [wo_get k] at e
      rw [wo_get (ne_of_none e n), wo_get k]
      exact s _ _ e
theorem nd_win {w : Int × Option Int} : PyData.hasDict (winD w) = false := by
  obtain ⟨l, hi⟩ := w
  cases hi <;> rfl
theorem shaped_win {w : Int × Option Int} : SeqAt.shaped (winD w) = true := by
  obtain ⟨l, hi⟩ := w
  cases hi <;> (unfold SeqAt.shaped; simp [winD, hiD, PyData.canLay0, PyData.canLayAll0, PyData.depth, PyData.depthAll])
theorem lay_all : ∀ {ds : List PyData}, (∀ d ∈ ds, d.canLay0 = true) → PyData.canLayAll0 ds = true
  | [], _ => rfl
  | d :: ds, h => by
    show (PyData.canLay0 d && PyData.canLayAll0 ds) = true
    rw [h d (by simp), lay_all fun x hx => h x (List.mem_cons_of_mem _ hx)]; rfl
theorem nd_all : ∀ {ds : List PyData}, (∀ d ∈ ds, d.hasDict = false) → PyData.hasDictAll ds = false
  | [], _ => rfl
  | d :: ds, h => by
    show (PyData.hasDict d || PyData.hasDictAll ds) = false
    rw [h d (by simp), nd_all fun x hx => h x (List.mem_cons_of_mem _ hx)]; rfl
theorem shaped_list {ds : List PyData} (h : ∀ d ∈ ds, d.canLay0 = true ∧ d.depth ≤ 60) : SeqAt.shaped (.list ds) = true := by
  unfold SeqAt.shaped
  have e1 : PyData.canLay0 (.list ds) = true := lay_all fun d hd => (h d hd).1
  have e2 : PyData.depth (.list ds) ≤ 64 := by
    have := depthAll_le fun d hd => (h d hd).2
    simp only [PyData.depth]; omega
  rw [e1]
  simpa using e2
theorem shaped_wins (ws : List (Int × Option Int)) : SeqAt.shaped (.list (ws.map winD)) = true := shaped_list fun d hd => by
  obtain ⟨⟨l, o⟩, _, rfl⟩ := List.mem_map.mp hd
  refine ⟨shaped_lay shaped_win, ?_⟩
  cases o <;> simp [winD, hiD, PyData.depth, PyData.depthAll]
theorem nd_wins (ws : List (Int × Option Int)) : PyData.hasDict (.list (ws.map winD)) = false := nd_all fun d hd => by
  obtain ⟨w, _, rfl⟩ := List.mem_map.mp hd
  exact nd_win
theorem eqv_nil (ds : List PyData) : PyData.eqv (.list ds) (.list []) = ds.isEmpty := by cases ds <;> rfl
def posD : Option Nat → PyData
  | none => .none
  | some i => .int (i : Nat)
theorem da_pos {b : Bool} {K : PySem.W.Frag} {H : Hp} : ∀ o : Option Nat, DaF b K H (posV o) (posD o)
  | none => DaF.non
  | some _ => DaF.int _
theorem sh_pos2 {o : Option Nat} (h : ∀ i, o = some i → i < 100000) : Shw (.list [posD o, posD o]) := (Sh.lst (ds := [posD o, posD o]) (n := 1921) (k := 0) fun d hd => by
  simp only [List.mem_cons, List.not_mem_nil, or_false, or_self] at hd
  subst hd
  cases o with
  | none => exact Sh.non.mono (by decide) (by decide)
  | some i => exact Sh.int (Nat.lt_of_le_of_lt (Nat.log2_le_self _) (by have := h i rfl; simp only [Int.natAbs_natCast]; omega) |> fun (q : ((i : Int)).natAbs.log2 < 100000) => log2_lt_1920 (k := 200) (Nat.lt_trans (by simpa using h i rfl) (by decide : 100000 < 2 ^ 200)) (by decide) (by decide))).shw (by show 2 * 1923 + 2 ≤ _; decide) (by decide)
theorem nd_pos2 (o : Option Nat) : PyData.hasDict (.list [posD o, posD o]) = false := by cases o <;> rfl
theorem firstI_lt {bs : List Bool} {i : Nat} (h : firstI bs = some i) : i < bs.length := by
  unfold firstI at h
  rw [List.find?_range_eq_some] at h
  simpa using h.2.1
theorem winD_inj {w u : Int × Option Int} (h : winD w = winD u) : w = u := by
  obtain ⟨l, o⟩ := w
  obtain ⟨k, o2⟩ := u
  cases o <;> cases o2 <;> simp [winD, hiD] at h ⊢ <;> exact h
theorem wins_inj {ws us : List (Int × Option Int)} (h : PyData.list (ws.map winD) = .list (us.map winD)) : ws = us := by
  injection h with h
  induction ws generalizing us with
  | nil => cases us with
    | nil => rfl
    | cons _ _ => cases h
  | cons w ws ih => cases us with
    | nil => cases h
    | cons u us =>
      injection h with h1 h2
      rw [winD_inj h1, ih h2]
theorem winB_ok {w : Int × Option Int} (h : okW w) : winB (winD w) = true := by
  unfold winB
  rw [winP_D h]; rfl
theorem cutV_flags {ws : List (Int × Option Int)} {xs : List V} (h : xs.length = ws.length) : cutV ((flagsB ws).map V.bl) (some 1) (some xs.length) = ((List.range (ws.length - 1)).map (flagI ws)).map V.bl := by
  unfold cutV HT.sIx flagsB
  dsimp only
  rw [if_neg (by omega), if_neg (by omega)]
  simp only [List.map_cons, List.length_cons, List.length_map, List.length_range]
  cases ws with
  | nil => simp at h; simp [h]
  | cons w ws =>
    have h1 : xs.length = ws.length + 1 := by simpa using h
    have e1 : min (Int.toNat 1) ((w :: ws).length - 1 + 1) = 1 := by simp
    have e2 : min (Int.toNat xs.length) ((w :: ws).length - 1 + 1) = ws.length + 1 := by rw [h1]; simp
    rw [e1, e2]
    simp
    exact List.take_of_length_le (by simp)
theorem da_bools {K : PySem.W.Frag} {H : Hp} {a : Addr} {bs : List Bool} (h : H a = some (.lst (bs.map V.bl))) : DaF false K H (.ref a) (.list (bs.map PyData.bool)) := by
  refine Da.lst (SqL.of h) ?_
  clear h
  induction bs with
  | nil => exact .nil
  | cons c bs ih => exact .cons (.bl c) ih
theorem nd_bools (bs : List Bool) : PyData.hasDict (.list (bs.map PyData.bool)) = false := nd_all fun d hd => by
  obtain ⟨c, _, rfl⟩ := List.mem_map.mp hd
  rfl
theorem shaped_bools (bs : List Bool) : SeqAt.shaped (.list (bs.map PyData.bool)) = true := shaped_list fun d hd => by
  obtain ⟨c, _, rfl⟩ := List.mem_map.mp hd
  exact ⟨rfl, by simp [PyData.depth]⟩
theorem ne_of_rok {H : Hp} {r p : Addr} (h : Rok H r) (n : H p = none) : p ≠ r := h.ne n
end KX

namespace KX
open PySem PySem.Spec PyProof.Rows L2
/-! ### exceptions as values -/
section
open PySem.HandSPX PySem.Builtin
variable {prog : Program} {w : World} {M : Model} {A : Around} {E : Value → Shared → Prop} {R : Result → Shared → Prop} {h : Heap} {g : Array GenState} {d : Drawn} {t : Nat} {os : OsState}
variable {nm q : Str} {C N : Addr} {bs bm bmB : List Value} {hdct : Bool} {sn : List Str} {sub : List Value} {ab : Bool} {col : Option Bool} {dd : Option Addr} {k0 k1 k2 k3 k5 : Option Value} {B newId initId : String} {kw : List (Str × Value)}
/-- .. named arguments: BaseException.__new__ takes them and forgets them -/
theorem kwn_check (F : ExcBaseFacts B newId initId bmB) (hT : ∀ X : String, bm.contains (.type X) = bmB.contains (.type X)) {rest : List Value} {Q : Unit → Shared → Prop}
    (hC : h.get? C = some (excClassObj nm q C N bs bm hdct sn sub ab col dd k0 k1 k2 k3 k5 newId)) (hq : Q () ⟨h, g, d, t, os⟩) : wpAny M A (checkBuiltinCall newId ⟨.ref C :: rest, kw⟩) Q E ⟨h, g, d, t, os⟩ := by
  have hcont : (Value.ref C :: bm).contains (.type B) = true := by rw [List.contains_cons, hT, F.hasB, Bool.or_true]
  have hstar := F.noStar
  simp only [checkBuiltinCall, F.newKind, F.newSplit, F.newRow]
  repeat (first | refine wpAny_loadPart_at hC ?_ | (refine wpAny_isSubtype_exc hC ?_; rw [hcont]) | refine wpAny_staticBase_exc hC ?_ | refine wpAny_madeBy_exc hC ?_ | simp only [bne_self_eq_false, Bool.false_eq_true, if_false] | wp_step)
  exact hq
theorem kwn_new (F : ExcBaseFacts B newId initId bmB) (hT : ∀ X : String, bm.contains (.type X) = bmB.contains (.type X)) {rest : List Value}
    (hC : h.get? C = some (excClassObj nm q C N bs bm hdct sn sub ab col dd k0 k1 k2 k3 k5 newId))
    (hq : R (.ok (.ret (.ref (h.objs.size + 1)))) ⟨(h.push { cls := .type "tuple", data := .seq rest.toArray }).push (excO C h.objs.size), g, d, t, os⟩) (hrest : rest.length ≤ sizeLine) :
    codeAny (model prog w) A (.builtin newId ⟨.ref C :: rest, kw⟩) R ⟨h, g, d, t, os⟩ := by
  have hends := F.ends
  have hcB : (Value.ref C :: bm).contains (.type B) = true := by rw [List.contains_cons, hT, F.hasB, Bool.or_true]
  have hcA : (Value.ref C :: bm).contains (.type "AttributeError") = false := by rw [List.contains_cons, hT, F.noAttr]; rfl
  have hcN : (Value.ref C :: bm).contains (.type "NameError") = false := by rw [List.contains_cons, hT, F.noName]; rfl
  refine codeAny_builtinAt F.entry ?_
  unfold Builtin.«BaseException.__new__»
  refine PySem.wpAt_bind ?_
  show PySem.wpAt _ _ _ (stack >>= _) _ _ _
  refine PySem.wpAt_bind (PySem.wpAt_stack fun p below => PySem.wpAt_of_wpAny ?_)
  wp_walk
  refine PySem.wpAt_of_wpAny ?_
  rw [F.owner]
  repeat (first | with_reducible refine wpAny_madeHere_exc F.canon hC ?_ | with_reducible refine wpAny_loadPart_at hC ?_ | (with_reducible refine wpAny_isSubtype_exc hC ?_; first | rw [hcB] | rw [hcA] | rw [hcN]) | wp_step)
  show R _ _
  rw [Heap.size_push]
  exact hq
theorem kwn_type (F : ExcBaseFacts B newId initId bmB) (hT : ∀ X : String, bm.contains (.type X) = bmB.contains (.type X)) {rest : List Value} {fI : Addr} {Q : Fin → Shared → Prop}
    (hC : h.get? C = some (excClassObj nm q C N bs bm hdct sn sub ab col dd k0 k1 k2 k3 k5 newId))
    (hi : PySem.W.Looks (model prog w) h (typeLookup (.ref C) "__init__") (some (.ref fI))) (hb : ∀ self, PySem.W.Looks (model prog w) h (bindSpecial (.ref fI) self) (.ref fI, [self])) (hrest : rest.length ≤ sizeLine)
    (hq : codeAny (model prog w) A (.call (.ref fI) ⟨.ref (h.objs.size + 1) :: rest, kw⟩)
      (fun r s' => match r with | .ok (.ret v) => v = .none ∧ Q (.done (.ret (.ref (h.objs.size + 1)))) s' | .ok _ => False | .error e => E e s')
      ⟨(h.push (PySem.W.kdv_tup rest)).push (excO C h.objs.size), g, d, t, os⟩) :
    wpAny (model prog w) A (Builtin.«type.__call__» ⟨.ref C :: rest, kw⟩) Q E ⟨h, g, d, t, os⟩ := by
  repeat (first | with_reducible refine wpAny_loadPart_at hC ?_ | with_reducible refine wpAny_madeBy_exc hC ?_ | wp_step)
  refine codeAny_call_builtin_code (Code.quiet_builtin _ F.quiet) (kwn_check F hT hC ?_)
  refine kwn_new F hT hC ?_ hrest
  show wpAny _ _ _ _ _ _
  have k : ∀ b o, h.get? b = some o → ((h.push (PySem.W.kdv_tup rest)).push (excO C h.objs.size)).get? b = some o := fun b o e => Heap.get?_push_of_some _ (Heap.get?_push_of_some _ e)
  have hC₁ := k _ _ hC
  have hget : ((h.push (PySem.W.kdv_tup rest)).push (excO C h.objs.size)).get? (h.objs.size + 1) = some (excO C h.objs.size) := by heap_get
  have hcC : (Value.ref C :: bm).contains (.ref C) = true := by simp
  have i1 := hi.keeps k
  have b1 := (hb (.ref (h.objs.size + 1))).keeps k
  unfold isInstance
  repeat (first | with_reducible refine wpAny_loadPart_at hget ?_ | (with_reducible refine wpAny_isSubtype_exc hC₁ ?_; rw [hcC]) | wp_step)
  show wpAny _ _ (typeLookup (.ref C) _) _ _ _
  refine i1.at ?_
  refine wpAny_holding (wpAny_bind (b1.at ?_))
  refine wpAny_bind (wpAny_call (codeAny_mono hq fun r s' z => ?_))
  rcases r with e | (v | _ | _ | _) <;> first | exact z | exact z.elim | skip
  obtain ⟨rfl, z⟩ := z
  first
    | exact wpAny_pure (wpAny_pure z)
    | (wp_walk; exact z)
theorem kwn_checkT {rest : List Value} {Q : Unit → Shared → Prop} (hC : h.get? C = some (excClassObj nm q C N bs bm hdct sn sub ab col dd k0 k1 k2 k3 k5 newId))
    (hq : Q () ⟨h, g, d, t, os⟩) : wpAny M A (checkBuiltinCall "type.__call__" ⟨.ref C :: rest, kw⟩) Q E ⟨h, g, d, t, os⟩ := by
  have f3 := tc_sub
  have hT : (⟨h, g, d, t, os⟩ : Shared).TypeIs (.ref C) "type" := ⟨_, hC, rfl⟩
  simp only [checkBuiltinCall, tc_kind, tc_split]
  repeat (any_goals (first | assumption | with_reducible refine wpAny_loadPart_at hC ?_ | with_reducible refine wpAny_onRaise ?_ | with_reducible refine wpAny_map ?_ | wp_step))
theorem kwn_call (F : ExcBaseFacts B newId initId bmB) (hT : ∀ X : String, bm.contains (.type X) = bmB.contains (.type X)) {rest : List Value} {fI : Addr}
    (hC : h.get? C = some (excClassObj nm q C N bs bm hdct sn sub ab col dd k0 k1 k2 k3 k5 newId))
    (hi : PySem.W.Looks (model prog w) h (typeLookup (.ref C) "__init__") (some (.ref fI))) (hb : ∀ self, PySem.W.Looks (model prog w) h (bindSpecial (.ref fI) self) (.ref fI, [self])) (hrest : rest.length ≤ sizeLine)
    (hq : codeAny (model prog w) (A.under (.builtin "type.__call__" ⟨.ref C :: rest, kw⟩)) (.call (.ref fI) ⟨.ref (h.objs.size + 1) :: rest, kw⟩) (PySem.W.InitBack (h.objs.size + 1) R)
      ⟨(h.push (PySem.W.kdv_tup rest)).push (excO C h.objs.size), g, d, t, os⟩) :
    codeAny (model prog w) A (.call (.ref C) ⟨rest, kw⟩) R ⟨h, g, d, t, os⟩ := by
  have f1 := tc_lookup
  have f2 := tc_bind (.ref C)
  have hTy : (⟨h, g, d, t, os⟩ : Shared).TypeIs (.ref C) "type" := ⟨_, hC, rfl⟩
  refine codeAny_of_tree ?_
  show wpAny _ _ (callAny (.ref C) _) _ _ _
  repeat (any_goals (first | assumption | with_reducible refine wpAny_loadPart_at hC ?_ | wp_step))
  refine ⟨rfl, ?_⟩
  refine codeAny_call_builtin_at (Code.quiet_builtin _ (by decide +kernel)) entry_typeCall (kwn_checkT hC (kwn_type F hT hC hi hb hrest ?_))
  refine codeAny_mono hq fun r s' z => ?_
  rcases r with e | (v | _ | _ | _) <;> exact z
end
/-! ### rules -/
def MkV (C : Addr) (sp : Sp) (vs : List V) (H1 : Hp) (Q : VK) : Prop := vs.length ≤ 1000 ∧ ∀ a, H1 a = none → sp (.ref a :: vs) (L2.upd H1 a (exo a C none)) (fun v H2 => v = .non ∧ Q (.ref a) H2) fun _ _ _ => False
def tMkV (C : Addr) (sp : Sp) (ta : TA) : TE := fun σ H Q => ta σ H fun vs H1 => MkV C sp vs H1 Q
section
variable {X : Cx} {o e : Expr} {es : List Expr} {to te : TE} {ta : TA} {f x : Str} {p p' p1 p2 pos : Pos} {newId initId : String} {bmB : List Value}
/-- C(e, ..): an exception that is made -/
theorem pe_mkV {CX : CXT} {C fI : Addr} {k : Nat} {fd : FuncData} {ps : List Str} {sp : Sp} (T : OexB X.K newId initId bmB C) (iC : PySem.W.findIn X.K (.ref C) "__init__" = some (some (.ref fI))) (tI : PySem.W.typeIn X.K (.ref fI) = some (.type "function"))
    (G : FnOk X.prog X.w X.K X.mg X.base CX k fI fd ps sp) (hr : Room (k + 1) X.A) (hb : Binds X.K fd ps []) (hx : Passes CX X (fun _ _ _ => False)) (hg : Gl X x) (hm : X.mg x = some (.ref C)) (ha : PA X (e :: es) ta)
    (hdb : (x == ("__debug__" : Str)) = false := by decide) (he : starEach (e :: es) X.env = (false, eval e X.env) :: starEach es X.env := by rfl) (hpl : (backTo pos (starEach es X.env)).any (·.1) = false := by rfl) :
    PE X (.Call (.Name x p) (e :: es) [] pos) (tMkV C sp ta) := by
  refine ⟨fun pins s σ H Q I q => ?_⟩
  obtain ⟨_, BF, _⟩ := T.bf.ex
  refine wpAny_Call_Name_kw (ld_glob I hg hm ?_ hdb)
  refine PySem.W.callWith_K (h₀ := X.base) I.ok.mod.kin T.kC (thn (ha.run pos pins s σ H _ I q) fun us s1 ⟨vs, H1, J, r, few, q1⟩ => ⟨J.kIn, ?_⟩) he hpl
  show wpAny _ _ (call (.ref C) us) _ _ _
  obtain ⟨nm, N, qn, bs, bm, hdct, sn, sub, ab, col, dd, k0, k1, k2, k3, k5, hC, hT⟩ := PySem.W.excInit_of J.kIn T.ini
  obtain ⟨hp, g, dr, tk, os⟩ := s1
  have up : hp.objs.size ≤ hp.objs.size + 1 := Nat.le_succ _
  have free : H1 (hp.objs.size + 1) = none := J.hok.fresh up
  have kk : ∀ b o, hp.get? b = some o → ((hp.push (PySem.W.kdv_tup us)).push (PySem.HandSPX.excO C hp.objs.size)).get? b = some o := fun b o z => Heap.get?_push_of_some _ (Heap.get?_push_of_some _ z)
  have there : ((hp.push (PySem.W.kdv_tup us)).push (PySem.HandSPX.excO C hp.objs.size)).get? (hp.objs.size + 1) = some (PySem.HandSPX.excO C hp.objs.size) := by heap_get
  have J2 := J.laid (t' := tk) (a := hp.objs.size + 1) (o := exo (hp.objs.size + 1) C none) (h' := (hp.push (PySem.W.kdv_tup us)).push (PySem.HandSPX.excO C hp.objs.size)) kk up (exo_ok there)
  have q2 := q1 (hp.objs.size + 1) free
  have r2 : Vals (V.ref (hp.objs.size + 1) :: vs) (Value.ref (hp.objs.size + 1) :: us) := .cons rfl r
  have len : (Value.ref (hp.objs.size + 1) :: us ++ []).length = ps.length := by
    rw [List.append_nil]
    exact (r2.length.symm.trans (G.len _ _ _ _ q2))
  have fits : us.length ≤ sizeLine := by rw [← Paired.length r, sizeLine_eq]; omega
  have bind := hb ⟨(hp.push (PySem.W.kdv_tup us)).push (PySem.HandSPX.excO C hp.objs.size), g, dr, tk, os⟩ (Value.ref (hp.objs.size + 1) :: us) J2.kIn len
  rw [List.append_nil] at bind
  refine wpAny_call (kwn_call BF hT hC (PySem.W.looks_findIn J.kIn iC) (fun self => PySem.W.bind_fn J.kIn self tI) fits
    (codeAny_mono (G.run _ X.stack _ _ ⟨Value.ref (hp.objs.size + 1) :: us, []⟩ _ _ _ (fun _ _ _ => False) (hr.make C us []) (J2.env0.make C us []) bind r2 q2) fun r s' hq => ?_))
  match r, hq with
  | .error er, hq => exact hx pins σ _ _ er s' J2 hq
  | .ok .next, hq => exact False.elim hq
  | .ok .brk, hq => exact False.elim hq
  | .ok .cont, hq => exact False.elim hq
  | .ok (.ret u), hq =>
    obtain ⟨v, H3, I3, rv, ev, q3⟩ := J2.after hq
    subst ev
    exact ⟨rv, .ref (hp.objs.size + 1), H3, I3, rfl, q3⟩
/-- how an __init__ takes named arguments -/
structure KBI (K : PySem.W.Frag) (fd : FuncData) (ps ks : List Str) (pm : List Nat) : Prop where
  to : ∀ (s : Shared) (self : Value) (ws : List Value), K.In s.heap → ws.length = ks.length → BindsTo s fd ⟨[self], ks.zip ws⟩ (ps.zip (self :: pmL pm ws))
theorem _root_.L2.Fun.kbi {K : PySem.W.Frag} {x qual : Str} {st : Stmt} {f : Addr} {fd : FuncData} {ps ks : List Str} {pm : List Nat} (F : Fun K x qual st f fd)
    (h : ∀ (kV doc pm' : Value) (an : Option Addr) (cdv ct : Value) (self : Value) (ws : List Value), ws.length = ks.length → bindArgs (PySem.W.fnOf x qual (defArgs st) (defBody st) (defScope st) .none kV doc pm' an cdv ct) ⟨[self], ks.zip ws⟩ = pure (ps.zip (self :: pmL pm ws))) : KBI K fd ps ks pm := by
  obtain ⟨oc, od, kV, doc, pm', an, cdv, ct, osl, rfl, lk, hcd⟩ := F.ex
  exact ⟨fun s self ws _ hl => .of_eq (h kV doc pm' an cdv ct self ws hl)⟩
def tMkW (C : Addr) (sp : Sp) (n : Nat) (pm : List Nat) (tk : TA) : TE := fun σ H Q => tk σ H fun zs H1 => zs.length = n ∧ MkV C sp (pmL pm zs) H1 Q
/-- C(k = e, ..) -/
theorem pe_mkW {CX : CXT} {C fI : Addr} {k : Nat} {fd : FuncData} {ps ks : List Str} {sp : Sp} {kws : List Keyword} {tk : TA} {pm : List Nat} (T : OexB X.K newId initId bmB C) (iC : PySem.W.findIn X.K (.ref C) "__init__" = some (some (.ref fI))) (tI : PySem.W.typeIn X.K (.ref fI) = some (.type "function"))
    (G : FnOk X.prog X.w X.K X.mg X.base CX k fI fd ps sp) (hr : Room (k + 1) X.A) (hb : KBI X.K fd ps ks pm) (hx : Passes CX X (fun _ _ _ => False)) (hg : Gl X x) (hm : X.mg x = some (.ref C)) (hkw : PK X kws tk)
    (hall : (backToKw pos (keywordEach kws X.env)).all (·.1.isSome) = true := by rfl) (hks : (backToKw pos (keywordEach kws X.env)).filterMap (·.1) = ks := by rfl) (hdb : (x == ("__debug__" : Str)) = false := by decide)
    (hpl : ((backTo pos (starEach [] X.env)).any (·.1) || (backToKw pos (keywordEach kws X.env)).any (·.1.isNone)) = false := by rfl) :
    PE X (.Call (.Name x p) [] kws pos) (tMkW C sp ks.length pm tk) := by
  refine ⟨fun pins s σ H Q I q => ?_⟩
  obtain ⟨_, BF, _⟩ := T.bf.ex
  refine wpAny_Call_Name_kw (ld_glob I hg hm ?_ hdb)
  refine PySem.W.callWith_KW0 (h₀ := X.base) I.ok.mod.kin T.kC hall ?_ hpl
  refine thn (hkw.run pos pins s σ H _ I q) fun ws s1 ⟨zs, H1, J, r, lz, _, q1⟩ => ⟨J.kIn, ?_⟩
  rw [hks]
  show wpAny _ _ (call (.ref C) [] (ks.zip ws)) _ _ _
  obtain ⟨nm, N, qn, bs, bm, hdct, sn, sub, ab, col, dd, k0, k1, k2, k3, k5, hC, hT⟩ := PySem.W.excInit_of J.kIn T.ini
  obtain ⟨hp, g, dr, tk, os⟩ := s1
  have up : hp.objs.size ≤ hp.objs.size + 1 := Nat.le_succ _
  have free : H1 (hp.objs.size + 1) = none := J.hok.fresh up
  have kk : ∀ b o, hp.get? b = some o → ((hp.push (PySem.W.kdv_tup [])).push (PySem.HandSPX.excO C hp.objs.size)).get? b = some o := fun b o z => Heap.get?_push_of_some _ (Heap.get?_push_of_some _ z)
  have there : ((hp.push (PySem.W.kdv_tup [])).push (PySem.HandSPX.excO C hp.objs.size)).get? (hp.objs.size + 1) = some (PySem.HandSPX.excO C hp.objs.size) := by heap_get
  have J2 := J.laid (t' := tk) (a := hp.objs.size + 1) (o := exo (hp.objs.size + 1) C none) (h' := (hp.push (PySem.W.kdv_tup [])).push (PySem.HandSPX.excO C hp.objs.size)) kk up (exo_ok there)
  have q2 := q1 (hp.objs.size + 1) free
  have r2 : Vals (V.ref (hp.objs.size + 1) :: pmL pm zs) (Value.ref (hp.objs.size + 1) :: pmL pm ws) := .cons rfl (pmL_vals r pm)
  have lw : ws.length = ks.length := by rw [← r.length]; exact lz
  refine wpAny_call (kwn_call BF hT hC (PySem.W.looks_findIn J.kIn iC) (fun self => PySem.W.bind_fn J.kIn self tI) (by decide)
    (codeAny_mono (G.run _ X.stack _ _ ⟨[Value.ref (hp.objs.size + 1)], ks.zip ws⟩ _ _ _ (fun _ _ _ => False) (hr.make C [] (ks.zip ws)) (J2.env0.make C [] (ks.zip ws)) (hb.to _ _ ws J2.kIn lw) r2 q2) fun r s' hq => ?_))
  match r, hq with
  | .error er, hq => exact hx pins σ _ _ er s' J2 hq
  | .ok .next, hq => exact False.elim hq
  | .ok .brk, hq => exact False.elim hq
  | .ok .cont, hq => exact False.elim hq
  | .ok (.ret u), hq =>
    obtain ⟨v, H3, I3, rv, ev, q3⟩ := J2.after hq
    subst ev
    exact ⟨rv, .ref (hp.objs.size + 1), H3, I3, rfl, q3⟩
/-- C(e), the class without own __init__ -/
def tMk0 (C : Addr) (te : TE) : TE := fun σ H Q => te σ H fun _ H1 => ∀ a, H1 a = none → Q (.ref a) (L2.upd H1 a (exo a C none))
theorem pe_mk0 {C : Addr} (hb : BaseF newId initId bmB) (q : PySem.W.excIn X.K C bmB newId = true) (gC : X.mg x = some (.ref C)) (kC : PySem.W.keepIn X.K (.ref C) = true) (hg : Gl X x)
    (he : PE X e te) (hs : starEach [e] X.env = (false, eval e X.env) :: starEach [] X.env := by rfl) (hdb : (x == ("__debug__" : Str)) = false := by decide) :
    PE X (.Call (.Name x p) [e] [] pos) (tMk0 C te) := by
  refine ⟨fun pins s σ H Q I h => ?_⟩
  obtain ⟨_, F, _⟩ := hb.ex
  refine wpAny_Call_Name_kw (ld_glob I hg gC ?_ hdb)
  refine PySem.W.callWith_K (h₀ := X.base) I.ok.mod.kin kC ?_ hs (by rfl)
  rw [hs]
  show wpAny _ _ (spliced ((false, eval e X.env) :: backTo pos (starEach [] X.env))) _ _ s
  refine Calls.spliced_cons (thn (he.run pins s σ H _ I h) fun u s1 ⟨v, H1, I1, r1, q1⟩ => ?_)
  refine Calls.spliced_nil ⟨I1.kIn, ?_⟩
  show wpAny _ _ (call (.ref C) [u]) _ _ _
  obtain ⟨bm, N, nm, qn, bs, hdct, sn, sub, ab, col, dd, k0, k1, k2, k3, k5, mN, hC, hN, hni, T⟩ := exc_obj I1.kIn q
  refine wpAny_call_exc_subT F T hC hN hni (fun h' a hm => ?_) (by show 1 ≤ sizeLine; rw [sizeLine_eq]; omega)
  have hn : H1 a = none := I1.hok.gone hm.new
  obtain ⟨t, ht, _, _⟩ := hm.there
  exact ⟨.ref a, L2.upd H1 a (exo a C none), I1.laidN hm.keeps hm.new hn (exo_ok ht), rfl, q1 a hn⟩
/-- x.f, x an exception of which the heap tells -/
def XQ (C : Addr) (f : Str) (Q : VK) : VK := fun x H => ∃ a d fs v, x = .ref a ∧ H a = some (exo a C (some d)) ∧ H d = some (exd d fs) ∧ fs.lookup f = some v ∧ Q v H
theorem xq_get {C : Addr} {n : String} {i : String} {m : List Value} {f : Str} {pins : List (Addr × Obj)} {σ : L2.St} {H : Hp} {s : Shared} {Q : VK} {v : V} {u : Value} {R : Value → Shared → Prop} {E : Value → Shared → Prop} (T : ExT X.K n i m C) (nf : PySem.W.findIn X.K (.ref C) f = some none) (I : Inv X pins σ H s) (r : RelV v u) (h : XQ C f Q v H)
    (k : ∀ w s', EP X pins σ Q w s' → R w s') : wpAny (model X.prog X.w) X.A (getAttr u f true) R E s := by
  obtain ⟨a, d, fs, v, rfl, ea, ed, l, q⟩ := h
  obtain rfl : u = Value.ref a := r
  obtain ⟨t1, ho⟩ := exo_at I.hok ea
  obtain ⟨mA, hns, hr⟩ := exd_at I.hok ed
  obtain ⟨od, hod, hl⟩ := lookIn_ns hns
  obtain ⟨w, hw, rw'⟩ := RelO.some_of (v := v) (o := mA f) (by rw [← l]; exact hr f)
  have J : PySem.W.InstAt s.heap a (PySem.W.excObj C t1 (some d) .none) C (some od) := ⟨ho, rfl, rfl, hod⟩
  exact HandSPX.exc_get I.kIn J T.ga T.gg T.o.exC (PySem.W.findObj_own T.o.hd nf rfl (by rw [hl, hw])) (handed_of rw') (k _ _ ⟨v, H, I.tok _, rw', q⟩)
/-- C(..).f -/
def tMkX (C : Addr) (fs : List Str) (f : Str) (ta : TA) : TE := fun σ H Q => ta σ H fun vs H1 => MkV C (spI C fs) vs H1 (XQ C f Q)
theorem pe_mkx {C : Addr} {n i : String} {m : List Value} {fs : List Str} (T : ExT X.K n i m C) (nf : PySem.W.findIn X.K (.ref C) f = some none) (he : PE X e (tMkV C (spI C fs) ta)) (hb : attributeBase e f X.env (eval e X.env) = eval e X.env := by rfl) :
    PE X (.Attribute e f pos) (tMkX C fs f ta) := by
  refine ⟨fun pins s σ H Q I h => attr_of hb (thn (he.run pins s σ H (XQ C f Q) I h) fun u s1 ⟨v, H1, I1, r1, q1⟩ => ?_)⟩
  exact xq_get T nf I1 r1 q1 fun _ _ z => z
def tMkY (C : Addr) (fs : List Str) (f : Str) (n : Nat) (pm : List Nat) (ta : TA) : TE := fun σ H Q => ta σ H fun zs H1 => zs.length = n ∧ MkV C (spI C fs) (pmL pm zs) H1 (XQ C f Q)
theorem pe_mky {C : Addr} {n i : String} {m : List Value} {fs : List Str} {j : Nat} {pm : List Nat} (T : ExT X.K n i m C) (nf : PySem.W.findIn X.K (.ref C) f = some none) (he : PE X e (tMkW C (spI C fs) j pm ta)) (hb : attributeBase e f X.env (eval e X.env) = eval e X.env := by rfl) :
    PE X (.Attribute e f pos) (tMkY C fs f j pm ta) := by
  refine ⟨fun pins s σ H Q I h => attr_of hb (thn (he.run pins s σ H (XQ C f Q) I h) fun u s1 ⟨v, H1, I1, r1, q1⟩ => ?_)⟩
  exact xq_get T nf I1 r1 q1 fun _ _ z => z
/-- .. its class told by the hypotheses -/
def XvQ (K : PySem.W.Frag) (f : Str) (Q : VK) : VK := fun x H => ∃ C n i m, ExT K n i m C ∧ PySem.W.findIn K (.ref C) f = some none ∧ XQ C f Q x H
def tXv (K : PySem.W.Frag) (f : Str) (te : TE) : TE := fun σ H Q => te σ H (XvQ K f Q)
theorem pe_xv (he : PE X e te) (hb : attributeBase e f X.env (eval e X.env) = eval e X.env := by rfl) : PE X (.Attribute e f pos) (tXv X.K f te) := by
  refine ⟨fun pins s σ H Q I h => attr_of hb (thn (he.run pins s σ H (XvQ X.K f Q) I h) fun u s1 ⟨v, H1, I1, r1, C, n, i, m, T, nf, q1⟩ => ?_)⟩
  exact xq_get T nf I1 r1 q1 fun _ _ z => z
end
/-- an exception of the class at C, with or without fields -/
def XI (H : Hp) (a C : Addr) : Prop := ∃ od, H a = some (exo a C od) ∧ ∀ d, od = some d → ∃ fs, H d = some (exd d fs)
theorem XI.same {H H' : Hp} {a C : Addr} (s : Same H H') (h : XI H a C) : XI H' a C := by
  obtain ⟨od, h1, h2⟩ := h
  exact ⟨od, s _ _ h1, fun d e => let ⟨fs, h⟩ := h2 d e; ⟨fs, s _ _ h⟩⟩
theorem XI.of0 {H : Hp} {a C : Addr} (h : H a = some (exo a C none)) : XI H a C := ⟨none, h, fun _ z => by cases z⟩
theorem XI.of1 {H : Hp} {a C d : Addr} {fs : List (Str × V)} (h : H a = some (exo a C (some d))) (k : H d = some (exd d fs)) : XI H a C := ⟨some d, h, fun _ z => by cases z; exact ⟨fs, k⟩⟩
def rIsV (K : PySem.W.Frag) : List V → Hp → VK → Prop := fun xs H Q => ∃ (a C : Addr) (c : V) (cv : Value) (b : Bool) (n i : String) (m : List Value), xs = [.ref a, c] ∧ XI H a C ∧ ExT K n i m C ∧ ClassGet K ∧ (∀ u, RelV c u → u = cv) ∧ PySem.W.kitOne K (.ref C) cv = some b ∧ Q (.bl b) H
theorem call_isV {X : Cx} : CallR X (.builtin "isinstance") (rIsV X.K) := by
  intro pins s σ H xs us Q I r h
  obtain ⟨a, C, c, cv, b, _, _, _, rfl, ⟨od, ha, hd⟩, T, G, hcv, k, q⟩ := h
  obtain ⟨u1, u2, rfl, r1, r2⟩ : ∃ u1 u2, us = [u1, u2] ∧ RelV (.ref a) u1 ∧ RelV c u2 := by
    cases r with
    | cons r1 r => cases r with
      | cons r2 r => cases r; exact ⟨_, _, rfl, r1, r2⟩
  cases r1
  obtain rfl := hcv _ r2
  obtain ⟨t1, ho⟩ := exo_at I.hok ha
  have J : ∃ ox o', PySem.W.InstAt s.heap a ox C o' := by
    cases od with
    | none => exact ⟨_, none, ho, rfl, rfl, trivial⟩
    | some d =>
      obtain ⟨fs, e⟩ := hd d rfl
      obtain ⟨mA, ⟨o, es, ep, hh, _⟩, _⟩ := exd_at I.hok e
      exact ⟨_, some o, ho, rfl, rfl, hh⟩
  obtain ⟨ox, o', J⟩ := J
  exact PySem.W.kia_one (PySem.W.kitx_exc (hasD T.o.hd) T.ga T.gg T.o.exC T.cl G.hn G.ht T.hm) I.kIn J k (fun z => nomatch z) fun tk => ⟨.bl b, H, I.kept (t' := tk) fun _ _ z => z, rfl, q⟩
/-- what isinstance answers, class by class -/
def KR (K : PySem.W.Frag) (t : Value) : List Value → List Bool → Prop
  | [], [] => True
  | c :: cs, b :: bs => PySem.W.kitOne K t c = some b ∧ KR K t cs bs
  | _, _ => False
theorem KR.cons {K : PySem.W.Frag} {t c : Value} {cs : List Value} {b : Bool} {bs : List Bool} (h : PySem.W.kitOne K t c = some b) (r : KR K t cs bs) : KR K t (c :: cs) (b :: bs) := ⟨h, r⟩
theorem KR.nil {K : PySem.W.Frag} {t : Value} : KR K t [] [] := trivial
def NewX (H : Hp) (C : Addr) (Q : VK) : Prop := ∀ a, H a = none → Q (.ref a) (L2.upd H a (exo a C none))
/-! ### readings -/
section
variable {K : PySem.W.Frag} {σ : L2.St} {H : Hp} {Q : VK} {C : Addr} {sp : Sp} {ta : TA} {te : TE} {fs : List Str} {f : Str} {n : Nat} {pm : List Nat}
theorem i_mkV0 (q : ta σ H fun vs H1 => MkV C sp vs H1 Q) : tMkV C sp ta σ H Q := q
theorem i_mkW0 (q : ta σ H fun zs H1 => zs.length = n ∧ MkV C sp (pmL pm zs) H1 Q) : tMkW C sp n pm ta σ H Q := q
theorem i_mkX0 (q : ta σ H fun vs H1 => MkV C (spI C fs) vs H1 (XQ C f Q)) : tMkX C fs f ta σ H Q := q
theorem i_mkY0 (q : ta σ H fun zs H1 => zs.length = n ∧ MkV C (spI C fs) (pmL pm zs) H1 (XQ C f Q)) : tMkY C fs f n pm ta σ H Q := q
theorem i_xv0 (q : te σ H (XvQ K f Q)) : tXv K f te σ H Q := q
theorem i_mk00 (q : te σ H fun _ H1 => NewX H1 C Q) : tMk0 C te σ H Q := q
theorem i_mkN (q : ∀ a H2, Same H H2 → H2 a = some (exo a C none) → Q (.ref a) H2) : NewX H C Q := fun a n =>
  q a _ (fun b o e => by rw [upd_ne (ne_of_none e n)]; exact e) upd_same
theorem i_mkV {vs : List V} (hl : vs.length = fs.length) (few : fs.length ≤ 1000) (q : ∀ a d H2, Same H H2 → H2 a = some (exo a C (some d)) → H2 d = some (exd d (fs.zip vs).reverse) → Q (.ref a) H2) : MkV C (spI C fs) vs H Q := by
  refine ⟨by omega, fun a ha => ⟨a, vs, rfl, hl, upd_same, fun d H' hd ne ea ed off => ⟨rfl, ?_⟩⟩⟩
  rw [upd_ne ne] at hd
  refine q a d H' (fun b o e => ?_) ea ed
  have n1 : b ≠ a := ne_of_none e ha
  have n2 : b ≠ d := ne_of_none e hd
  rw [off b n1 n2, upd_ne n1]
  exact e
/-- C(..).f is what was given -/
theorem i_mkX {vs : List V} {v : V} (hl : vs.length = fs.length) (few : fs.length ≤ 1000) (lk : (fs.zip vs).reverse.lookup f = some v) (q : ∀ H2, Same H H2 → Q v H2) : MkV C (spI C fs) vs H (XQ C f Q) :=
  i_mkV hl few fun a d H2 s ea ed => ⟨a, d, _, v, rfl, ea, ed, lk, q H2 s⟩
theorem i_xvQ {a d : Addr} {gs : List (Str × V)} {v : V} {n i : String} {m : List Value} (T : ExT K n i m C) (nf : PySem.W.findIn K (.ref C) f = some none) (ea : H a = some (exo a C (some d))) (ed : H d = some (exd d gs)) (lk : gs.lookup f = some v) (q : Q v H) : XvQ K f Q (.ref a) H :=
  ⟨C, n, i, m, T, nf, a, d, gs, v, rfl, ea, ed, lk, q⟩
theorem i_isVr {a D : Addr} {b : Bool} {n i : String} {m : List Value} (T : ExT K n i m C) (G : ClassGet K) (h : XI H a C) (k : PySem.W.kitOne K (.ref C) (.ref D) = some b) (q : Q (.bl b) H) : rIsV K [.ref a, .ref D] H Q := ⟨a, C, _, _, b, n, i, m, rfl, h, T, G, rel_ref, k, q⟩
theorem i_isVt {a : Addr} {t : String} {b : Bool} {n i : String} {m : List Value} (T : ExT K n i m C) (G : ClassGet K) (h : XI H a C) (k : PySem.W.kitOne K (.ref C) (.type t) = some b) (q : Q (.bl b) H) : rIsV K [.ref a, .ty t] H Q := ⟨a, C, _, _, b, n, i, m, rfl, h, T, G, rel_ty, k, q⟩
theorem i_rRep {l : Addr} {k : Int} {xs : List V} (h : H l = some (.lst xs)) (h1 : 0 ≤ k) (h2 : k ≤ 1000) (h3 : xs.length ≤ 1000) (q : ∀ p H', H p = none → Same H H' → H' p = some (.lst (List.replicate k.toNat xs).flatten) → Q (.ref p) H') : rRep (.ref l) (.int k) H Q := by
  refine ⟨l, k, xs, rfl, rfl, h, by omega, by omega, ?_, fun p hp => q p _ hp (fun b o e => by rw [upd_ne (ne_of_none e hp)]; exact e) upd_same⟩
  have : xs.length * k.toNat ≤ 1000 * 1000 := Nat.mul_le_mul h3 (by omega)
  rw [sizeLine_eq]; omega
theorem i_gLst {p : Addr} {xs : List V} {n : Nat} {t : TGs} {R : L2.St → Hp → Prop} (h : SqL K H p xs) (e : xs.length = n) (q : t xs σ H R) : gLst K n t (.ref p) σ H R := ⟨p, xs, rfl, h, e, q⟩
end
/-! ### lists whose addresses are told to be none of the run's own -/
def rCatN : R2 := fun x y H Q => ∃ l b xs zs, x = .ref l ∧ y = .ref b ∧ H l = some (.lst xs) ∧ H b = some (.lst zs) ∧ xs.length + zs.length ≤ sizeLine ∧ NewN H (.lst (xs ++ zs)) Q
theorem op_catN {X : Cx} : OpR X (binaryOp .Add) rCatN := by
  intro pins s σ H x y v u Q I rx ry h
  obtain ⟨l, b, xs, zs, rfl, rfl, hH, hB, hz, q⟩ := h
  cases rx
  cases ry
  obtain ⟨z, its, n, r, hl, e⟩ := I.lstM hH
  obtain ⟨z2, its2, n2, r2, hl2, e2⟩ := I.lstM hB
  refine PySem.P.add_list e e2 ?_ (by rw [List.size_toArray, List.size_toArray]; omega)
  have ea : its.toArray ++ its2.toArray = (its ++ its2).toArray := by simp
  rw [ea]
  exact ⟨.ref _, _, I.lnew (t' := s.toks) (r.append r2) (by rw [List.length_append]; omega), rfl, q _ I.fresh (Nat.ne_of_gt I.big)⟩
theorem i_rCatN {H : Hp} {Q : VK} {l b : Addr} {xs zs : List V} (h : H l = some (.lst xs)) (k : H b = some (.lst zs)) (z : xs.length + zs.length ≤ sizeLine) (q : NewN H (.lst (xs ++ zs)) Q) : rCatN (.ref l) (.ref b) H Q := ⟨l, b, xs, zs, rfl, rfl, h, k, z, q⟩
def rRepN : R2 := fun x y H Q => ∃ l k xs, x = .ref l ∧ y = .int k ∧ H l = some (.lst xs) ∧ 0 ≤ k ∧ k ≤ 1000 ∧ xs.length ≤ 1000 ∧ NewN H (.lst (List.replicate k.toNat xs).flatten) Q
theorem op_repN {X : Cx} : OpR X (binaryOp .Mult) rRepN := by
  intro pins s σ H x y v u Q I rx ry h
  obtain ⟨l, k, xs, rfl, rfl, hH, h1, h2, h3, q⟩ := h
  cases rx
  obtain ⟨t, rfl⟩ := ry
  obtain ⟨z, its, n, r, hl, e⟩ := I.lstM hH
  have hz : xs.length * k.toNat ≤ sizeLine := by
    have : xs.length * k.toNat ≤ 1000 * 1000 := Nat.mul_le_mul h3 (by omega)
    rw [sizeLine_eq]; omega
  have hlen : its.toArray.size * k.toNat ≤ sizeLine := by rw [List.size_toArray, ← hl]; exact hz
  have hcap : ¬ its.toArray.size * k.toNat > (2 ^ 63 - 1) / 8 := by
    have : (sizeLine : Nat) ≤ (2 ^ 63 - 1) / 8 := by decide
    omega
  have hfit : ¬ (!Builtin.List.listFitsIndex k) = true := by
    rw [fitsIndex_both (by omega) (by omega)]
    exact Bool.false_ne_true
  have hlong : ¬ Builtin.List.listTooLong (its.toArray.size * k.toNat) = true := by
    rw [notLongL hlen]
    exact Bool.false_ne_true
  have hnew : List.foldl (fun x1 x2 => x1 ++ x2) #[] (List.replicate (if its.toArray.isEmpty = true then 0 else k.toNat) its.toArray) = (List.replicate k.toNat its).flatten.toArray := by
    have f0 : ∀ m : Nat, List.foldl (fun x1 x2 => x1 ++ x2) #[] (List.replicate m its.toArray) = (List.replicate m its).flatten.toArray := fun m => by
      have := foldl_rep its m []
      rw [List.nil_append] at this
      exact this
    rw [f0]
    cases its with
    | nil => simp
    | cons a r' => rw [if_neg (by simp)]
  refine wpAny_binaryOp_repeat_ref (T := "list") (U := "int") (by decide) ⟨_, e, rfl⟩ (fun s' => typeIs_int s' k t) noFill_list_mul F.fills_int_mul F.slot_int_rmul repeat_list F.slot_int_index.lookup
    (call_meets F.slot_int_rmul (typeIs_int s k t) F.entry_int_rmul (F.args_int_rmul_2 _ _) (int___rmul___int_list k t l its.toArray n)
      ⟨e, rfl, ⟨_, e, rfl⟩, call_meets F.slot_list_mul ⟨_, e, rfl⟩ F.entry_list_mul (F.args_list_mul_2 _ _) (AutoListH.list___mul___list_int_3 l its.toArray n k t hfit hcap hlong) ⟨e, ?_⟩⟩)
  rw [hnew]
  exact ⟨.ref _, _, I.lnew (t' := s.toks) (r.rep k.toNat) (by rw [PyProof.Rows.lm_len_rep_flat, Nat.mul_comm]; exact hz), rfl, q _ I.fresh (Nat.ne_of_gt I.big)⟩
theorem i_rRepN {H : Hp} {Q : VK} {l : Addr} {k : Int} {xs : List V} (h : H l = some (.lst xs)) (h1 : 0 ≤ k ∧ k ≤ 1000) (h3 : xs.length ≤ 1000) (q : NewN H (.lst (List.replicate k.toNat xs).flatten) Q) : rRepN (.ref l) (.int k) H Q := ⟨l, k, xs, rfl, rfl, h, h1.1, h1.2, h3, q⟩
/-- an exception with two fields -/
def PX (H : Hp) (e C : Addr) (fs : List Str) (a b : V) : Prop := ∃ d, H e = some (exo e C (some d)) ∧ H d = some (exd d (fs.zip [a, b]).reverse)
theorem PX.same {H H' : Hp} {e C : Addr} {fs : List Str} {a b : V} (s : Same H H') (h : PX H e C fs a b) : PX H' e C fs a b := let ⟨d, h1, h2⟩ := h; ⟨d, s _ _ h1, s _ _ h2⟩
theorem da_rep {b : Bool} {K : PySem.W.Frag} {H : Hp} {x : V} {d : PyData} (k : DaF b K H x d) : ∀ n : Nat, DaAllF b K H (List.replicate n [x]).flatten (List.replicate n d)
  | 0 => .nil
  | n + 1 => .cons k (da_rep k n)
theorem da_same {b : Bool} {K : PySem.W.Frag} {H : Hp} {d : PyData} : ∀ {ts : List V}, (∀ t ∈ ts, DaF b K H t d) → DaAllF b K H ts (List.replicate ts.length d)
  | [], _ => .nil
  | t :: ts, h => .cons (h t (by simp)) (da_same fun x hx => h x (List.mem_cons_of_mem _ hx))
theorem KR.head {K : PySem.W.Frag} {t c : Value} {cs : List Value} : ∀ {bs : List Bool}, KR K t (c :: cs) bs → ∃ b r, bs = b :: r ∧ PySem.W.kitOne K t c = some b ∧ KR K t cs r
  | [], h => h.elim
  | b :: r, h => ⟨b, r, rfl, h.1, h.2⟩
theorem KR.done {K : PySem.W.Frag} {t : Value} : ∀ {bs : List Bool}, KR K t [] bs → bs = []
  | [], _ => rfl
  | _ :: _, h => h.elim
def idx (bs : List Bool) : List Nat := (List.range bs.length).filter fun i => bs.getD i false
end KX

namespace KX
open PySem PySem.Spec PyProof.Rows L2
/-! ### facts of the written part, several at once: each is closed by the kernel -/
section
variable {K : PySem.W.Frag}
theorem exT_of {C : Addr} {n i : String} {tl : List Value} (bf : BaseF n i tl) (h : exB K C n tl = true) : ExT K n i tl C := by
  unfold exB at h
  simp only [Bool.and_eq_true, beq_iff_eq] at h
  obtain ⟨h1, h2, h3, h4, h5, h6, h7, h8, h9, h10, h11⟩ := h
  exact ⟨⟨bf, h1, h2, h5, h3, h6, h7, h4⟩, h8, h9, h10, h11⟩
theorem fd_of {C : Addr} {fs : List Str} (h : fdB K C fs = true) {f : Str} (m : f ∈ fs) : PySem.W.takerIn K C f = some none ∧ PySem.W.findIn K (.ref C) f = some none := by
  have := List.all_eq_true.mp h f m
  simpa only [Bool.and_eq_true, beq_iff_eq] using this
theorem su_of {C : Addr} {l : List (Value × Bool)} (h : suB K C l = true) {v : Value} {b : Bool} (m : (v, b) ∈ l) : PySem.W.subIn K (.ref C) v = some b := beq_iff_eq.mp (List.all_eq_true.mp h _ m)
theorem ki_of {C : Addr} {l : List (Value × Bool)} (h : kiB K C l = true) {v : Value} {b : Bool} (m : (v, b) ∈ l) : PySem.W.kitOne K (.ref C) v = some b := beq_iff_eq.mp (List.all_eq_true.mp h _ m)
theorem kr_of {C : Addr} : ∀ {l : List (Value × Bool)}, kiB K C l = true → KR K (.ref C) (l.map (·.1)) (l.map (·.2))
  | [], _ => KR.nil
  | p :: l, h => by
    have h' := h
    unfold kiB at h'
    rw [List.all_cons, Bool.and_eq_true] at h'
    exact KR.cons (beq_iff_eq.mp h'.1) (kr_of (l := l) h'.2)
theorem ty_of {f : Addr} (h : tyB K f = true) : PySem.W.typeIn K (.ref f) = some (.type "function") := beq_iff_eq.mp h
def ckB (K : PySem.W.Frag) (cd : Value) (q : Str) (f : Addr) : Bool := PySem.W.codeIn K cd q && PySem.W.keepIn K (.ref f)
theorem ck_of {cd : Value} {q : Str} {f : Addr} (h : ckB K cd q f = true) : PySem.W.codeIn K cd q = true ∧ PySem.W.keepIn K (.ref f) = true := by simpa only [ckB, Bool.and_eq_true] using h
/-- a def of the text, its function object's data not told -/
def DefK (K : PySem.W.Frag) (x qual : Str) (st : Stmt) (f : Addr) : Prop := ∃ fd, Fun K x qual st f fd
noncomputable def DefK.fd {x qual : Str} {st : Stmt} {f : Addr} (h : DefK K x qual st f) : FuncData := Classical.choose h
theorem DefK.F {x qual : Str} {st : Stmt} {f : Addr} (h : DefK K x qual st f) : Fun K x qual st f h.fd := Classical.choose_spec h
theorem defK_mk {x qual : Str} {st : Stmt} {f : Addr} {oc : Value} {od an : Option Addr} {osl : Array (Option Value)} {kV doc pm cdv ct : Value} (l : K.lookup f = some ⟨oc, od, .func (PySem.W.fnOf x qual (defArgs st) (defBody st) (defScope st) .none kV doc pm an cdv ct), osl⟩) (q : ckB K cdv qual f = true) : DefK K x qual st f :=
  ⟨_, fun_mk l (ck_of q).1 (ck_of q).2⟩
theorem binds_one {x qual : Str} {st : Stmt} {f : Addr} {fd : FuncData} {n : Str} (F : Fun K x qual st f fd) (h : ∀ (kV doc pm : Value) (an : Option Addr) (cdv ct : Value) (v : Value), bindArgs (PySem.W.fnOf x qual (defArgs st) (defBody st) (defScope st) .none kV doc pm an cdv ct) ⟨[v], []⟩ = pure [(n, v)]) :
    ∀ (s : Shared) (v : Value), BindsTo s fd ⟨[v], []⟩ [(n, v)] := by
  obtain ⟨oc, od, kV, doc, pm, an, cdv, ct, osl, rfl, lk, hcd⟩ := F.ex
  exact fun s v => .of_eq (h kV doc pm an cdv ct v)
end
end KX

namespace KX
open PySem PySem.Spec PyProof.Rows L2
open LamX (CodeO TabS Tabs ExtN LamS lamEnv lamCx TabB)
/-! ### a lambda without parameters, handed to a def of one parameter: what is raised is told at the receiver's slots -/
/-- what a call of the lambda reads, in the def that holds it in its first slot -/
def tAct (f c' : Addr) (q : Str) (tl : XK → Hp → VK → Prop) (W : WX) : TE := fun σ H Q =>
  σ[0]? = some (some (.ref f)) ∧ H c' = some (CodeO c' q) ∧ tl (WE W σ) H Q
section
variable {X : Cx}
/-- the receiver's context -/
abbrev recvCx (X : Cx) (N : List Str) (x : Str) (sc : Scope) (g : Addr) (cdv : Value) (s : Shared) (H : Hp) : Cx :=
  cxOf CX0 X.prog X.w X.K X.mg X.base N x sc g cdv X.A X.stack s H (fun _ _ _ => False)
theorem lam_act {pins : List (Addr × Obj)} {σ : L2.St} {H : Hp} {s : Shared} {N : List Str} {x a : Str} {sc scope : Scope} {g f c' : Addr} {cdv pm ctv : Value} {params : Arguments} {body : Expr} {k : Nat} {pn : List (Addr × Obj)} {xe : Value → Shared → Prop} {W : WX} {tb : XK → TE} {p1 p2 : Pos}
    (I : Inv X pins σ H s) (L : LamS X.env.scope scope) (made : s.heap.get? f = some (PySem.W.kla_obj "<lambda>" (X.env.qual ++ "<lambda>") params body scope (cloFrom X.env.cells scope.names []) pm c' ctv)) (free : H f = none) (off : f ∉ frs X.stack)
    (none0 : ∀ cv ct : Value, bindArgs (PySem.W.kla_fn "<lambda>" (X.env.qual ++ "<lambda>") params body scope (cloFrom X.env.cells scope.names []) pm cv ct) ⟨[], []⟩ = pure [])
    (tk : Takes ((recvCx X N x sc g cdv s H).tr pn xe) W) (hr : Rg (k + 1) (X.A.deeper (envOfC x sc s.heap.objs.size g cdv)))
    (inner : ∀ (B : Around) (outer : List Env) (t : Shared) (H' : Hp) (E : XK), Rg k (B.deeper (lamEnv X scope t.heap.objs.size f c')) → PE (lamCx X B outer t H' E scope f c') body (tb E))
    (at0 : N[0]? = some a) (vis : Vis sc a) (nd : (a == ("__debug__" : Str)) = false) (nc : (a == ("__classdict__" : Str)) = false) :
    PE ((recvCx X N x sc g cdv s H).tr pn xe) (.Call (.Name a p1) [] [] p2) (tAct f c' (X.env.qual ++ "<lambda>") (fun E => tb E σ) W) := by
  refine ⟨fun pinsZ t σZ HZ Q J ⟨slot, code, told⟩ => ?_⟩
  have read := (pe_var (X := (recvCx X N x sc g cdv s H).tr pn xe) (pos := p1) (i := 0) at0 vis nd nc).run pinsZ t σZ HZ (fun v H1 => v = .ref f ∧ H1 = HZ) J ⟨_, slot, rfl, rfl⟩
  refine wpAny_Call_Name_kw (thn read fun u t1 ⟨v, H1, J1, rel, ev, eH⟩ => ?_)
  subst ev eH
  obtain rfl : u = Value.ref f := rel
  have stays : t1.heap.get? f = _ := J1.base.keep f _ made free off (fun z => nomatch (show f ∈ ([] : List Addr) from z))
  refine PySem.W.callWith_F0 ⟨_, _, _, _, stays⟩ ?_
  have since : Un (frs X.stack) [] H H1 s.heap t1.heap := J1.base
  obtain ⟨⟨oc, vs, tk', e1, e2, e3⟩, _⟩ := J1.hok c' _ code
  have run : codeAny (model X.prog X.w) (X.A.deeper (envOfC x sc s.heap.objs.size g cdv)) (.call (.ref f) ⟨[], []⟩) (CR (L2.CX X.prog X.w) (envOfC x sc s.heap.objs.size g cdv :: X.stack) X.prog X.w H1 t1 Q (WE W σZ)) t1 := by
    refine PySem.W.kla_callFunE hr.room.depth stays rfl L.co L.gen rfl ⟨c', oc, vs, tk', rfl, e1, e2, e3⟩ ?_
    rw [none0]
    refine wpAny_pure (wpAny_newFunctionEnv (fun y hy => (L.own y hy).2) (fun y hy => (nomatch hy)) (fun h1 ns same => ⟨J1.nolimit.fresh _ same, ?_⟩) L.kind)
    have grows : ∀ b o, t1.heap.get? b = some o → h1.get? b = some o := fun b o e => same.extBut b o (Nat.ne_of_lt (Heap.lt_size e)) (Heap.get?_push_of_some _ e)
    have J2 := LamX.lam_start2 (tk := t1.toks + ([] : List (Str × Value)).length) (A := X.A.deeper (envOfC x sc s.heap.objs.size g cdv)) (outer := envOfC x sc s.heap.objs.size g cdv :: X.stack) (E := WE W σZ) (f := f) (c' := c') I L J1.env0 hr.room.hd since ns grows
    refine PySem.W.kla_codeExpr (wpAny_mono ((inner _ _ t1 H1 _ (hr.deeper _)).run [] _ _ H1 Q J2 told) (fun v t2 ⟨v', H2, J3, rel2, q⟩ => ?_) fun e t2 q => q)
    exact ⟨v', H2, J3.os, J3.bare, J3.base, J3.hok, rel2, q⟩
  refine wpAny_call (codeAny_mono run fun r t2 hq => ?_)
  match r, hq with
  | .error e, hq => exact passAt tk σZ pinsZ H1 t1 e t2 J1 hq
  | .ok .next, hq => exact False.elim hq
  | .ok .brk, hq => exact False.elim hq
  | .ok .cont, hq => exact False.elim hq
  | .ok (.ret u), hq => exact J1.after hq
/-- the def g calls what it got: TT is what it makes of the lambda's reading -/
def GivesG (X : Cx) (N : List Str) (x : Str) (sc : Scope) (g : Addr) (bg : List Stmt) (q : Str) (k : Nat) (TT : (XK → Hp → VK → Prop) → Hp → VK → Prop) : Prop :=
  ∀ (cdv : Value) (a : Str) (f c' : Addr) (s : Shared) (H : Hp) (Q : VK) (tl : XK → Hp → VK → Prop), N[0]? = some a → Rg k (X.A.deeper (envOfC x sc s.heap.objs.size g cdv)) →
    (∀ (W : WX) (pn : List (Addr × Obj)) (xe : Value → Shared → Prop) (p1 p2 : Pos), Takes ((recvCx X N x sc g cdv s H).tr pn xe) W → PE ((recvCx X N x sc g cdv s H).tr pn xe) (.Call (.Name a p1) [] [] p2) (tAct f c' q tl W)) →
    H c' = some (CodeO c' q) → TT tl H Q → ∃ t, PSs (recvCx X N x sc g cdv s H).nox bg t ∧ t { nx := fun _ H' => Q .non H', rt := Q } (L2.start N [.ref f]) H
def tLamG (T : List (Addr × Str)) (TT : (XK → Hp → VK → Prop) → Hp → VK → Prop) (tb : XK → TE) : TE := fun σ H Q => Tabs T H ∧ ∀ H1, ExtN H H1 → Tabs T H1 → TT (fun E => tb E σ) H1 Q
theorem pe_lamG {T : List (Addr × Str)} {TT : (XK → Hp → VK → Prop) → Hp → VK → Prop} {x a : Str} {g c P : Addr} {k : Nat} {st : Stmt} {fd : FuncData} {N : List Str} {params : Arguments} {body : Expr} {scope : Scope} {tb : XK → TE} {p lpos pos : Pos}
    (F : Fun X.K x x st g fd) (hg : Gl X x) (hm : X.mg x = some (.ref g)) (hb : Binds X.K fd [a] []) (S : FnScope N [a] (defScope st)) (at0 : N[0]? = some a) (vis : Vis (defScope st) a) (gives : GivesG X N x (defScope st) g (defBody st) (X.env.qual ++ "<lambda>") (k + 1) TT)
    (TB : TabB X.base X.mg c P) (code : X.env.code = .ref c) (inT : (P, X.env.qual ++ "<lambda>") ∈ T) (one : ∀ p ∈ T, p.1 = P → p.2 = X.env.qual ++ "<lambda>") (hr : Rg (k + 2) X.A) (L : LamS X.env.scope scope) (nodef : defaultsOf params X.env = ([], []))
    (none0 : ∀ (q : Str) (cl : List (Str × Addr)) (pm cv ctv : Value), bindArgs (PySem.W.kla_fn "<lambda>" q params body scope cl pm cv ctv) ⟨[], []⟩ = pure [])
    (inner : ∀ (B : Around) (outer : List Env) (t : Shared) (H' : Hp) (E : XK) (f c' : Addr), Rg k (B.deeper (lamEnv X scope t.heap.objs.size f c')) → PE (lamCx X B outer t H' E scope f c') body (tb E))
    (nx : (x == ("__debug__" : Str)) = false := by decide) (nd : (a == ("__debug__" : Str)) = false := by decide) (nc : (a == ("__classdict__" : Str)) = false := by decide) :
    PE X (.Call (.Name x p) [.Lambda params body scope lpos] [] pos) (tLamG T TT tb) := by
  obtain ⟨oc, od, kV, doc, pm, an, cdv, ct, osl, rfl, lk, hcd⟩ := F.ex
  refine ⟨fun pins s σ H Q I ⟨tabs, told⟩ => ?_⟩
  refine wpAny_Call_Name_kw (ld_glob I hg hm ?_ nx)
  refine PySem.W.callWith_K (h₀ := X.base) I.ok.mod.kin F.kp ?_ (by rfl) (by rfl)
  refine Calls.spliced_cons (LamX.lam_make2 I TB code inT one tabs nodef (L.has I.ok) fun f c' pm' ctv H1 s' J ext tabs1 made free off co => ?_)
  refine Calls.spliced_nil ⟨J.kIn, ?_⟩
  have run : codeAny (model X.prog X.w) X.A (.call (.ref g) ⟨[.ref f], []⟩) (CR CX0 X.stack X.prog X.w H1 s' Q (fun _ _ _ => False)) s' := by
    refine LamX.run_ofS (N := N) (ps := [a]) (us := [.ref f]) (vs := [.ref f]) (k := k + 1) lk hcd S hr.room J.env0 (hb s' [.ref f] J.kIn rfl) (.cons rfl .nil) rfl fun hr' => ?_
    have hg' : Rg (k + 1) (X.A.deeper (envOfC x (defScope st) s'.heap.objs.size g cdv)) := ⟨hr', hr.gd⟩
    obtain ⟨t, ht, q⟩ := gives cdv a f c' s' H1 Q (fun E => tb E σ) at0 hg' (fun W pn xe p1 p2 tk => lam_act J L made free off (fun cv ct => none0 _ _ _ _ _) tk hg' (fun B outer t H' E hl => inner B outer t H' E f c' hl) at0 vis nd nc) co (told H1 ext tabs1)
    exact ⟨t, ht.nox, q⟩
  refine wpAny_call (codeAny_mono run fun r s2 hq => ?_)
  match r, hq with
  | .error e, hq => exact (show False from hq).elim
  | .ok .next, hq => exact False.elim hq
  | .ok .brk, hq => exact False.elim hq
  | .ok .cont, hq => exact False.elim hq
  | .ok (.ret u), hq => exact J.after hq
/-- in the lambda's body: what is called may raise -/
theorem passLam {B : Around} {outer : List Env} {t : Shared} {H : Hp} {E : XK} {scope : Scope} {f c' : Addr} : Passes (L2.CX X.prog X.w) (lamCx X B outer t H E scope f c') E :=
  passes_call (X := lamCx X B outer t H E scope f c') (W := fun cls d _ H => E cls d H) (takes_of (E := E) rfl rfl rfl rfl) fun _ _ _ _ h => h
theorem i_lamG {T : List (Addr × Str)} {TT : (XK → Hp → VK → Prop) → Hp → VK → Prop} {tb : XK → TE} {σ : L2.St} {H : Hp} {Q : VK} (t : Tabs T H) (q : ∀ H1, ExtN H H1 → Tabs T H1 → TT (fun E => tb E σ) H1 Q) : tLamG T TT tb σ H Q := ⟨t, q⟩
theorem i_act {f c' : Addr} {q : Str} {tl : XK → Hp → VK → Prop} {W : WX} {σ : L2.St} {H : Hp} {Q : VK} (h : σ[0]? = some (some (.ref f))) (c : H c' = some (CodeO c' q)) (t : tl (WE W σ) H Q) : tAct f c' q tl W σ H Q := ⟨h, c, t⟩
end
/-! ### what a lambda's making leaves -/
def noTbl : HO → Bool
  | .tbl _ => false
  | _ => true
theorem extN_get {H H' : Hp} {a : Addr} {o : HO} (e : ExtN H H') (h : H a = some o) (n : noTbl o = true := by rfl) : H' a = some o := e a o h fun ps z => by subst z; cases n
theorem extN_ofS {H H' : Hp} (s : Same H H') : ExtN H H' := fun b o h _ => s b o h
theorem extN_thenS {H H1 H2 : Hp} (b : Same H1 H2) (a : ExtN H H1) : ExtN H H2 := fun c o h n => b c o (a c o h n)
theorem extN_thenE {H H1 H2 : Hp} (b : ExtN H1 H2) (a : ExtN H H1) : ExtN H H2 := fun c o h n => b c o (a c o h n) n
theorem tabs_same {T : List (Addr × Str)} {H H' : Hp} (s : Same H H') (t : Tabs T H) : Tabs T H' := LamX.Tabs.ext t fun b o e => s b o e
/-- the heap without its tables -/
def nt (H : Hp) : Hp := fun b => match H b with
  | some o => if noTbl o = true then some o else none
  | none => none
theorem nt_some {H : Hp} {a : Addr} {o : HO} (h : H a = some o) (n : noTbl o = true) : nt H a = some o := by
  unfold nt; rw [h]; exact if_pos n
theorem nt_of {H : Hp} {a : Addr} {o : HO} (h : nt H a = some o) : H a = some o ∧ noTbl o = true := by
  unfold nt at h
  split at h
  · split at h
    · rename_i e n; cases h; exact ⟨e, n⟩
    · cases h
  · cases h
theorem nt_same {H : Hp} : Same (nt H) H := fun b o e => (nt_of e).1
theorem extN_nt {H H' : Hp} (e : ExtN H H') : Same (nt H) (nt H') := fun b o h => by
  obtain ⟨h1, n⟩ := nt_of h
  exact nt_some (extN_get e h1 n) n
theorem extN_ntH {H H' : Hp} (e : ExtN H H') : Same (KX.nt H) H' := fun b o h => (nt_of (extN_nt e b o h)).1
theorem Rd.nt {H : Hp} {a : Addr} {u : HO} (n : noTbl u = true) (r : Rd H a u) : Rd (KX.nt H) a u := by
  rcases r with r | ⟨o, r⟩
  · exact .inl (nt_some r n)
  · exact .inr ⟨o, nt_some r rfl⟩
theorem sqL_nt {K : PySem.W.Frag} {H : Hp} {a : Addr} {xs : List V} (h : SqL K H a xs) : SqL K (nt H) a xs := by
  rcases h with h | h
  · exact .inl (Rd.nt rfl h)
  · exact .inr h
theorem sqT_nt {K : PySem.W.Frag} {H : Hp} {a : Addr} {xs : List V} (h : SqT K H a xs) : SqT K (nt H) a xs := by
  rcases h with h | h
  · exact .inl (Rd.nt rfl h)
  · exact .inr h
mutual
theorem DaF.nt {b : Bool} {K : PySem.W.Frag} {H : Hp} : ∀ {v : V} {d : PyData}, DaF b K H v d → DaF b K (KX.nt H) v d
  | _, _, .non => .non
  | _, _, .bl b => .bl b
  | _, _, .int i => .int i
  | _, _, .str x => .str x
  | _, _, .lst h n a => .lst (sqL_nt h) n (DaAllF.nt a)
  | _, _, .tup h a => .tup (sqT_nt h) (DaAllF.nt a)
  | _, _, .dic h a => .dic (Rd.nt rfl h) (DaKvF.nt a)
theorem DaAllF.nt {b : Bool} {K : PySem.W.Frag} {H : Hp} : ∀ {vs : List V} {ds : List PyData}, DaAllF b K H vs ds → DaAllF b K (KX.nt H) vs ds
  | _, _, .nil => .nil
  | _, _, .cons a r => .cons (DaF.nt a) (DaAllF.nt r)
theorem DaKvF.nt {b : Bool} {K : PySem.W.Frag} {H : Hp} : ∀ {kvs : List (Key × V)} {ds : List (PyData × PyData)}, DaKvF b K H kvs ds → DaKvF b K (KX.nt H) kvs ds
  | _, _, .nil => .nil
  | _, _, .cons a r => .cons (DaF.nt a) (DaKvF.nt r)
end
theorem DaF.extN {b : Bool} {K : PySem.W.Frag} {H H' : Hp} {v : V} {d : PyData} (e : ExtN H H') (h : DaF b K H v d) : DaF b K H' v d := DaF.same (extN_ntH e) h.nt
theorem extN_wo {H H' : Hp} {r : Addr} (e : ExtN H H') : ExtN (wo r H) (wo r H') := fun b o h n => by
  by_cases z : b = r
  · have e' : wo r H b = none := if_pos z
    rw [e'] at h; cases h
  · rw [wo_get z] at h ⊢
    exact e b o h n
theorem tabs_nil {T : List (Addr × Str)} {H : Hp} (h : ∀ p ∈ T, H p.1 = some (.tbl #[])) : Tabs T H := fun p hp => LamX.TabS.nil (h p hp)
theorem Rok.extN {H H' : Hp} {r : Addr} (e : ExtN H H') (h : Rok H r) : Rok H' r := let ⟨a, b, k, z⟩ := h; ⟨a, b, extN_get e k, z⟩
/-! ### a def whose code object is told -/
theorem ne_of_beq_false {a b : Addr} (h : (a == b) = false) : a ≠ b := fun z => by rw [z, beq_self_eq_true] at h; cases h
structure FunC (K : PySem.W.Frag) (x qual : Str) (st : Stmt) (f : Addr) (fd : FuncData) (c : Addr) : Prop where
  ex : ∃ (oc : Value) (od : Option Addr) (kV doc pm : Value) (an : Option Addr) (ct : Value) (osl : Array (Option Value)),
    fd = PySem.W.fnOf x qual (defArgs st) (defBody st) (defScope st) .none kV doc pm an (.ref c) ct ∧ K.lookup f = some ⟨oc, od, .func fd, osl⟩ ∧ PySem.W.codeIn K (.ref c) qual = true
  kp : PySem.W.keepIn K (.ref f) = true
theorem func_mk {K : PySem.W.Frag} {x qual : Str} {st : Stmt} {f c : Addr} {oc kV doc pm ct : Value} {od an : Option Addr} {osl : Array (Option Value)} (lk : K.lookup f = some ⟨oc, od, .func (PySem.W.fnOf x qual (defArgs st) (defBody st) (defScope st) .none kV doc pm an (.ref c) ct), osl⟩) (cd : PySem.W.codeIn K (.ref c) qual = true) (kp : PySem.W.keepIn K (.ref f) = true) :
    FunC K x qual st f (PySem.W.fnOf x qual (defArgs st) (defBody st) (defScope st) .none kV doc pm an (.ref c) ct) c := ⟨⟨oc, od, kV, doc, pm, an, ct, osl, rfl, lk, cd⟩, kp⟩
theorem FunC.toF {K : PySem.W.Frag} {x qual : Str} {st : Stmt} {f c : Addr} {fd : FuncData} (F : FunC K x qual st f fd c) : Fun K x qual st f fd := by
  obtain ⟨⟨oc, od, kV, doc, pm, an, ct, osl, e, lk, cd⟩, kp⟩ := F
  exact ⟨⟨oc, od, kV, doc, pm, an, .ref c, ct, osl, e, lk, cd⟩, kp⟩
def DefC (K : PySem.W.Frag) (x qual : Str) (st : Stmt) (f c : Addr) : Prop := ∃ fd, FunC K x qual st f fd c
noncomputable def DefC.fd {K : PySem.W.Frag} {x qual : Str} {st : Stmt} {f c : Addr} (h : DefC K x qual st f c) : FuncData := Classical.choose h
theorem DefC.C {K : PySem.W.Frag} {x qual : Str} {st : Stmt} {f c : Addr} (h : DefC K x qual st f c) : FunC K x qual st f h.fd c := Classical.choose_spec h
theorem DefC.F {K : PySem.W.Frag} {x qual : Str} {st : Stmt} {f c : Addr} (h : DefC K x qual st f c) : Fun K x qual st f h.fd := h.C.toF
theorem defC_mk {K : PySem.W.Frag} {x qual : Str} {st : Stmt} {f c : Addr} {oc kV doc pm ct : Value} {od an : Option Addr} {osl : Array (Option Value)} (l : K.lookup f = some ⟨oc, od, .func (PySem.W.fnOf x qual (defArgs st) (defBody st) (defScope st) .none kV doc pm an (.ref c) ct), osl⟩) (q : ckB K (.ref c) qual f = true) : DefC K x qual st f c :=
  ⟨_, func_mk l (ck_of q).1 (ck_of q).2⟩
theorem ok_gC {P : Program} {w : World} {K : PySem.W.Frag} {mg : Str → Option Value} {base : Heap} {x qual : Str} {st : Stmt} {f c : Addr} {fd : FuncData} {N ps : List Str} {k : Nat} {sp : Sp} (F : FunC K x qual st f fd c) (S : FnScope N ps (defScope st)) (len : ∀ vs H Q E, sp vs H Q E → vs.length = ps.length)
    (hbody : ∀ (A : Around) (outer : List Env) (s : Shared) (H : Hp) (vs : List V) (Q : VK) (E : XK), Rg k (A.deeper (envOfC qual (defScope st) s.heap.objs.size f (.ref c))) → sp vs H Q E →
      ∃ t, PSs (cxOf CX0 P w K mg base N qual (defScope st) f (.ref c) A outer s H E).nox (defBody st) t ∧ t { nx := fun _ H' => Q .non H', rt := Q } (start N vs) H) : Fg P w K mg base CX0 (k + 1) f fd ps sp := by
  obtain ⟨oc, od, kV, doc, pm, an, ct, osl, rfl, lk, hcd⟩ := F.ex
  refine fg_of lk hcd S len fun A outer s H vs Q E hr hsp => ?_
  obtain ⟨t, h, q⟩ := hbody A outer s H vs Q E hr hsp
  exact ⟨t, h.nox, q⟩
/-! ### the law's call from the top, with tables of code objects -/
section
variable {P : Program} {w : World} {K : PySem.W.Frag} {mg mb : Str → Option Value}
def scrT (K : PySem.W.Frag) (ts : List Addr) (a : Addr) (us : List Value) (ns : List Int) : Hp := fun b =>
  if b ∈ ts then some (.tbl #[]) else scrH K a us ns b
/-- what the law's def promises, at the heap behind the top: cs are the code objects with their tables -/
theorem lawGT {CX : CXT} {k : Nat} {fa a : Addr} {fd : FuncData} {x : Str} {sp : Sp} {t0 : Shared} {us : List Value} {ns : List Int} {cs : List (Addr × Addr)} (inK : K.In t0.heap) (g1 : t0.heap.Ns mainGlobals mg) (g2 : t0.heap.Ns builtinsNs mb)
    (g3 : ∀ y : Str, y ≠ "__name__" → mb y = bootBuiltins y) (g4 : t0.heap.NoLimit) (g5 : t0.gens = #[]) (empty : ∀ q ∈ cs, t0.heap.get? q.2 = some tabO) (notK : ∀ q ∈ cs, K.lookup q.2 = none) (heads : ∀ q ∈ cs, PySem.W.CodeHd t0.heap q.1 q.2)
    (bltn : ∃ (bm : Addr) (ob : Obj), mg "__builtins__" = some (.ref bm) ∧ bm ≠ builtinsNs ∧ t0.heap.get? bm = some ob ∧ ob.cls = .type "module" ∧ ob.dict = some builtinsNs ∧ ob.data = .plain)
    (there : t0.heap.get? a = some (scrO us)) (hin : IntsAre us ns) (few : ns.length ≤ sizeLine) (room : Room k callerA)
    (G : ∀ b0 : Heap, K.In b0 → b0.Ns mainGlobals mg → (∀ q ∈ cs, TabB b0 mg q.1 q.2) → Fg P w K mg b0 CX k fa fd [x] sp) (binds : ∀ (s : Shared) (u : Value), BindsTo s fd ⟨[u], []⟩ [(x, u)])
    (promise : ∀ H : Hp, (∀ q ∈ cs, H q.2 = some (.tbl #[])) → SqL K H a (ns.map V.int) → sp [.ref a] H (fun v _ => v = .bl true) fun _ _ _ => False) (noX : ∀ H e s', CX [] H t0 (fun _ _ _ => False) e s' → False) :
    codeAny (model P w) callerA (.call (.ref fa) ⟨[.ref a], []⟩)
      (fun r s' => r = .ok (.ret (.bool true)) ∧ OldK t0.heap s'.heap ∧ s'.os = t0.os ∧ AllBare s'.gens) t0 := by
  have rel := vals_ints hin
  have ofT : ∀ {b}, b ∈ cs.map (·.2) → t0.heap.get? b = some tabO ∧ K.lookup b = none := fun {b} m => by
    obtain ⟨q, hq, rfl⟩ := List.mem_map.mp m
    exact ⟨empty q hq, notK q hq⟩
  have aT : a ∉ cs.map (·.2) := fun m => by
    have e := (ofT m).1
    rw [there] at e
    exact nomatch (show Data.seq us.toArray _ = Data.fields #[] from congrArg Obj.data (Option.some.inj e))
  -- the abstract heap, by cases
  have cases_ : ∀ b, scrT K (cs.map (·.2)) a us ns b = none ∨ (b ∈ cs.map (·.2) ∧ scrT K (cs.map (·.2)) a us ns b = some (.tbl #[])) ∨
      (b = a ∧ K.lookup a = none ∧ scrT K (cs.map (·.2)) a us ns b = some (.frz (scrO us) (.lst (ns.map V.int)))) := fun b => by
    by_cases m : b ∈ cs.map (·.2)
    · exact .inr (.inl ⟨m, if_pos m⟩)
    · have e : scrT K (cs.map (·.2)) a us ns b = scrH K a us ns b := if_neg m
      rcases scrH_or K a us ns b with h | ⟨h1, h2, h3⟩
      · exact .inl (e.trans h)
      · exact .inr (.inr ⟨h1, h2, e.trans h3⟩)
  have off : ∀ {b : Addr} {o : Obj}, t0.heap.get? b = some o → (b ∈ cs.map (·.2) → False) → (b = a → K.lookup a = none → False) → (hidT t0.heap (scrT K (cs.map (·.2)) a us ns)).get? b = some o := fun {b o} e z1 z2 => by
    refine hidT_get e ?_
    rcases cases_ b with h | ⟨h, _⟩ | ⟨h1, h2, _⟩
    · exact h
    · exact (z1 h).elim
    · exact (z2 h1 h2).elim
  have other : ∀ {b : Addr} {o : Obj}, t0.heap.get? b = some o → (∀ vs n, o.data ≠ .seq vs n) → o.data ≠ .fields #[] → (hidT t0.heap (scrT K (cs.map (·.2)) a us ns)).get? b = some o := fun {b o} e z1 z2 => by
    refine off e (fun m => ?_) fun m _ => ?_
    · rw [(ofT m).1] at e; cases e; exact z2 rfl
    · rw [m, there] at e; cases e; exact z1 _ _ rfl
  have names : ∀ {b : Addr} {m : Str → Option Value}, t0.heap.Ns b m → (hidT t0.heap (scrT K (cs.map (·.2)) a us ns)).Ns b m := fun {b m} ⟨o, es, ep, e, d, r⟩ =>
    ⟨o, es, ep, other e (fun vs n z => by rw [d] at z; cases z) (fun z => by rw [d] at z; cases z), d, r⟩
  have inB : K.In (hidT t0.heap (scrT K (cs.map (·.2)) a us ns)) := fun b o e => off (inK b o e) (fun m => by rw [(ofT m).2] at e; cases e) fun z1 z2 => by
    rw [z1, z2] at e; cases e
  have top : Mod K mg (hidT t0.heap (scrT K (cs.map (·.2)) a us ns)) := ⟨inB, names g1, ⟨mb, names g2, g3⟩, let ⟨mc, h1, h2⟩ := g4; ⟨mc, names h1, h2⟩⟩
  have hok : HOk P w (scrT K (cs.map (·.2)) a us ns) t0.heap := fun b u z => by
    rcases cases_ b with h | ⟨h1, h2⟩ | ⟨h1, _, h3⟩
    · rw [h] at z; cases z
    · rw [h2] at z
      cases z
      exact (ofT h1).1
    · rw [h3] at z
      cases z
      subst h1
      exact ⟨there, by rw [List.length_map]; exact few, us, _, rel, there⟩
  have env : Env0 P w K mg (hidT t0.heap (scrT K (cs.map (·.2)) a us ns)) callerA [] t0 (scrT K (cs.map (·.2)) a us ns) :=
    ⟨rfl, top, fun b o e => of_hidT e, Nat.le_of_eq (hidT_size _ _), trivial, fun b hb => (nomatch hb), hok, .of_eq g5⟩
  have tabB : ∀ q ∈ cs, TabB (hidT t0.heap (scrT K (cs.map (·.2)) a us ns)) mg q.1 q.2 := fun q hq => by
    have eT := empty q hq
    have gP : mainGlobals ≠ q.2 := fun z => by
      obtain ⟨o, es, ep, e, d, _⟩ := g1
      rw [z, eT] at e; cases e; cases d
    refine ⟨?_, ?_, gP⟩
    · obtain ⟨o, vs, file, tf, flags, tg, inF, text, tt, e1, r1, r2, r3, more⟩ := heads q hq
      exact ⟨o, vs, file, tf, flags, tg, inF, text, tt, other e1 (fun vs n z => by rw [r2] at z; cases z) (fun z => by rw [r2] at z; cases z; simp at r3), r1, r2, r3, more⟩
    · obtain ⟨bm, ob, b1, b2, b3, b4, b5, b6⟩ := bltn
      refine ⟨bm, ob, b1, b2, fun z => ?_, fun z => ?_, other b3 (fun vs n z => by rw [b6] at z; cases z) (fun z => by rw [b6] at z; cases z), b4, b5, b6⟩
      · obtain ⟨o, es, ep, e, d, _⟩ := g1
        rw [z, e] at b3; cases b3; rw [d] at b6; cases b6
      · rw [z, eT] at b3; cases b3; cases b6
  have seen : SqL K (scrT K (cs.map (·.2)) a us ns) a (ns.map V.int) := by
    have ea : scrT K (cs.map (·.2)) a us ns a = scrH K a us ns a := if_neg aT
    cases lk : K.lookup a with
    | none => exact .inl (.inr ⟨scrO us, ea.trans (if_pos ⟨rfl, lk⟩)⟩)
    | some o =>
      have e := inK a o lk
      rw [there] at e
      cases e
      exact .inr ⟨_, us.toArray, _, lk, rfl, rfl, rfl, by rw [List.size_toArray, hin.length]; exact few, by simpa using rel⟩
  have tabs0 : ∀ q ∈ cs, scrT K (cs.map (·.2)) a us ns q.2 = some (.tbl #[]) := fun q hq => if_pos (List.mem_map.mpr ⟨q, hq, rfl⟩)
  refine codeAny_mono ((G _ inB (names g1) tabB).run callerA [] t0 (scrT K (cs.map (·.2)) a us ns) ⟨[.ref a], []⟩ [.ref a] [.ref a] _ _ ⟨room, rfl⟩ env (binds t0 (.ref a)) (.cons rfl .nil) (promise _ tabs0 seen)) fun r s' end_ => ?_
  match r, end_ with
  | .error e, end_ => exact (noX _ e s' end_).elim
  | .ok .next, end_ => exact False.elim end_
  | .ok .brk, end_ => exact False.elim end_
  | .ok .cont, end_ => exact False.elim end_
  | .ok (.ret u), ⟨v, H', os, bare, un, hok', r', q⟩ =>
    have q' : v = .bl true := q
    subst q'
    obtain rfl : u = Value.bool true := r'
    have kept : ∀ b o, b ∉ cs.map (·.2) → t0.heap.get? b = some o → s'.heap.get? b = some o := fun b o nb e => by
      rcases cases_ b with h | ⟨h, _⟩ | ⟨h1, h2, h3⟩
      · exact un.keep b o e h (fun z => (nomatch z)) (fun z => (nomatch z))
      · exact (nb h).elim
      · obtain ⟨e1, _⟩ := hok b _ h3
        obtain ⟨e2, _⟩ := hok' b _ (un.frzs b _ _ h3)
        rw [e] at e1
        cases e1
        exact e2
    have grown : ∀ qc ∈ cs, ∃ more : Array Value, s'.heap.get? qc.2 = some { cls := .none, data := .fields more } := fun qc hq => by
      obtain ⟨more, z⟩ := un.tbls qc.2 #[] (tabs0 qc hq)
      exact ⟨_, hok' qc.2 _ z⟩
    refine ⟨rfl, ⟨fun b o e => ?_, fun b o e => ?_⟩, os, bare⟩
    · by_cases m : b ∈ cs.map (·.2)
      · obtain ⟨qc, hq, rfl⟩ := List.mem_map.mp m
        obtain ⟨more, hm⟩ := grown qc hq
        rw [empty qc hq] at e
        cases e
        exact .inr (.inl ⟨((heads qc hq).tab (empty qc hq)).isCodeTable, rfl, #[], more, rfl, by rw [Array.empty_append]; exact hm⟩)
      · exact .inl (kept b o m e)
    · by_cases m : b ∈ cs.map (·.2)
      · obtain ⟨qc, hq, rfl⟩ := List.mem_map.mp m
        obtain ⟨more, hm⟩ := grown qc hq
        exact ⟨_, hm⟩
      · exact ⟨o, kept b o m e⟩
/-- what is known of the law's promise at the head's heap -/
def LawT (l : PySem.W.OpenLaw) (w : World) (K : PySem.W.Frag) (CX : CXT) (k n : Nat) (x : Str) (mg : Str → Option Value) (fa : Addr) (h : Heap) : Prop := ∃ (fd : FuncData) (cs : List (Addr × Addr)) (sp : Sp),
  (∀ q ∈ cs, h.get? q.2 = some tabO ∧ K.lookup q.2 = none ∧ PySem.W.codeHdIn K q.1 q.2 = true) ∧ (∀ (s : Shared) (u : Value), BindsTo s fd ⟨[u], []⟩ [(x, u)]) ∧
    (∀ (H : Hp) (a : Addr) (ns : List Int), ns.length ≤ n → (∀ z ∈ ns, Builtin.Int.intBits z ≤ 1048576) → (∀ q ∈ cs, H q.2 = some (.tbl #[])) → SqL K H a (ns.map V.int) → sp [.ref a] H (fun v _ => v = .bl true) fun _ _ _ => False) ∧
    ∀ b0 : Heap, K.In b0 → b0.Ns mainGlobals mg → (∀ q ∈ cs, TabB b0 mg q.1 q.2) → Fg l.prog w K mg b0 CX k fa fd [x] sp
theorem walkGT {l : PySem.W.OpenLaw} {n k : Nat} {q : Program} {loose : List Str} {XP : (Str → Option Value) → Heap → Prop} {YP : World → Heap → Prop} {d : DefRec} {K : Params → PySem.W.Frag} {CX : World → CXT} {x : Str} (most : l.most = some n) (few : n ≤ sizeLine)
    (plain : d.params.defaults = []) (room : Room k callerA) (inK : ∀ (w : World) (h : Heap), YP w h → (K w.params).In h)
    (G : ∀ (w : World) (mg : Str → Option Value) (fa : Addr) (h : Heap), YP w h → (K w.params).In h → h.Ns mainGlobals mg → mg d.name = some (.ref fa) → LawT l w (K w.params) (CX w) k n x mg fa h)
    (noX : ∀ (w : World) (H : Hp) (s : Shared) (e : Value) (s' : Shared), CX w [] H s (fun _ _ _ => False) e s' → False) :
    PySem.W.WalkO q loose XP YP l.row.toRowW d [] (fun f vs => PySem.call f vs) := by
  refine Att.attach_callB most plain fun w _ t0 mg mb fa _ _ _ _ a us ns gr y _ _ _ at_ there hin len bits gens => ?_
  have KX := inK w _ y
  obtain ⟨fd, cs, sp, tabs, binds, promise, hF⟩ := G w mg fa _ y KX gr.T.g at_
  exact lawGT KX gr.T.g gr.T.b gr.T.builtins gr.T.nolimit gens (fun q hq => (tabs q hq).1) (fun q hq => (tabs q hq).2.1) (fun q hq => PySem.W.codeHd_of_K KX (tabs q hq).2.2) gr.T.bmain there hin (Nat.le_trans len few) room hF binds (fun H hT seen => promise H a ns len bits hT seen) fun H e s' => noX w H t0 e s'
end
end KX

namespace KX
open PySem PySem.Spec PyProof.Rows L2
/-! ### the written part holds sys.modules, which is no list: so no list's address is its own -/
def SysD (K : PySem.W.Frag) : Prop := ∃ o, K.lookup sysModules = some o ∧ (o.cls == Value.type "list") = false
theorem sys_of {K : PySem.W.Frag} (h : sysB K = true) : SysD K := by
  unfold sysB at h
  split at h
  · rename_i o e
    exact ⟨o, e, by simpa using h⟩
  · cases h
section
variable {X : Cx} {pins : List (Addr × Obj)} {σ : L2.St} {H : Hp} {s : Shared}
theorem not_sys (S : SysD X.K) (I : Inv X pins σ H s) {a : Addr} {xs : List V} (h : SqL X.K H a xs) : a ≠ sysModules := by
  obtain ⟨o, e, hc⟩ := S
  obtain ⟨its, rv, ⟨o2, n, ho, hc2, _, hd⟩, _⟩ := I.list h
  intro z
  have e2 := I.kIn _ _ e
  rw [z, e2] at ho
  cases ho
  rw [hc2] at hc
  simp at hc
mutual
theorem DaF.up (S : SysD X.K) (I : Inv X pins σ H s) {b : Bool} : ∀ {v : V} {d : PyData}, DaF b X.K H v d → DaS X.K H v d
  | _, _, .non => DaF.non
  | _, _, .bl c => DaF.bl c
  | _, _, .int i => DaF.int i
  | _, _, .str x => DaF.str x
  | _, _, .lst h _ a => DaF.lst h (fun _ => not_sys S I h) (DaAllF.up S I a)
  | _, _, .tup h a => DaF.tup h (DaAllF.up S I a)
  | _, _, .dic h a => DaF.dic h (DaKvF.up S I a)
theorem DaAllF.up (S : SysD X.K) (I : Inv X pins σ H s) {b : Bool} : ∀ {vs : List V} {ds : List PyData}, DaAllF b X.K H vs ds → DaAllS X.K H vs ds
  | _, _, .nil => DaAllF.nil
  | _, _, .cons a r => DaAllF.cons (DaF.up S I a) (DaAllF.up S I r)
theorem DaKvF.up (S : SysD X.K) (I : Inv X pins σ H s) {b : Bool} : ∀ {kvs : List (Key × V)} {ds : List (PyData × PyData)}, DaKvF b X.K H kvs ds → DaKvF true X.K H kvs ds
  | _, _, .nil => DaKvF.nil
  | _, _, .cons a r => DaKvF.cons (DaF.up S I a) (DaKvF.up S I r)
end
end
def rReprE (K : PySem.W.Frag) : List V → Hp → VK → Prop := fun xs H Q => ∃ b v d, xs = [v] ∧ DaF b K H v d ∧ Shw d ∧ Q (.str d.shown) H
theorem call_reprE {X : Cx} (S : SysD X.K) (hr : Rg 1 X.A) : CallR X (.builtin "repr") (rReprE X.K) := by
  intro pins s σ H xs us Q I r ⟨b, v, d, e, h, w, q⟩
  exact call_reprD hr.gd (by have := hr.room.un; omega) pins s σ H xs us Q I r ⟨true, v, d, e, DaF.up S I h, .inl rfl, w, q⟩
theorem call_reprEK {X : Cx} {K : PySem.W.Frag} (hK : X.K = K) (S : SysD K) (hr : Rg 1 X.A) : CallR X (.builtin "repr") (rReprE K) := by
  subst hK; exact call_reprE S hr
theorem i_reprE {b : Bool} {K : PySem.W.Frag} {H : Hp} {Q : VK} {v : V} {d : PyData} (h : DaF b K H v d) (w : Shw d) (q : Q (.str d.shown) H) : rReprE K [v] H Q := ⟨b, v, d, rfl, h, w, q⟩
end KX

namespace KX
open PySem PySem.Spec PyProof.Rows L2
/-! ### the head run in the kernel: all facts are one truth value over the part that the names reach -/
theorem empty_of {o : Obj} (h : emptyB o = true) : o = tabO := by
  unfold emptyB at h
  split at h
  · simp only [Bool.and_eq_true, Array.isEmpty_iff] at h
    obtain ⟨h1, h2⟩ := h
    subst h1 h2
    rfl
  · cases h
theorem lookup_mem {a : Addr} {o : Obj} : ∀ {l : List (Addr × Obj)}, l.lookup a = some o → (a, o) ∈ l
  | [], h => by cases h
  | (b, u) :: l, h => by
    rw [List.lookup_cons] at h
    split at h
    · rename_i e
      cases h
      rw [beq_iff_eq.mp e]
      exact List.mem_cons_self
    · exact List.mem_cons_of_mem _ (lookup_mem h)
theorem frH_in {as : List Addr} {h : Heap} : (frH h.get? as).In h := fun a o e => by
  have m := (List.mem_filter.mp (lookup_mem e)).1
  unfold He.frG at m
  obtain ⟨b, _, hb⟩ := List.mem_filterMap.mp m
  cases q : h.get? b with
  | none => rw [q] at hb; cases hb
  | some u => rw [q] at hb; cases hb; exact q
structure SaysH (fa : List Fc) (fn : List He.DefD) (tb : List (Str × Option Str)) (K : PySem.W.Frag) (h : Heap) : Prop where
  inK : K.In h
  fact : ∀ f ∈ fa, f K = true
  defs : ∀ d ∈ fn, d.ok K = true ∧ He.fnW K d.at_ = d.val
  tabs : ∀ p ∈ tb, h.get? (mkT K p).2 = some tabO ∧ K.lookup (mkT K p).2 = none ∧ PySem.W.codeHdIn K (mkT K p).1 (mkT K p).2 = true
theorem saysH_of {n : Nat} {fa : List Fc} {fn : List He.DefD} {tb : List (Str × Option Str)} {h : Heap} (e : obsH n fa fn tb h.get? = He.valD fn) : SaysH fa fn tb (frH h.get? (sysModules :: cStatics :: He.asD h.get? n)) h := by
  have e1 := congrArg (fun z : He.AlD => z.1) e
  have e2 : (fn.map fun d => He.fnW (frH h.get? (sysModules :: cStatics :: He.asD h.get? n)) d.at_) = fn.map He.DefD.val := congrArg (fun z : He.AlD => z.2) e
  have e3 : ((fa.all fun f => f (frH h.get? (sysModules :: cStatics :: He.asD h.get? n))) && ((fn.all fun d => d.ok (frH h.get? (sysModules :: cStatics :: He.asD h.get? n))) && tb.all fun p => tbB h.get? (frH h.get? (sysModules :: cStatics :: He.asD h.get? n)) p)) = true := e1
  simp only [Bool.and_eq_true, List.all_eq_true] at e3
  obtain ⟨h1, h2, h3⟩ := e3
  refine ⟨frH_in, h1, fun d hd => ⟨h2 d hd, ?_⟩, fun p hp => ?_⟩
  · exact List.map_inj_left.mp e2 d hd
  · have z := h3 p hp
    unfold tbB at z
    simp only [Bool.and_eq_true] at z
    obtain ⟨z1, z2, z3⟩ := z
    refine ⟨?_, Option.isNone_iff_eq_none.mp z2, z1⟩
    split at z3
    · rename_i o ho
      rw [ho, empty_of z3]
    · cases z3
def hookH (n : Nat) (fa : List Fc) (fn : List He.DefD) (tb : List (Str × Option Str)) : PySem.W.Hook where
  α := He.AlD
  obs := fun s => obsH n fa fn tb s.heap.get?
  val := fun _ => He.valD fn
  says := fun _ h => ∃ K : PySem.W.Frag, SaysH fa fn tb K h
  of := fun _ _ e => ⟨_, saysH_of e⟩
  keeps := fun _ _ _ ⟨K, c⟩ k => ⟨K, PySem.W.Frag.In.keeps c.inK k, c.fact, c.defs, fun p hp => ⟨k _ _ (c.tabs p hp).1, (c.tabs p hp).2⟩⟩
theorem obsH_eq {n : Nat} {fa : List Fc} {fn : List He.DefD} {tb : List (Str × Option Str)} {g : Addr → Option Obj} {s : Shared} (h : ∀ a, g a = s.heap.get? a) : obsH n fa fn tb g = (hookH n fa fn tb).obs s := by
  have e : g = s.heap.get? := funext h
  rw [e] <;> rfl
theorem SaysH.at_ {fa : List Fc} {fn : List He.DefD} {tb : List (Str × Option Str)} {K : PySem.W.Frag} {h : Heap} (c : SaysH fa fn tb K h) (i : Nat) {f : Fc} (e : fa[i]? = some f := by rfl) : f K = true := c.fact f (List.mem_of_getElem? e)
theorem SaysH.def_ {fa : List Fc} {fn : List He.DefD} {tb : List (Str × Option Str)} {K : PySem.W.Frag} {h : Heap} (c : SaysH fa fn tb K h) (i : Nat) {st : Stmt} {p : Str × Option Str} {x q : Str} (e : fn[i]? = some ⟨p, x, q, defArgs st, defBody st, defScope st, [], []⟩ := by rfl) : DefK K x q st (He.fAd K p) := by
  obtain ⟨h1, h2⟩ := c.defs _ (List.mem_of_getElem? e)
  obtain ⟨fd, ⟨oc, od, dV, kV, doc, pm, an, cdv, ct, osl, ef, lk, cd, dfl, kwd⟩, kp⟩ := He.DefD.funD h2 h1
  have dn : dV = .none := by
    rcases dfl with ⟨_, z⟩ | ⟨z, _⟩
    · exact z
    · exact (z rfl).elim
  subst dn
  exact ⟨fd, ⟨oc, od, kV, doc, pm, an, cdv, ct, osl, ef, lk, cd⟩, kp⟩
theorem defC_of {K : PySem.W.Frag} {x q : Str} {st : Stmt} {f : Addr} (d : DefK K x q st f) (h : PySem.W.codeHdIn K (codeAt K f) (tabOf K (codeAt K f)) = true) : DefC K x q st f (codeAt K f) := by
  obtain ⟨fd, ⟨oc, od, kV, doc, pm, an, cdv, ct, osl, ef, lk, cd⟩, kp⟩ := d
  obtain ⟨c, _, _, _, e, _⟩ : ∃ (c : Addr) (oc : Obj) (vs : Array Value) (t : Tok), cdv = .ref c ∧ True := by
    unfold PySem.W.codeIn at cd
    cases cdv with
    | ref c => exact ⟨c, default, #[], default, rfl, trivial⟩
    | _ => cases cd
  subst e
  have ec : codeAt K f = c := by
    unfold codeAt
    rw [lk, ef]
  rw [ec]
  exact ⟨fd, ⟨oc, od, kV, doc, pm, an, ct, osl, ef, lk, cd⟩, kp⟩
section
variable {K : PySem.W.Frag} {h : Heap} {mg : Str → Option Value}
theorem glo_of (X : K.In h) (G : h.Ns mainGlobals mg) {x : Str} {f : PySem.W.Frag → Addr} (c : gloB x f K = true) : mg x = some (.ref (f K)) := PySem.W.mg_of X G (beq_iff_eq.mp c)
theorem free_of (X : K.In h) (G : h.Ns mainGlobals mg) {x : Str} (c : freeB x K = true) : mg x = none := PySem.W.mg_none_of X G (beq_iff_eq.mp c)
theorem int_of (X : K.In h) (G : h.Ns mainGlobals mg) {x : Str} {i : Int} (c : intB x i K = true) : mg x = some (.int i (tokOf K x)) := PySem.W.mg_of X G (beq_iff_eq.mp c)
theorem str_of (X : K.In h) (G : h.Ns mainGlobals mg) {x z : Str} (c : strB x z K = true) : mg x = some (.str z (tokOf K x)) := PySem.W.mg_of X G (beq_iff_eq.mp c)
theorem met_of {C m : Str} (c : metB C m K = true) : PySem.W.findIn K (.ref (He.ga K C)) m = some (some (.ref (He.fAd K (C, some m)))) := beq_iff_eq.mp c
theorem ib_of {C : Addr} {i : String} (c : ibB K C i = true) : InitB K i C := by
  unfold ibB at c
  simp only [Bool.and_eq_true, beq_iff_eq] at c
  obtain ⟨c1, c2, c3⟩ := c
  refine ⟨c1, c2, ?_⟩
  split at c3
  · rename_i s e
    rw [e, beq_iff_eq.mp c3]
  · cases c3
theorem cg_of (c : cgB K = true) : ClassGet K := by
  unfold cgB at c
  simp only [Bool.and_eq_true, beq_iff_eq] at c
  exact ⟨c.1, c.2⟩
end
theorem walkGE {l : PySem.W.OpenLaw} {n k : Nat} {q : Program} {loose : List Str} {XP : (Str → Option Value) → Heap → Prop} {YP : World → Heap → Prop} {d : DefRec} {CX : World → CXT} {x : Str} (most : l.most = some n) (few : n ≤ sizeLine)
    (plain : d.params.defaults = []) (room : Room k callerA)
    (G : ∀ (w : World) (mg : Str → Option Value) (fa : Addr) (h : Heap), YP w h → h.Ns mainGlobals mg → mg d.name = some (.ref fa) → ∃ K : PySem.W.Frag, K.In h ∧ LawT l w K (CX w) k n x mg fa h)
    (noX : ∀ (w : World) (H : Hp) (s : Shared) (e : Value) (s' : Shared), CX w [] H s (fun _ _ _ => False) e s' → False) :
    PySem.W.WalkO q loose XP YP l.row.toRowW d [] (fun f vs => PySem.call f vs) := by
  refine Att.attach_callB most plain fun w _ t0 mg mb fa _ _ _ _ a us ns gr y _ _ _ at_ there hin len bits gens => ?_
  obtain ⟨K, KX, fd, cs, sp, tabs, binds, promise, hF⟩ := G w mg fa _ y gr.T.g at_
  exact lawGT KX gr.T.g gr.T.b gr.T.builtins gr.T.nolimit gens (fun q hq => (tabs q hq).1) (fun q hq => (tabs q hq).2.1) (fun q hq => PySem.W.codeHd_of_K KX (tabs q hq).2.2) gr.T.bmain there hin (Nat.le_trans len few) room hF binds (fun H hT seen => promise H a ns len bits hT seen) fun H e s' => noX w H t0 e s'
/-! ### the run's equation in pieces: the kernel's memory is given back behind each -/
section
variable {σ : Type} {r : Option σ} {K : σ → PySem.W.Frag} {A B : List Fc}
theorem all_run (h1 : r.map (fun s => A.all fun f => f (K s)) = some true) (h2 : r.map (fun s => B.all fun f => f (K s)) = some true) : r.map (fun s => (A ++ B).all fun f => f (K s)) = some true := by
  cases r with
  | none => cases h1
  | some s =>
    have e1 : (A.all fun f => f (K s)) = true := Option.some.inj h1
    have e2 : (B.all fun f => f (K s)) = true := Option.some.inj h2
    show some ((A ++ B).all fun f => f (K s)) = some true
    rw [List.all_append, e1, e2]
    rfl
theorem pair_run {α β : Type} {f : σ → α} {g : σ → β} {a : α} {b : β} (h1 : r.map f = some a) (h2 : r.map g = some b) : r.map (fun s => (f s, g s)) = some (a, b) := by
  cases r with
  | none => cases h1
  | some s =>
    have e1 : f s = a := Option.some.inj h1
    have e2 : g s = b := Option.some.inj h2
    show some (f s, g s) = some (a, b)
    rw [e1, e2]
end
theorem obs_run {σ : Type} {r : Option σ} {G : σ → Addr → Option Obj} {n : Nat} {fa : List Fc} {fn : List He.DefD} {tb : List (Str × Option Str)} (h1 : r.map (fun s => fa.all fun f => f (frH (G s) (sysModules :: cStatics :: He.asD (G s) n))) = some true) (h2 : r.map (fun s => defsH n fn tb (G s)) = some (He.valD fn)) :
    r.map (fun s => obsH n fa fn tb (G s)) = some (He.valD fn) := by
  cases r with
  | none => cases h1
  | some s =>
    have e1 : (fa.all fun f => f (frH (G s) (sysModules :: cStatics :: He.asD (G s) n))) = true := Option.some.inj h1
    have e2 : defsH n fn tb (G s) = He.valD fn := Option.some.inj h2
    show some (obsH n fa fn tb (G s)) = some (He.valD fn)
    refine congrArg some ?_
    rw [← e2]
    show ((fa.all fun f => f (frH (G s) (sysModules :: cStatics :: He.asD (G s) n))) && _, _) = _
    rw [e1, Bool.true_and]
    rfl
theorem run_of {R : PySem.W.OpenRow} {q : Program} {n M : Nat} {fa : List Fc} {fn : List He.DefD} {tb : List (Str × Option Str)} {loose : List PySem.Str} {w : World}
    (h0 : ∀ os : OsState, (HandSHeadRun.endF (HandSHeadRun.stepQ (HandSHeadRun.denQ HandSHeadRun.tabQ) R.prog w) M R.prog w os).map (fun s => (HandSHeadRun.looksF R.prog (PySem.W.boot_heap w.params) s.abs, HandSHeadRun.seenQ q loose (importedModules R.prog.main.body) (fun s => PySem.W.xlAt q [] s && PySem.W.recOk R.toRowW.records s) s.abs)) = some (true, PySem.W.openGood q loose))
    (h1 : ∀ os : OsState, (HandSHeadRun.endF (HandSHeadRun.stepQ (HandSHeadRun.denQ HandSHeadRun.tabQ) R.prog w) M R.prog w os).map (fun s => obsH n fa fn tb (HandSHeadRun.getT s)) = some (He.valD fn)) :
    HandSHeadRun.RunEq R q (hookH n fa fn tb) (fun s => obsH n fa fn tb (HandSHeadRun.getT s)) M loose w := by
  intro os
  have a := h0 os
  have b := h1 os
  revert a b
  generalize HandSHeadRun.endF (HandSHeadRun.stepQ (HandSHeadRun.denQ HandSHeadRun.tabQ) R.prog w) M R.prog w os = r
  intro a b
  cases r with
  | none => cases a
  | some s =>
    have e1 := Option.some.inj a
    have e2 := Option.some.inj b
    show some (_, _, _) = some (_, _, _)
    have e3 := congrArg Prod.fst e1
    have e4 := congrArg Prod.snd e1
    exact congrArg some (Prod.ext e3 (Prod.ext e4 e2))
end KX

namespace KX
open PySem PySem.Spec PyProof.Rows L2

theorem sc_InvalidNamex_initx : FnScope ["self", "value"] ["self", "value"] (defScope s_InvalidNamex_initx) := ⟨rfl, rfl, rfl, by decide +kernel, rfl, by decide +kernel, by decide +kernel⟩
theorem sc_InvalidVersionx_initx : FnScope ["self", "value"] ["self", "value"] (defScope s_InvalidVersionx_initx) := ⟨rfl, rfl, rfl, by decide +kernel, rfl, by decide +kernel, by decide +kernel⟩
theorem sc_InvalidWindowx_initx : FnScope ["self", "value"] ["self", "value"] (defScope s_InvalidWindowx_initx) := ⟨rfl, rfl, rfl, by decide +kernel, rfl, by decide +kernel, by decide +kernel⟩
theorem sc_InvalidWindowsx_initx : FnScope ["self", "position"] ["self", "position"] (defScope s_InvalidWindowsx_initx) := ⟨rfl, rfl, rfl, by decide +kernel, rfl, by decide +kernel, by decide +kernel⟩
theorem sc_InvalidUsesx_initx : FnScope ["self", "module"] ["self", "module"] (defScope s_InvalidUsesx_initx) := ⟨rfl, rfl, rfl, by decide +kernel, rfl, by decide +kernel, by decide +kernel⟩
theorem sc_InvalidRowsx_initx : FnScope ["self", "position"] ["self", "position"] (defScope s_InvalidRowsx_initx) := ⟨rfl, rfl, rfl, by decide +kernel, rfl, by decide +kernel, by decide +kernel⟩
theorem sc_InvalidStatex_initx : FnScope ["self", "module"] ["self", "module"] (defScope s_InvalidStatex_initx) := ⟨rfl, rfl, rfl, by decide +kernel, rfl, by decide +kernel, by decide +kernel⟩
theorem sc_InvalidDemandx_initx : FnScope ["self", "value"] ["self", "value"] (defScope s_InvalidDemandx_initx) := ⟨rfl, rfl, rfl, by decide +kernel, rfl, by decide +kernel, by decide +kernel⟩
theorem sc_InvalidGoalsx_initx : FnScope ["self", "position"] ["self", "position"] (defScope s_InvalidGoalsx_initx) := ⟨rfl, rfl, rfl, by decide +kernel, rfl, by decide +kernel, by decide +kernel⟩
theorem sc_InvalidStepx_initx : FnScope ["self", "value"] ["self", "value"] (defScope s_InvalidStepx_initx) := ⟨rfl, rfl, rfl, by decide +kernel, rfl, by decide +kernel, by decide +kernel⟩
theorem sc_InvalidStepsx_initx : FnScope ["self", "position"] ["self", "position"] (defScope s_InvalidStepsx_initx) := ⟨rfl, rfl, rfl, by decide +kernel, rfl, by decide +kernel, by decide +kernel⟩
theorem sc_InvalidCountx_initx : FnScope ["self", "value"] ["self", "value"] (defScope s_InvalidCountx_initx) := ⟨rfl, rfl, rfl, by decide +kernel, rfl, by decide +kernel, by decide +kernel⟩
theorem sc_InvalidTextx_initx : FnScope ["self", "line"] ["self", "line"] (defScope s_InvalidTextx_initx) := ⟨rfl, rfl, rfl, by decide +kernel, rfl, by decide +kernel, by decide +kernel⟩
theorem sc_InvalidEntryx_initx : FnScope ["self", "value"] ["self", "value"] (defScope s_InvalidEntryx_initx) := ⟨rfl, rfl, rfl, by decide +kernel, rfl, by decide +kernel, by decide +kernel⟩
theorem sc_UnknownModulex_initx : FnScope ["self", "value"] ["self", "value"] (defScope s_UnknownModulex_initx) := ⟨rfl, rfl, rfl, by decide +kernel, rfl, by decide +kernel, by decide +kernel⟩
theorem sc_UnknownUsex_initx : FnScope ["self", "user", "used"] ["self", "user", "used"] (defScope s_UnknownUsex_initx) := ⟨rfl, rfl, rfl, by decide +kernel, rfl, by decide +kernel, by decide +kernel⟩
theorem sc_UnknownVersionx_initx : FnScope ["self", "module", "version"] ["self", "module", "version"] (defScope s_UnknownVersionx_initx) := ⟨rfl, rfl, rfl, by decide +kernel, rfl, by decide +kernel, by decide +kernel⟩
theorem sc_UnknownOperatorx_initx : FnScope ["self", "value"] ["self", "value"] (defScope s_UnknownOperatorx_initx) := ⟨rfl, rfl, rfl, by decide +kernel, rfl, by decide +kernel, by decide +kernel⟩
theorem sc_UnknownSessionx_initx : FnScope ["self", "value"] ["self", "value"] (defScope s_UnknownSessionx_initx) := ⟨rfl, rfl, rfl, by decide +kernel, rfl, by decide +kernel, by decide +kernel⟩
theorem sc_NotRisingx_initx : FnScope ["self", "user", "used"] ["self", "user", "used"] (defScope s_NotRisingx_initx) := ⟨rfl, rfl, rfl, by decide +kernel, rfl, by decide +kernel, by decide +kernel⟩
theorem sc_NotConsistentx_initx : FnScope ["self", "user", "used"] ["self", "user", "used"] (defScope s_NotConsistentx_initx) := ⟨rfl, rfl, rfl, by decide +kernel, rfl, by decide +kernel, by decide +kernel⟩
theorem sc_NotBelowx_initx : FnScope ["self", "module"] ["self", "module"] (defScope s_NotBelowx_initx) := ⟨rfl, rfl, rfl, by decide +kernel, rfl, by decide +kernel, by decide +kernel⟩
theorem sc_CannotMeetx_initx : FnScope ["self", "module", "version"] ["self", "module", "version"] (defScope s_CannotMeetx_initx) := ⟨rfl, rfl, rfl, by decide +kernel, rfl, by decide +kernel, by decide +kernel⟩
theorem sc_NoStepx_initx : FnScope ["self", "module", "version"] ["self", "module", "version"] (defScope s_NoStepx_initx) := ⟨rfl, rfl, rfl, by decide +kernel, rfl, by decide +kernel, by decide +kernel⟩
theorem sc_MissingNeedx_initx : FnScope ["self", "step"] ["self", "step"] (defScope s_MissingNeedx_initx) := ⟨rfl, rfl, rfl, by decide +kernel, rfl, by decide +kernel, by decide +kernel⟩
theorem sc_NotAvailablex_initx : FnScope ["self", "step"] ["self", "step"] (defScope s_NotAvailablex_initx) := ⟨rfl, rfl, rfl, by decide +kernel, rfl, by decide +kernel, by decide +kernel⟩
theorem sc_Pinnedx_initx : FnScope ["self", "module", "version"] ["self", "module", "version"] (defScope s_Pinnedx_initx) := ⟨rfl, rfl, rfl, by decide +kernel, rfl, by decide +kernel, by decide +kernel⟩
theorem sc_InUsex_initx : FnScope ["self", "module", "version"] ["self", "module", "version"] (defScope s_InUsex_initx) := ⟨rfl, rfl, rfl, by decide +kernel, rfl, by decide +kernel, by decide +kernel⟩
theorem sc_NameTakenx_initx : FnScope ["self", "value"] ["self", "value"] (defScope s_NameTakenx_initx) := ⟨rfl, rfl, rfl, by decide +kernel, rfl, by decide +kernel, by decide +kernel⟩
theorem sc_TooManyx_initx : FnScope ["self", "kind", "limit"] ["self", "kind", "limit"] (defScope s_TooManyx_initx) := ⟨rfl, rfl, rfl, by decide +kernel, rfl, by decide +kernel, by decide +kernel⟩
theorem sc_NoStatex_initx : FnScope ["self", "chain"] ["self", "chain"] (defScope s_NoStatex_initx) := ⟨rfl, rfl, rfl, by decide +kernel, rfl, by decide +kernel, by decide +kernel⟩
theorem sc_Unreachablex_initx : FnScope ["self", "chain"] ["self", "chain"] (defScope s_Unreachablex_initx) := ⟨rfl, rfl, rfl, by decide +kernel, rfl, by decide +kernel, by decide +kernel⟩
theorem sc_l_rng : FnScope ["_law_script", "_law_k", "_law_cell"] ["_law_script", "_law_k"] (defScope s_l_rng) := ⟨rfl, rfl, rfl, by decide +kernel, rfl, by decide +kernel, by decide +kernel⟩
theorem sc_l_draw : FnScope ["_law_rng_here", "_law_many", "_law_digit"] ["_law_rng_here", "_law_many"] (defScope s_l_draw) := ⟨rfl, rfl, rfl, by decide +kernel, rfl, by decide +kernel, by decide +kernel⟩
theorem sc_l_choice : FnScope ["_law_rng_here", "_law_options"] ["_law_rng_here", "_law_options"] (defScope s_l_choice) := ⟨rfl, rfl, rfl, by decide +kernel, rfl, by decide +kernel, by decide +kernel⟩
theorem sc_l_odd : FnScope ["_law_rng_here", "_law_some"] ["_law_rng_here"] (defScope s_l_odd) := ⟨rfl, rfl, rfl, by decide +kernel, rfl, by decide +kernel, by decide +kernel⟩
theorem sc_l_first_classes : FnScope ["_law_e", "_law_kinds"] ["_law_e"] (defScope s_l_first_classes) := ⟨rfl, rfl, rfl, by decide +kernel, rfl, by decide +kernel, by decide +kernel⟩
theorem sc_l_classes : FnScope ["_law_e", "_law_kinds", "_law_k", "_law_flag"] ["_law_e"] (defScope s_l_classes) := ⟨rfl, rfl, rfl, by decide +kernel, rfl, by decide +kernel, by decide +kernel⟩
theorem sc_l_bases : FnScope ["_law_e", "_law_kinds", "_law_k", "_law_flag"] ["_law_e"] (defScope s_l_bases) := ⟨rfl, rfl, rfl, by decide +kernel, rfl, by decide +kernel, by decide +kernel⟩
theorem sc_l_hierarchy_right : FnScope ["_law_a", "_law_b", "_law_made", "_law_more", "_law_last", "_law_limits", "_law_plain", "_law_e", "_law_k"] ["_law_a", "_law_b"] (defScope s_l_hierarchy_right) := ⟨rfl, rfl, rfl, by decide +kernel, rfl, by decide +kernel, by decide +kernel⟩
theorem sc_l_single : FnScope ["_law_a", "_law_found"] ["_law_a"] (defScope s_l_single) := ⟨rfl, rfl, rfl, by decide +kernel, rfl, by decide +kernel, by decide +kernel⟩
theorem sc_l_single_named : FnScope ["_law_a", "_law_found"] ["_law_a"] (defScope s_l_single_named) := ⟨rfl, rfl, rfl, by decide +kernel, rfl, by decide +kernel, by decide +kernel⟩
theorem sc_l_pairs : FnScope ["_law_made", "_law_use", "_law_rise", "_law_conflict", "_law_known", "_law_meet", "_law_no", "_law_pin", "_law_held", "_law_many", "_law_found"] ["_law_made"] (defScope s_l_pairs) := ⟨rfl, rfl, rfl, by decide +kernel, rfl, by decide +kernel, by decide +kernel⟩
theorem sc_l_double_right : FnScope ["_law_a", "_law_b", "_law_made", "_law_named", "_law_due"] ["_law_a", "_law_b"] (defScope s_l_double_right) := ⟨rfl, rfl, rfl, by decide +kernel, rfl, by decide +kernel, by decide +kernel⟩
theorem sc_law : FnScope ["_law_script", "_law_k", "_law_rng_here", "_law_a", "_law_b", "_law_due"] ["_law_script"] (defScope s_law) := ⟨rfl, rfl, rfl, by decide +kernel, rfl, by decide +kernel, by decide +kernel⟩
/-- where the defs stand -/
structure Ad where
  f_InvalidNamex_initx : Addr
  d_InvalidNamex_initx : FuncData
  f_InvalidVersionx_initx : Addr
  d_InvalidVersionx_initx : FuncData
  f_InvalidWindowx_initx : Addr
  d_InvalidWindowx_initx : FuncData
  f_InvalidWindowsx_initx : Addr
  d_InvalidWindowsx_initx : FuncData
  f_InvalidUsesx_initx : Addr
  d_InvalidUsesx_initx : FuncData
  f_InvalidRowsx_initx : Addr
  d_InvalidRowsx_initx : FuncData
  f_InvalidStatex_initx : Addr
  d_InvalidStatex_initx : FuncData
  f_InvalidDemandx_initx : Addr
  d_InvalidDemandx_initx : FuncData
  f_InvalidGoalsx_initx : Addr
  d_InvalidGoalsx_initx : FuncData
  f_InvalidStepx_initx : Addr
  d_InvalidStepx_initx : FuncData
  f_InvalidStepsx_initx : Addr
  d_InvalidStepsx_initx : FuncData
  f_InvalidCountx_initx : Addr
  d_InvalidCountx_initx : FuncData
  f_InvalidTextx_initx : Addr
  d_InvalidTextx_initx : FuncData
  f_InvalidEntryx_initx : Addr
  d_InvalidEntryx_initx : FuncData
  f_UnknownModulex_initx : Addr
  d_UnknownModulex_initx : FuncData
  f_UnknownUsex_initx : Addr
  d_UnknownUsex_initx : FuncData
  f_UnknownVersionx_initx : Addr
  d_UnknownVersionx_initx : FuncData
  f_UnknownOperatorx_initx : Addr
  d_UnknownOperatorx_initx : FuncData
  f_UnknownSessionx_initx : Addr
  d_UnknownSessionx_initx : FuncData
  f_NotRisingx_initx : Addr
  d_NotRisingx_initx : FuncData
  f_NotConsistentx_initx : Addr
  d_NotConsistentx_initx : FuncData
  f_NotBelowx_initx : Addr
  d_NotBelowx_initx : FuncData
  f_CannotMeetx_initx : Addr
  d_CannotMeetx_initx : FuncData
  f_NoStepx_initx : Addr
  d_NoStepx_initx : FuncData
  f_MissingNeedx_initx : Addr
  d_MissingNeedx_initx : FuncData
  f_NotAvailablex_initx : Addr
  d_NotAvailablex_initx : FuncData
  f_Pinnedx_initx : Addr
  d_Pinnedx_initx : FuncData
  f_InUsex_initx : Addr
  d_InUsex_initx : FuncData
  f_NameTakenx_initx : Addr
  d_NameTakenx_initx : FuncData
  f_TooManyx_initx : Addr
  d_TooManyx_initx : FuncData
  f_NoStatex_initx : Addr
  d_NoStatex_initx : FuncData
  f_Unreachablex_initx : Addr
  d_Unreachablex_initx : FuncData
  f_l_rng : Addr
  d_l_rng : FuncData
  f_l_draw : Addr
  d_l_draw : FuncData
  f_l_choice : Addr
  d_l_choice : FuncData
  f_l_odd : Addr
  d_l_odd : FuncData
  f_l_first_classes : Addr
  d_l_first_classes : FuncData
  f_l_classes : Addr
  d_l_classes : FuncData
  f_l_bases : Addr
  d_l_bases : FuncData
  f_l_hierarchy_right : Addr
  d_l_hierarchy_right : FuncData
  f_l_single : Addr
  d_l_single : FuncData
  f_l_single_named : Addr
  d_l_single_named : FuncData
  f_l_pairs : Addr
  d_l_pairs : FuncData
  f_l_double_right : Addr
  d_l_double_right : FuncData
  f_law : Addr
  d_law : FuncData
  c_GroupError : Addr
  c_InvalidName : Addr
  c_InvalidVersion : Addr
  c_InvalidWindow : Addr
  c_InvalidWindows : Addr
  c_InvalidUses : Addr
  c_InvalidRows : Addr
  c_InvalidState : Addr
  c_InvalidDemand : Addr
  c_InvalidGoals : Addr
  c_InvalidStep : Addr
  c_InvalidSteps : Addr
  c_InvalidChange : Addr
  c_InvalidCount : Addr
  c_InvalidText : Addr
  c_InvalidEntry : Addr
  c_InvalidCommand : Addr
  c_Missing : Addr
  c_UnknownModule : Addr
  c_UnknownUse : Addr
  c_UnknownVersion : Addr
  c_UnknownOperator : Addr
  c_UnknownSession : Addr
  c_Refused : Addr
  c_NotRising : Addr
  c_NotConsistent : Addr
  c_NotBelow : Addr
  c_CannotMeet : Addr
  c_NoStep : Addr
  c_MissingNeed : Addr
  c_NotAvailable : Addr
  c_Pinned : Addr
  c_InUse : Addr
  c_NameTaken : Addr
  c_NothingToUndo : Addr
  c_LimitReached : Addr
  c_TooMany : Addr
  c_NoState : Addr
  c_Unreachable : Addr
/-- what the top has left -/
structure Txt (K : PySem.W.Frag) (mg : Str → Option Value) (A : Ad) : Prop where
  F_InvalidNamex_initx : Fun K "__init__" "InvalidName.__init__" s_InvalidNamex_initx A.f_InvalidNamex_initx A.d_InvalidNamex_initx
  b_InvalidNamex_initx : Binds K A.d_InvalidNamex_initx ["self", "value"] []
  F_InvalidVersionx_initx : Fun K "__init__" "InvalidVersion.__init__" s_InvalidVersionx_initx A.f_InvalidVersionx_initx A.d_InvalidVersionx_initx
  b_InvalidVersionx_initx : Binds K A.d_InvalidVersionx_initx ["self", "value"] []
  F_InvalidWindowx_initx : Fun K "__init__" "InvalidWindow.__init__" s_InvalidWindowx_initx A.f_InvalidWindowx_initx A.d_InvalidWindowx_initx
  b_InvalidWindowx_initx : Binds K A.d_InvalidWindowx_initx ["self", "value"] []
  F_InvalidWindowsx_initx : Fun K "__init__" "InvalidWindows.__init__" s_InvalidWindowsx_initx A.f_InvalidWindowsx_initx A.d_InvalidWindowsx_initx
  b_InvalidWindowsx_initx : Binds K A.d_InvalidWindowsx_initx ["self", "position"] []
  F_InvalidUsesx_initx : Fun K "__init__" "InvalidUses.__init__" s_InvalidUsesx_initx A.f_InvalidUsesx_initx A.d_InvalidUsesx_initx
  b_InvalidUsesx_initx : Binds K A.d_InvalidUsesx_initx ["self", "module"] []
  F_InvalidRowsx_initx : Fun K "__init__" "InvalidRows.__init__" s_InvalidRowsx_initx A.f_InvalidRowsx_initx A.d_InvalidRowsx_initx
  b_InvalidRowsx_initx : Binds K A.d_InvalidRowsx_initx ["self", "position"] []
  F_InvalidStatex_initx : Fun K "__init__" "InvalidState.__init__" s_InvalidStatex_initx A.f_InvalidStatex_initx A.d_InvalidStatex_initx
  b_InvalidStatex_initx : Binds K A.d_InvalidStatex_initx ["self", "module"] []
  F_InvalidDemandx_initx : Fun K "__init__" "InvalidDemand.__init__" s_InvalidDemandx_initx A.f_InvalidDemandx_initx A.d_InvalidDemandx_initx
  b_InvalidDemandx_initx : Binds K A.d_InvalidDemandx_initx ["self", "value"] []
  F_InvalidGoalsx_initx : Fun K "__init__" "InvalidGoals.__init__" s_InvalidGoalsx_initx A.f_InvalidGoalsx_initx A.d_InvalidGoalsx_initx
  b_InvalidGoalsx_initx : Binds K A.d_InvalidGoalsx_initx ["self", "position"] []
  F_InvalidStepx_initx : Fun K "__init__" "InvalidStep.__init__" s_InvalidStepx_initx A.f_InvalidStepx_initx A.d_InvalidStepx_initx
  b_InvalidStepx_initx : Binds K A.d_InvalidStepx_initx ["self", "value"] []
  F_InvalidStepsx_initx : Fun K "__init__" "InvalidSteps.__init__" s_InvalidStepsx_initx A.f_InvalidStepsx_initx A.d_InvalidStepsx_initx
  b_InvalidStepsx_initx : Binds K A.d_InvalidStepsx_initx ["self", "position"] []
  F_InvalidCountx_initx : Fun K "__init__" "InvalidCount.__init__" s_InvalidCountx_initx A.f_InvalidCountx_initx A.d_InvalidCountx_initx
  b_InvalidCountx_initx : Binds K A.d_InvalidCountx_initx ["self", "value"] []
  F_InvalidTextx_initx : Fun K "__init__" "InvalidText.__init__" s_InvalidTextx_initx A.f_InvalidTextx_initx A.d_InvalidTextx_initx
  b_InvalidTextx_initx : Binds K A.d_InvalidTextx_initx ["self", "line"] []
  F_InvalidEntryx_initx : Fun K "__init__" "InvalidEntry.__init__" s_InvalidEntryx_initx A.f_InvalidEntryx_initx A.d_InvalidEntryx_initx
  b_InvalidEntryx_initx : Binds K A.d_InvalidEntryx_initx ["self", "value"] []
  F_UnknownModulex_initx : Fun K "__init__" "UnknownModule.__init__" s_UnknownModulex_initx A.f_UnknownModulex_initx A.d_UnknownModulex_initx
  b_UnknownModulex_initx : Binds K A.d_UnknownModulex_initx ["self", "value"] []
  F_UnknownUsex_initx : Fun K "__init__" "UnknownUse.__init__" s_UnknownUsex_initx A.f_UnknownUsex_initx A.d_UnknownUsex_initx
  b_UnknownUsex_initx : Binds K A.d_UnknownUsex_initx ["self", "user", "used"] []
  F_UnknownVersionx_initx : Fun K "__init__" "UnknownVersion.__init__" s_UnknownVersionx_initx A.f_UnknownVersionx_initx A.d_UnknownVersionx_initx
  b_UnknownVersionx_initx : Binds K A.d_UnknownVersionx_initx ["self", "module", "version"] []
  F_UnknownOperatorx_initx : Fun K "__init__" "UnknownOperator.__init__" s_UnknownOperatorx_initx A.f_UnknownOperatorx_initx A.d_UnknownOperatorx_initx
  b_UnknownOperatorx_initx : Binds K A.d_UnknownOperatorx_initx ["self", "value"] []
  F_UnknownSessionx_initx : Fun K "__init__" "UnknownSession.__init__" s_UnknownSessionx_initx A.f_UnknownSessionx_initx A.d_UnknownSessionx_initx
  b_UnknownSessionx_initx : Binds K A.d_UnknownSessionx_initx ["self", "value"] []
  F_NotRisingx_initx : Fun K "__init__" "NotRising.__init__" s_NotRisingx_initx A.f_NotRisingx_initx A.d_NotRisingx_initx
  b_NotRisingx_initx : Binds K A.d_NotRisingx_initx ["self", "user", "used"] []
  F_NotConsistentx_initx : Fun K "__init__" "NotConsistent.__init__" s_NotConsistentx_initx A.f_NotConsistentx_initx A.d_NotConsistentx_initx
  b_NotConsistentx_initx : Binds K A.d_NotConsistentx_initx ["self", "user", "used"] []
  F_NotBelowx_initx : Fun K "__init__" "NotBelow.__init__" s_NotBelowx_initx A.f_NotBelowx_initx A.d_NotBelowx_initx
  b_NotBelowx_initx : Binds K A.d_NotBelowx_initx ["self", "module"] []
  F_CannotMeetx_initx : Fun K "__init__" "CannotMeet.__init__" s_CannotMeetx_initx A.f_CannotMeetx_initx A.d_CannotMeetx_initx
  b_CannotMeetx_initx : Binds K A.d_CannotMeetx_initx ["self", "module", "version"] []
  F_NoStepx_initx : Fun K "__init__" "NoStep.__init__" s_NoStepx_initx A.f_NoStepx_initx A.d_NoStepx_initx
  b_NoStepx_initx : Binds K A.d_NoStepx_initx ["self", "module", "version"] []
  F_MissingNeedx_initx : Fun K "__init__" "MissingNeed.__init__" s_MissingNeedx_initx A.f_MissingNeedx_initx A.d_MissingNeedx_initx
  b_MissingNeedx_initx : Binds K A.d_MissingNeedx_initx ["self", "step"] []
  F_NotAvailablex_initx : Fun K "__init__" "NotAvailable.__init__" s_NotAvailablex_initx A.f_NotAvailablex_initx A.d_NotAvailablex_initx
  b_NotAvailablex_initx : Binds K A.d_NotAvailablex_initx ["self", "step"] []
  F_Pinnedx_initx : Fun K "__init__" "Pinned.__init__" s_Pinnedx_initx A.f_Pinnedx_initx A.d_Pinnedx_initx
  b_Pinnedx_initx : Binds K A.d_Pinnedx_initx ["self", "module", "version"] []
  F_InUsex_initx : Fun K "__init__" "InUse.__init__" s_InUsex_initx A.f_InUsex_initx A.d_InUsex_initx
  b_InUsex_initx : Binds K A.d_InUsex_initx ["self", "module", "version"] []
  F_NameTakenx_initx : Fun K "__init__" "NameTaken.__init__" s_NameTakenx_initx A.f_NameTakenx_initx A.d_NameTakenx_initx
  b_NameTakenx_initx : Binds K A.d_NameTakenx_initx ["self", "value"] []
  F_TooManyx_initx : Fun K "__init__" "TooMany.__init__" s_TooManyx_initx A.f_TooManyx_initx A.d_TooManyx_initx
  b_TooManyx_initx : Binds K A.d_TooManyx_initx ["self", "kind", "limit"] []
  F_NoStatex_initx : Fun K "__init__" "NoState.__init__" s_NoStatex_initx A.f_NoStatex_initx A.d_NoStatex_initx
  b_NoStatex_initx : Binds K A.d_NoStatex_initx ["self", "chain"] []
  F_Unreachablex_initx : Fun K "__init__" "Unreachable.__init__" s_Unreachablex_initx A.f_Unreachablex_initx A.d_Unreachablex_initx
  b_Unreachablex_initx : Binds K A.d_Unreachablex_initx ["self", "chain"] []
  F_l_rng : Fun K "_law_rng" "_law_rng" s_l_rng A.f_l_rng A.d_l_rng
  g_l_rng : mg "_law_rng" = some (.ref A.f_l_rng)
  b_l_rng : Binds K A.d_l_rng ["_law_script", "_law_k"] []
  F_l_draw : Fun K "_law_draw" "_law_draw" s_l_draw A.f_l_draw A.d_l_draw
  g_l_draw : mg "_law_draw" = some (.ref A.f_l_draw)
  b_l_draw : Binds K A.d_l_draw ["_law_rng_here", "_law_many"] []
  F_l_choice : Fun K "_law_choice" "_law_choice" s_l_choice A.f_l_choice A.d_l_choice
  g_l_choice : mg "_law_choice" = some (.ref A.f_l_choice)
  b_l_choice : Binds K A.d_l_choice ["_law_rng_here", "_law_options"] []
  F_l_odd : Fun K "_law_odd" "_law_odd" s_l_odd A.f_l_odd A.d_l_odd
  g_l_odd : mg "_law_odd" = some (.ref A.f_l_odd)
  b_l_odd : Binds K A.d_l_odd ["_law_rng_here"] []
  F_l_first_classes : Fun K "_law_first_classes" "_law_first_classes" s_l_first_classes A.f_l_first_classes A.d_l_first_classes
  g_l_first_classes : mg "_law_first_classes" = some (.ref A.f_l_first_classes)
  b_l_first_classes : Binds K A.d_l_first_classes ["_law_e"] []
  F_l_classes : Fun K "_law_classes" "_law_classes" s_l_classes A.f_l_classes A.d_l_classes
  g_l_classes : mg "_law_classes" = some (.ref A.f_l_classes)
  b_l_classes : Binds K A.d_l_classes ["_law_e"] []
  F_l_bases : Fun K "_law_bases" "_law_bases" s_l_bases A.f_l_bases A.d_l_bases
  g_l_bases : mg "_law_bases" = some (.ref A.f_l_bases)
  b_l_bases : Binds K A.d_l_bases ["_law_e"] []
  F_l_hierarchy_right : Fun K "_law_hierarchy_right" "_law_hierarchy_right" s_l_hierarchy_right A.f_l_hierarchy_right A.d_l_hierarchy_right
  g_l_hierarchy_right : mg "_law_hierarchy_right" = some (.ref A.f_l_hierarchy_right)
  b_l_hierarchy_right : Binds K A.d_l_hierarchy_right ["_law_a", "_law_b"] []
  F_l_single : Fun K "_law_single" "_law_single" s_l_single A.f_l_single A.d_l_single
  g_l_single : mg "_law_single" = some (.ref A.f_l_single)
  b_l_single : Binds K A.d_l_single ["_law_a"] []
  F_l_single_named : Fun K "_law_single_named" "_law_single_named" s_l_single_named A.f_l_single_named A.d_l_single_named
  g_l_single_named : mg "_law_single_named" = some (.ref A.f_l_single_named)
  b_l_single_named : Binds K A.d_l_single_named ["_law_a"] []
  F_l_pairs : Fun K "_law_pairs" "_law_pairs" s_l_pairs A.f_l_pairs A.d_l_pairs
  g_l_pairs : mg "_law_pairs" = some (.ref A.f_l_pairs)
  b_l_pairs : Binds K A.d_l_pairs ["_law_made"] []
  F_l_double_right : Fun K "_law_double_right" "_law_double_right" s_l_double_right A.f_l_double_right A.d_l_double_right
  g_l_double_right : mg "_law_double_right" = some (.ref A.f_l_double_right)
  b_l_double_right : Binds K A.d_l_double_right ["_law_a", "_law_b"] []
  F_law : Fun K "law" "law" s_law A.f_law A.d_law
  g_law : mg "law" = some (.ref A.f_law)
  b_law : Binds K A.d_law ["_law_script"] []
  kbi_CannotMeetx_initx_version_module : KBI K A.d_CannotMeetx_initx ["self", "module", "version"] ["version", "module"] [1, 0]
  kbi_InUsex_initx_version_module : KBI K A.d_InUsex_initx ["self", "module", "version"] ["version", "module"] [1, 0]
  kbi_InvalidCountx_initx_value : KBI K A.d_InvalidCountx_initx ["self", "value"] ["value"] [0]
  kbi_InvalidDemandx_initx_value : KBI K A.d_InvalidDemandx_initx ["self", "value"] ["value"] [0]
  kbi_InvalidEntryx_initx_value : KBI K A.d_InvalidEntryx_initx ["self", "value"] ["value"] [0]
  kbi_InvalidGoalsx_initx_position : KBI K A.d_InvalidGoalsx_initx ["self", "position"] ["position"] [0]
  kbi_InvalidNamex_initx_value : KBI K A.d_InvalidNamex_initx ["self", "value"] ["value"] [0]
  kbi_InvalidRowsx_initx_position : KBI K A.d_InvalidRowsx_initx ["self", "position"] ["position"] [0]
  kbi_InvalidStatex_initx_module : KBI K A.d_InvalidStatex_initx ["self", "module"] ["module"] [0]
  kbi_InvalidStepsx_initx_position : KBI K A.d_InvalidStepsx_initx ["self", "position"] ["position"] [0]
  kbi_InvalidStepx_initx_value : KBI K A.d_InvalidStepx_initx ["self", "value"] ["value"] [0]
  kbi_InvalidTextx_initx_line : KBI K A.d_InvalidTextx_initx ["self", "line"] ["line"] [0]
  kbi_InvalidUsesx_initx_module : KBI K A.d_InvalidUsesx_initx ["self", "module"] ["module"] [0]
  kbi_InvalidVersionx_initx_value : KBI K A.d_InvalidVersionx_initx ["self", "value"] ["value"] [0]
  kbi_InvalidWindowsx_initx_position : KBI K A.d_InvalidWindowsx_initx ["self", "position"] ["position"] [0]
  kbi_InvalidWindowx_initx_value : KBI K A.d_InvalidWindowx_initx ["self", "value"] ["value"] [0]
  kbi_MissingNeedx_initx_step : KBI K A.d_MissingNeedx_initx ["self", "step"] ["step"] [0]
  kbi_NameTakenx_initx_value : KBI K A.d_NameTakenx_initx ["self", "value"] ["value"] [0]
  kbi_NoStatex_initx_chain : KBI K A.d_NoStatex_initx ["self", "chain"] ["chain"] [0]
  kbi_NoStepx_initx_version_module : KBI K A.d_NoStepx_initx ["self", "module", "version"] ["version", "module"] [1, 0]
  kbi_NotAvailablex_initx_step : KBI K A.d_NotAvailablex_initx ["self", "step"] ["step"] [0]
  kbi_NotBelowx_initx_module : KBI K A.d_NotBelowx_initx ["self", "module"] ["module"] [0]
  kbi_NotConsistentx_initx_used_user : KBI K A.d_NotConsistentx_initx ["self", "user", "used"] ["used", "user"] [1, 0]
  kbi_NotRisingx_initx_used_user : KBI K A.d_NotRisingx_initx ["self", "user", "used"] ["used", "user"] [1, 0]
  kbi_Pinnedx_initx_version_module : KBI K A.d_Pinnedx_initx ["self", "module", "version"] ["version", "module"] [1, 0]
  kbi_TooManyx_initx_limit_kind : KBI K A.d_TooManyx_initx ["self", "kind", "limit"] ["limit", "kind"] [1, 0]
  kbi_UnknownModulex_initx_value : KBI K A.d_UnknownModulex_initx ["self", "value"] ["value"] [0]
  kbi_UnknownOperatorx_initx_value : KBI K A.d_UnknownOperatorx_initx ["self", "value"] ["value"] [0]
  kbi_UnknownSessionx_initx_value : KBI K A.d_UnknownSessionx_initx ["self", "value"] ["value"] [0]
  kbi_UnknownUsex_initx_used_user : KBI K A.d_UnknownUsex_initx ["self", "user", "used"] ["used", "user"] [1, 0]
  kbi_UnknownVersionx_initx_version_module : KBI K A.d_UnknownVersionx_initx ["self", "module", "version"] ["version", "module"] [1, 0]
  kbi_Unreachablex_initx_chain : KBI K A.d_Unreachablex_initx ["self", "chain"] ["chain"] [0]
  m_ArithmeticError : mg "ArithmeticError" = none
  m_IndexError : mg "IndexError" = none
  m_KeyError : mg "KeyError" = none
  m_LookupError : mg "LookupError" = none
  m_OverflowError : mg "OverflowError" = none
  m_RuntimeError : mg "RuntimeError" = none
  m_TypeError : mg "TypeError" = none
  m_ValueError : mg "ValueError" = none
  m_abs : mg "abs" = none
  m_divmod : mg "divmod" = none
  m_enumerate : mg "enumerate" = none
  m_isinstance : mg "isinstance" = none
  m_len : mg "len" = none
  m_max : mg "max" = none
  m_min : mg "min" = none
  m_range : mg "range" = none
  m_repr : mg "repr" = none
  gX_GroupError : mg "GroupError" = some (.ref A.c_GroupError)
  gX_InvalidName : mg "InvalidName" = some (.ref A.c_InvalidName)
  gX_InvalidVersion : mg "InvalidVersion" = some (.ref A.c_InvalidVersion)
  gX_InvalidWindow : mg "InvalidWindow" = some (.ref A.c_InvalidWindow)
  gX_InvalidWindows : mg "InvalidWindows" = some (.ref A.c_InvalidWindows)
  gX_InvalidUses : mg "InvalidUses" = some (.ref A.c_InvalidUses)
  gX_InvalidRows : mg "InvalidRows" = some (.ref A.c_InvalidRows)
  gX_InvalidState : mg "InvalidState" = some (.ref A.c_InvalidState)
  gX_InvalidDemand : mg "InvalidDemand" = some (.ref A.c_InvalidDemand)
  gX_InvalidGoals : mg "InvalidGoals" = some (.ref A.c_InvalidGoals)
  gX_InvalidStep : mg "InvalidStep" = some (.ref A.c_InvalidStep)
  gX_InvalidSteps : mg "InvalidSteps" = some (.ref A.c_InvalidSteps)
  gX_InvalidChange : mg "InvalidChange" = some (.ref A.c_InvalidChange)
  gX_InvalidCount : mg "InvalidCount" = some (.ref A.c_InvalidCount)
  gX_InvalidText : mg "InvalidText" = some (.ref A.c_InvalidText)
  gX_InvalidEntry : mg "InvalidEntry" = some (.ref A.c_InvalidEntry)
  gX_InvalidCommand : mg "InvalidCommand" = some (.ref A.c_InvalidCommand)
  gX_Missing : mg "Missing" = some (.ref A.c_Missing)
  gX_UnknownModule : mg "UnknownModule" = some (.ref A.c_UnknownModule)
  gX_UnknownUse : mg "UnknownUse" = some (.ref A.c_UnknownUse)
  gX_UnknownVersion : mg "UnknownVersion" = some (.ref A.c_UnknownVersion)
  gX_UnknownOperator : mg "UnknownOperator" = some (.ref A.c_UnknownOperator)
  gX_UnknownSession : mg "UnknownSession" = some (.ref A.c_UnknownSession)
  gX_Refused : mg "Refused" = some (.ref A.c_Refused)
  gX_NotRising : mg "NotRising" = some (.ref A.c_NotRising)
  gX_NotConsistent : mg "NotConsistent" = some (.ref A.c_NotConsistent)
  gX_NotBelow : mg "NotBelow" = some (.ref A.c_NotBelow)
  gX_CannotMeet : mg "CannotMeet" = some (.ref A.c_CannotMeet)
  gX_NoStep : mg "NoStep" = some (.ref A.c_NoStep)
  gX_MissingNeed : mg "MissingNeed" = some (.ref A.c_MissingNeed)
  gX_NotAvailable : mg "NotAvailable" = some (.ref A.c_NotAvailable)
  gX_Pinned : mg "Pinned" = some (.ref A.c_Pinned)
  gX_InUse : mg "InUse" = some (.ref A.c_InUse)
  gX_NameTaken : mg "NameTaken" = some (.ref A.c_NameTaken)
  gX_NothingToUndo : mg "NothingToUndo" = some (.ref A.c_NothingToUndo)
  gX_LimitReached : mg "LimitReached" = some (.ref A.c_LimitReached)
  gX_TooMany : mg "TooMany" = some (.ref A.c_TooMany)
  gX_NoState : mg "NoState" = some (.ref A.c_NoState)
  gX_Unreachable : mg "Unreachable" = some (.ref A.c_Unreachable)
  cg : ClassGet K
  EX_GroupError : ExT K "ValueError.__new__" "ValueError.__init__" (tailOf "ValueError") A.c_GroupError
  EX_InvalidName : ExT K "ValueError.__new__" "ValueError.__init__" (tailOf "ValueError") A.c_InvalidName
  EX_InvalidVersion : ExT K "ValueError.__new__" "ValueError.__init__" (tailOf "ValueError") A.c_InvalidVersion
  EX_InvalidWindow : ExT K "ValueError.__new__" "ValueError.__init__" (tailOf "ValueError") A.c_InvalidWindow
  EX_InvalidWindows : ExT K "ValueError.__new__" "ValueError.__init__" (tailOf "ValueError") A.c_InvalidWindows
  EX_InvalidUses : ExT K "ValueError.__new__" "ValueError.__init__" (tailOf "ValueError") A.c_InvalidUses
  EX_InvalidRows : ExT K "ValueError.__new__" "ValueError.__init__" (tailOf "ValueError") A.c_InvalidRows
  EX_InvalidState : ExT K "ValueError.__new__" "ValueError.__init__" (tailOf "ValueError") A.c_InvalidState
  EX_InvalidDemand : ExT K "ValueError.__new__" "ValueError.__init__" (tailOf "ValueError") A.c_InvalidDemand
  EX_InvalidGoals : ExT K "ValueError.__new__" "ValueError.__init__" (tailOf "ValueError") A.c_InvalidGoals
  EX_InvalidStep : ExT K "ValueError.__new__" "ValueError.__init__" (tailOf "ValueError") A.c_InvalidStep
  EX_InvalidSteps : ExT K "ValueError.__new__" "ValueError.__init__" (tailOf "ValueError") A.c_InvalidSteps
  EX_InvalidChange : ExT K "ValueError.__new__" "ValueError.__init__" (tailOf "ValueError") A.c_InvalidChange
  EX_InvalidCount : ExT K "ValueError.__new__" "ValueError.__init__" (tailOf "ValueError") A.c_InvalidCount
  EX_InvalidText : ExT K "ValueError.__new__" "ValueError.__init__" (tailOf "ValueError") A.c_InvalidText
  EX_InvalidEntry : ExT K "ValueError.__new__" "ValueError.__init__" (tailOf "ValueError") A.c_InvalidEntry
  EX_InvalidCommand : ExT K "ValueError.__new__" "ValueError.__init__" (tailOf "ValueError") A.c_InvalidCommand
  EX_Missing : ExT K "LookupError.__new__" "LookupError.__init__" (tailOf "LookupError") A.c_Missing
  EX_UnknownModule : ExT K "LookupError.__new__" "LookupError.__init__" (tailOf "LookupError") A.c_UnknownModule
  EX_UnknownUse : ExT K "LookupError.__new__" "LookupError.__init__" (tailOf "LookupError") A.c_UnknownUse
  EX_UnknownVersion : ExT K "LookupError.__new__" "LookupError.__init__" (tailOf "LookupError") A.c_UnknownVersion
  EX_UnknownOperator : ExT K "LookupError.__new__" "LookupError.__init__" (tailOf "LookupError") A.c_UnknownOperator
  EX_UnknownSession : ExT K "LookupError.__new__" "LookupError.__init__" (tailOf "LookupError") A.c_UnknownSession
  EX_Refused : ExT K "RuntimeError.__new__" "RuntimeError.__init__" (tailOf "RuntimeError") A.c_Refused
  EX_NotRising : ExT K "RuntimeError.__new__" "RuntimeError.__init__" (tailOf "RuntimeError") A.c_NotRising
  EX_NotConsistent : ExT K "RuntimeError.__new__" "RuntimeError.__init__" (tailOf "RuntimeError") A.c_NotConsistent
  EX_NotBelow : ExT K "RuntimeError.__new__" "RuntimeError.__init__" (tailOf "RuntimeError") A.c_NotBelow
  EX_CannotMeet : ExT K "RuntimeError.__new__" "RuntimeError.__init__" (tailOf "RuntimeError") A.c_CannotMeet
  EX_NoStep : ExT K "RuntimeError.__new__" "RuntimeError.__init__" (tailOf "RuntimeError") A.c_NoStep
  EX_MissingNeed : ExT K "RuntimeError.__new__" "RuntimeError.__init__" (tailOf "RuntimeError") A.c_MissingNeed
  EX_NotAvailable : ExT K "RuntimeError.__new__" "RuntimeError.__init__" (tailOf "RuntimeError") A.c_NotAvailable
  EX_Pinned : ExT K "RuntimeError.__new__" "RuntimeError.__init__" (tailOf "RuntimeError") A.c_Pinned
  EX_InUse : ExT K "RuntimeError.__new__" "RuntimeError.__init__" (tailOf "RuntimeError") A.c_InUse
  EX_NameTaken : ExT K "RuntimeError.__new__" "RuntimeError.__init__" (tailOf "RuntimeError") A.c_NameTaken
  EX_NothingToUndo : ExT K "RuntimeError.__new__" "RuntimeError.__init__" (tailOf "RuntimeError") A.c_NothingToUndo
  EX_LimitReached : ExT K "ArithmeticError.__new__" "ArithmeticError.__init__" (tailOf "ArithmeticError") A.c_LimitReached
  EX_TooMany : ExT K "ArithmeticError.__new__" "ArithmeticError.__init__" (tailOf "ArithmeticError") A.c_TooMany
  EX_NoState : ExT K "ArithmeticError.__new__" "ArithmeticError.__init__" (tailOf "ArithmeticError") A.c_NoState
  EX_Unreachable : ExT K "ArithmeticError.__new__" "ArithmeticError.__init__" (tailOf "ArithmeticError") A.c_Unreachable
  IB_GroupError : InitB K "ValueError.__init__" A.c_GroupError
  IB_LimitReached : InitB K "ArithmeticError.__init__" A.c_LimitReached
  IB_Missing : InitB K "LookupError.__init__" A.c_Missing
  IB_Refused : InitB K "RuntimeError.__init__" A.c_Refused
  xin_GroupError : PySem.W.excIn K A.c_GroupError (tailOf "ValueError") "ValueError.__new__" = true
  kr_GroupError : KR K (.ref A.c_GroupError) [.ref A.c_InvalidName, .ref A.c_InvalidVersion, .ref A.c_InvalidWindow, .ref A.c_InvalidWindows, .ref A.c_InvalidUses, .ref A.c_InvalidRows, .ref A.c_InvalidState, .ref A.c_InvalidDemand, .ref A.c_InvalidGoals, .ref A.c_InvalidStep, .ref A.c_InvalidSteps, .ref A.c_InvalidChange, .ref A.c_InvalidCount, .ref A.c_InvalidText, .ref A.c_InvalidEntry, .ref A.c_InvalidCommand, .ref A.c_UnknownModule, .ref A.c_UnknownUse, .ref A.c_UnknownVersion, .ref A.c_UnknownOperator, .ref A.c_UnknownSession, .ref A.c_NotRising, .ref A.c_NotConsistent, .ref A.c_NotBelow, .ref A.c_CannotMeet, .ref A.c_NoStep, .ref A.c_MissingNeed, .ref A.c_NotAvailable, .ref A.c_Pinned, .ref A.c_InUse, .ref A.c_NameTaken, .ref A.c_NothingToUndo, .ref A.c_TooMany, .ref A.c_NoState, .ref A.c_Unreachable, .ref A.c_GroupError, .ref A.c_Missing, .ref A.c_Refused, .ref A.c_LimitReached, .type "ValueError", .type "LookupError", .type "RuntimeError", .type "ArithmeticError", .type "KeyError", .type "IndexError", .type "OverflowError", .type "TypeError"] [false, false, false, false, false, false, false, false, false, false, false, false, false, false, false, false, false, false, false, false, false, false, false, false, false, false, false, false, false, false, false, false, false, false, false, true, false, false, false, true, false, false, false, false, false, false, false]
  iC_InvalidName : PySem.W.findIn K (.ref A.c_InvalidName) "__init__" = some (some (.ref A.f_InvalidNamex_initx))
  tI_InvalidName : PySem.W.typeIn K (.ref A.f_InvalidNamex_initx) = some (.type "function")
  tk_InvalidName_value : PySem.W.takerIn K A.c_InvalidName "value" = some none
  nf_InvalidName_value : PySem.W.findIn K (.ref A.c_InvalidName) "value" = some none
  kr_InvalidName : KR K (.ref A.c_InvalidName) [.ref A.c_InvalidName, .ref A.c_InvalidVersion, .ref A.c_InvalidWindow, .ref A.c_InvalidWindows, .ref A.c_InvalidUses, .ref A.c_InvalidRows, .ref A.c_InvalidState, .ref A.c_InvalidDemand, .ref A.c_InvalidGoals, .ref A.c_InvalidStep, .ref A.c_InvalidSteps, .ref A.c_InvalidChange, .ref A.c_InvalidCount, .ref A.c_InvalidText, .ref A.c_InvalidEntry, .ref A.c_InvalidCommand, .ref A.c_UnknownModule, .ref A.c_UnknownUse, .ref A.c_UnknownVersion, .ref A.c_UnknownOperator, .ref A.c_UnknownSession, .ref A.c_NotRising, .ref A.c_NotConsistent, .ref A.c_NotBelow, .ref A.c_CannotMeet, .ref A.c_NoStep, .ref A.c_MissingNeed, .ref A.c_NotAvailable, .ref A.c_Pinned, .ref A.c_InUse, .ref A.c_NameTaken, .ref A.c_NothingToUndo, .ref A.c_TooMany, .ref A.c_NoState, .ref A.c_Unreachable, .ref A.c_GroupError, .ref A.c_Missing, .ref A.c_Refused, .ref A.c_LimitReached, .type "ValueError", .type "LookupError", .type "RuntimeError", .type "ArithmeticError", .type "KeyError", .type "IndexError", .type "OverflowError", .type "TypeError"] [true, false, false, false, false, false, false, false, false, false, false, false, false, false, false, false, false, false, false, false, false, false, false, false, false, false, false, false, false, false, false, false, false, false, false, true, false, false, false, true, false, false, false, false, false, false, false]
  iC_InvalidVersion : PySem.W.findIn K (.ref A.c_InvalidVersion) "__init__" = some (some (.ref A.f_InvalidVersionx_initx))
  tI_InvalidVersion : PySem.W.typeIn K (.ref A.f_InvalidVersionx_initx) = some (.type "function")
  tk_InvalidVersion_value : PySem.W.takerIn K A.c_InvalidVersion "value" = some none
  nf_InvalidVersion_value : PySem.W.findIn K (.ref A.c_InvalidVersion) "value" = some none
  kr_InvalidVersion : KR K (.ref A.c_InvalidVersion) [.ref A.c_InvalidName, .ref A.c_InvalidVersion, .ref A.c_InvalidWindow, .ref A.c_InvalidWindows, .ref A.c_InvalidUses, .ref A.c_InvalidRows, .ref A.c_InvalidState, .ref A.c_InvalidDemand, .ref A.c_InvalidGoals, .ref A.c_InvalidStep, .ref A.c_InvalidSteps, .ref A.c_InvalidChange, .ref A.c_InvalidCount, .ref A.c_InvalidText, .ref A.c_InvalidEntry, .ref A.c_InvalidCommand, .ref A.c_UnknownModule, .ref A.c_UnknownUse, .ref A.c_UnknownVersion, .ref A.c_UnknownOperator, .ref A.c_UnknownSession, .ref A.c_NotRising, .ref A.c_NotConsistent, .ref A.c_NotBelow, .ref A.c_CannotMeet, .ref A.c_NoStep, .ref A.c_MissingNeed, .ref A.c_NotAvailable, .ref A.c_Pinned, .ref A.c_InUse, .ref A.c_NameTaken, .ref A.c_NothingToUndo, .ref A.c_TooMany, .ref A.c_NoState, .ref A.c_Unreachable, .ref A.c_GroupError, .ref A.c_Missing, .ref A.c_Refused, .ref A.c_LimitReached, .type "ValueError", .type "LookupError", .type "RuntimeError", .type "ArithmeticError", .type "KeyError", .type "IndexError", .type "OverflowError", .type "TypeError"] [false, true, false, false, false, false, false, false, false, false, false, false, false, false, false, false, false, false, false, false, false, false, false, false, false, false, false, false, false, false, false, false, false, false, false, true, false, false, false, true, false, false, false, false, false, false, false]
  iC_InvalidWindow : PySem.W.findIn K (.ref A.c_InvalidWindow) "__init__" = some (some (.ref A.f_InvalidWindowx_initx))
  tI_InvalidWindow : PySem.W.typeIn K (.ref A.f_InvalidWindowx_initx) = some (.type "function")
  tk_InvalidWindow_value : PySem.W.takerIn K A.c_InvalidWindow "value" = some none
  nf_InvalidWindow_value : PySem.W.findIn K (.ref A.c_InvalidWindow) "value" = some none
  kr_InvalidWindow : KR K (.ref A.c_InvalidWindow) [.ref A.c_InvalidName, .ref A.c_InvalidVersion, .ref A.c_InvalidWindow, .ref A.c_InvalidWindows, .ref A.c_InvalidUses, .ref A.c_InvalidRows, .ref A.c_InvalidState, .ref A.c_InvalidDemand, .ref A.c_InvalidGoals, .ref A.c_InvalidStep, .ref A.c_InvalidSteps, .ref A.c_InvalidChange, .ref A.c_InvalidCount, .ref A.c_InvalidText, .ref A.c_InvalidEntry, .ref A.c_InvalidCommand, .ref A.c_UnknownModule, .ref A.c_UnknownUse, .ref A.c_UnknownVersion, .ref A.c_UnknownOperator, .ref A.c_UnknownSession, .ref A.c_NotRising, .ref A.c_NotConsistent, .ref A.c_NotBelow, .ref A.c_CannotMeet, .ref A.c_NoStep, .ref A.c_MissingNeed, .ref A.c_NotAvailable, .ref A.c_Pinned, .ref A.c_InUse, .ref A.c_NameTaken, .ref A.c_NothingToUndo, .ref A.c_TooMany, .ref A.c_NoState, .ref A.c_Unreachable, .ref A.c_GroupError, .ref A.c_Missing, .ref A.c_Refused, .ref A.c_LimitReached, .type "ValueError", .type "LookupError", .type "RuntimeError", .type "ArithmeticError", .type "KeyError", .type "IndexError", .type "OverflowError", .type "TypeError"] [false, false, true, false, false, false, false, false, false, false, false, false, false, false, false, false, false, false, false, false, false, false, false, false, false, false, false, false, false, false, false, false, false, false, false, true, false, false, false, true, false, false, false, false, false, false, false]
  iC_InvalidWindows : PySem.W.findIn K (.ref A.c_InvalidWindows) "__init__" = some (some (.ref A.f_InvalidWindowsx_initx))
  tI_InvalidWindows : PySem.W.typeIn K (.ref A.f_InvalidWindowsx_initx) = some (.type "function")
  tk_InvalidWindows_position : PySem.W.takerIn K A.c_InvalidWindows "position" = some none
  nf_InvalidWindows_position : PySem.W.findIn K (.ref A.c_InvalidWindows) "position" = some none
  kr_InvalidWindows : KR K (.ref A.c_InvalidWindows) [.ref A.c_InvalidName, .ref A.c_InvalidVersion, .ref A.c_InvalidWindow, .ref A.c_InvalidWindows, .ref A.c_InvalidUses, .ref A.c_InvalidRows, .ref A.c_InvalidState, .ref A.c_InvalidDemand, .ref A.c_InvalidGoals, .ref A.c_InvalidStep, .ref A.c_InvalidSteps, .ref A.c_InvalidChange, .ref A.c_InvalidCount, .ref A.c_InvalidText, .ref A.c_InvalidEntry, .ref A.c_InvalidCommand, .ref A.c_UnknownModule, .ref A.c_UnknownUse, .ref A.c_UnknownVersion, .ref A.c_UnknownOperator, .ref A.c_UnknownSession, .ref A.c_NotRising, .ref A.c_NotConsistent, .ref A.c_NotBelow, .ref A.c_CannotMeet, .ref A.c_NoStep, .ref A.c_MissingNeed, .ref A.c_NotAvailable, .ref A.c_Pinned, .ref A.c_InUse, .ref A.c_NameTaken, .ref A.c_NothingToUndo, .ref A.c_TooMany, .ref A.c_NoState, .ref A.c_Unreachable, .ref A.c_GroupError, .ref A.c_Missing, .ref A.c_Refused, .ref A.c_LimitReached, .type "ValueError", .type "LookupError", .type "RuntimeError", .type "ArithmeticError", .type "KeyError", .type "IndexError", .type "OverflowError", .type "TypeError"] [false, false, false, true, false, false, false, false, false, false, false, false, false, false, false, false, false, false, false, false, false, false, false, false, false, false, false, false, false, false, false, false, false, false, false, true, false, false, false, true, false, false, false, false, false, false, false]
  iC_InvalidUses : PySem.W.findIn K (.ref A.c_InvalidUses) "__init__" = some (some (.ref A.f_InvalidUsesx_initx))
  tI_InvalidUses : PySem.W.typeIn K (.ref A.f_InvalidUsesx_initx) = some (.type "function")
  tk_InvalidUses_module : PySem.W.takerIn K A.c_InvalidUses "module" = some none
  nf_InvalidUses_module : PySem.W.findIn K (.ref A.c_InvalidUses) "module" = some none
  kr_InvalidUses : KR K (.ref A.c_InvalidUses) [.ref A.c_InvalidName, .ref A.c_InvalidVersion, .ref A.c_InvalidWindow, .ref A.c_InvalidWindows, .ref A.c_InvalidUses, .ref A.c_InvalidRows, .ref A.c_InvalidState, .ref A.c_InvalidDemand, .ref A.c_InvalidGoals, .ref A.c_InvalidStep, .ref A.c_InvalidSteps, .ref A.c_InvalidChange, .ref A.c_InvalidCount, .ref A.c_InvalidText, .ref A.c_InvalidEntry, .ref A.c_InvalidCommand, .ref A.c_UnknownModule, .ref A.c_UnknownUse, .ref A.c_UnknownVersion, .ref A.c_UnknownOperator, .ref A.c_UnknownSession, .ref A.c_NotRising, .ref A.c_NotConsistent, .ref A.c_NotBelow, .ref A.c_CannotMeet, .ref A.c_NoStep, .ref A.c_MissingNeed, .ref A.c_NotAvailable, .ref A.c_Pinned, .ref A.c_InUse, .ref A.c_NameTaken, .ref A.c_NothingToUndo, .ref A.c_TooMany, .ref A.c_NoState, .ref A.c_Unreachable, .ref A.c_GroupError, .ref A.c_Missing, .ref A.c_Refused, .ref A.c_LimitReached, .type "ValueError", .type "LookupError", .type "RuntimeError", .type "ArithmeticError", .type "KeyError", .type "IndexError", .type "OverflowError", .type "TypeError"] [false, false, false, false, true, false, false, false, false, false, false, false, false, false, false, false, false, false, false, false, false, false, false, false, false, false, false, false, false, false, false, false, false, false, false, true, false, false, false, true, false, false, false, false, false, false, false]
  iC_InvalidRows : PySem.W.findIn K (.ref A.c_InvalidRows) "__init__" = some (some (.ref A.f_InvalidRowsx_initx))
  tI_InvalidRows : PySem.W.typeIn K (.ref A.f_InvalidRowsx_initx) = some (.type "function")
  tk_InvalidRows_position : PySem.W.takerIn K A.c_InvalidRows "position" = some none
  nf_InvalidRows_position : PySem.W.findIn K (.ref A.c_InvalidRows) "position" = some none
  kr_InvalidRows : KR K (.ref A.c_InvalidRows) [.ref A.c_InvalidName, .ref A.c_InvalidVersion, .ref A.c_InvalidWindow, .ref A.c_InvalidWindows, .ref A.c_InvalidUses, .ref A.c_InvalidRows, .ref A.c_InvalidState, .ref A.c_InvalidDemand, .ref A.c_InvalidGoals, .ref A.c_InvalidStep, .ref A.c_InvalidSteps, .ref A.c_InvalidChange, .ref A.c_InvalidCount, .ref A.c_InvalidText, .ref A.c_InvalidEntry, .ref A.c_InvalidCommand, .ref A.c_UnknownModule, .ref A.c_UnknownUse, .ref A.c_UnknownVersion, .ref A.c_UnknownOperator, .ref A.c_UnknownSession, .ref A.c_NotRising, .ref A.c_NotConsistent, .ref A.c_NotBelow, .ref A.c_CannotMeet, .ref A.c_NoStep, .ref A.c_MissingNeed, .ref A.c_NotAvailable, .ref A.c_Pinned, .ref A.c_InUse, .ref A.c_NameTaken, .ref A.c_NothingToUndo, .ref A.c_TooMany, .ref A.c_NoState, .ref A.c_Unreachable, .ref A.c_GroupError, .ref A.c_Missing, .ref A.c_Refused, .ref A.c_LimitReached, .type "ValueError", .type "LookupError", .type "RuntimeError", .type "ArithmeticError", .type "KeyError", .type "IndexError", .type "OverflowError", .type "TypeError"] [false, false, false, false, false, true, false, false, false, false, false, false, false, false, false, false, false, false, false, false, false, false, false, false, false, false, false, false, false, false, false, false, false, false, false, true, false, false, false, true, false, false, false, false, false, false, false]
  iC_InvalidState : PySem.W.findIn K (.ref A.c_InvalidState) "__init__" = some (some (.ref A.f_InvalidStatex_initx))
  tI_InvalidState : PySem.W.typeIn K (.ref A.f_InvalidStatex_initx) = some (.type "function")
  tk_InvalidState_module : PySem.W.takerIn K A.c_InvalidState "module" = some none
  nf_InvalidState_module : PySem.W.findIn K (.ref A.c_InvalidState) "module" = some none
  kr_InvalidState : KR K (.ref A.c_InvalidState) [.ref A.c_InvalidName, .ref A.c_InvalidVersion, .ref A.c_InvalidWindow, .ref A.c_InvalidWindows, .ref A.c_InvalidUses, .ref A.c_InvalidRows, .ref A.c_InvalidState, .ref A.c_InvalidDemand, .ref A.c_InvalidGoals, .ref A.c_InvalidStep, .ref A.c_InvalidSteps, .ref A.c_InvalidChange, .ref A.c_InvalidCount, .ref A.c_InvalidText, .ref A.c_InvalidEntry, .ref A.c_InvalidCommand, .ref A.c_UnknownModule, .ref A.c_UnknownUse, .ref A.c_UnknownVersion, .ref A.c_UnknownOperator, .ref A.c_UnknownSession, .ref A.c_NotRising, .ref A.c_NotConsistent, .ref A.c_NotBelow, .ref A.c_CannotMeet, .ref A.c_NoStep, .ref A.c_MissingNeed, .ref A.c_NotAvailable, .ref A.c_Pinned, .ref A.c_InUse, .ref A.c_NameTaken, .ref A.c_NothingToUndo, .ref A.c_TooMany, .ref A.c_NoState, .ref A.c_Unreachable, .ref A.c_GroupError, .ref A.c_Missing, .ref A.c_Refused, .ref A.c_LimitReached, .type "ValueError", .type "LookupError", .type "RuntimeError", .type "ArithmeticError", .type "KeyError", .type "IndexError", .type "OverflowError", .type "TypeError"] [false, false, false, false, false, false, true, false, false, false, false, false, false, false, false, false, false, false, false, false, false, false, false, false, false, false, false, false, false, false, false, false, false, false, false, true, false, false, false, true, false, false, false, false, false, false, false]
  iC_InvalidDemand : PySem.W.findIn K (.ref A.c_InvalidDemand) "__init__" = some (some (.ref A.f_InvalidDemandx_initx))
  tI_InvalidDemand : PySem.W.typeIn K (.ref A.f_InvalidDemandx_initx) = some (.type "function")
  tk_InvalidDemand_value : PySem.W.takerIn K A.c_InvalidDemand "value" = some none
  nf_InvalidDemand_value : PySem.W.findIn K (.ref A.c_InvalidDemand) "value" = some none
  kr_InvalidDemand : KR K (.ref A.c_InvalidDemand) [.ref A.c_InvalidName, .ref A.c_InvalidVersion, .ref A.c_InvalidWindow, .ref A.c_InvalidWindows, .ref A.c_InvalidUses, .ref A.c_InvalidRows, .ref A.c_InvalidState, .ref A.c_InvalidDemand, .ref A.c_InvalidGoals, .ref A.c_InvalidStep, .ref A.c_InvalidSteps, .ref A.c_InvalidChange, .ref A.c_InvalidCount, .ref A.c_InvalidText, .ref A.c_InvalidEntry, .ref A.c_InvalidCommand, .ref A.c_UnknownModule, .ref A.c_UnknownUse, .ref A.c_UnknownVersion, .ref A.c_UnknownOperator, .ref A.c_UnknownSession, .ref A.c_NotRising, .ref A.c_NotConsistent, .ref A.c_NotBelow, .ref A.c_CannotMeet, .ref A.c_NoStep, .ref A.c_MissingNeed, .ref A.c_NotAvailable, .ref A.c_Pinned, .ref A.c_InUse, .ref A.c_NameTaken, .ref A.c_NothingToUndo, .ref A.c_TooMany, .ref A.c_NoState, .ref A.c_Unreachable, .ref A.c_GroupError, .ref A.c_Missing, .ref A.c_Refused, .ref A.c_LimitReached, .type "ValueError", .type "LookupError", .type "RuntimeError", .type "ArithmeticError", .type "KeyError", .type "IndexError", .type "OverflowError", .type "TypeError"] [false, false, false, false, false, false, false, true, false, false, false, false, false, false, false, false, false, false, false, false, false, false, false, false, false, false, false, false, false, false, false, false, false, false, false, true, false, false, false, true, false, false, false, false, false, false, false]
  iC_InvalidGoals : PySem.W.findIn K (.ref A.c_InvalidGoals) "__init__" = some (some (.ref A.f_InvalidGoalsx_initx))
  tI_InvalidGoals : PySem.W.typeIn K (.ref A.f_InvalidGoalsx_initx) = some (.type "function")
  tk_InvalidGoals_position : PySem.W.takerIn K A.c_InvalidGoals "position" = some none
  nf_InvalidGoals_position : PySem.W.findIn K (.ref A.c_InvalidGoals) "position" = some none
  kr_InvalidGoals : KR K (.ref A.c_InvalidGoals) [.ref A.c_InvalidName, .ref A.c_InvalidVersion, .ref A.c_InvalidWindow, .ref A.c_InvalidWindows, .ref A.c_InvalidUses, .ref A.c_InvalidRows, .ref A.c_InvalidState, .ref A.c_InvalidDemand, .ref A.c_InvalidGoals, .ref A.c_InvalidStep, .ref A.c_InvalidSteps, .ref A.c_InvalidChange, .ref A.c_InvalidCount, .ref A.c_InvalidText, .ref A.c_InvalidEntry, .ref A.c_InvalidCommand, .ref A.c_UnknownModule, .ref A.c_UnknownUse, .ref A.c_UnknownVersion, .ref A.c_UnknownOperator, .ref A.c_UnknownSession, .ref A.c_NotRising, .ref A.c_NotConsistent, .ref A.c_NotBelow, .ref A.c_CannotMeet, .ref A.c_NoStep, .ref A.c_MissingNeed, .ref A.c_NotAvailable, .ref A.c_Pinned, .ref A.c_InUse, .ref A.c_NameTaken, .ref A.c_NothingToUndo, .ref A.c_TooMany, .ref A.c_NoState, .ref A.c_Unreachable, .ref A.c_GroupError, .ref A.c_Missing, .ref A.c_Refused, .ref A.c_LimitReached, .type "ValueError", .type "LookupError", .type "RuntimeError", .type "ArithmeticError", .type "KeyError", .type "IndexError", .type "OverflowError", .type "TypeError"] [false, false, false, false, false, false, false, false, true, false, false, false, false, false, false, false, false, false, false, false, false, false, false, false, false, false, false, false, false, false, false, false, false, false, false, true, false, false, false, true, false, false, false, false, false, false, false]
  iC_InvalidStep : PySem.W.findIn K (.ref A.c_InvalidStep) "__init__" = some (some (.ref A.f_InvalidStepx_initx))
  tI_InvalidStep : PySem.W.typeIn K (.ref A.f_InvalidStepx_initx) = some (.type "function")
  tk_InvalidStep_value : PySem.W.takerIn K A.c_InvalidStep "value" = some none
  nf_InvalidStep_value : PySem.W.findIn K (.ref A.c_InvalidStep) "value" = some none
  kr_InvalidStep : KR K (.ref A.c_InvalidStep) [.ref A.c_InvalidName, .ref A.c_InvalidVersion, .ref A.c_InvalidWindow, .ref A.c_InvalidWindows, .ref A.c_InvalidUses, .ref A.c_InvalidRows, .ref A.c_InvalidState, .ref A.c_InvalidDemand, .ref A.c_InvalidGoals, .ref A.c_InvalidStep, .ref A.c_InvalidSteps, .ref A.c_InvalidChange, .ref A.c_InvalidCount, .ref A.c_InvalidText, .ref A.c_InvalidEntry, .ref A.c_InvalidCommand, .ref A.c_UnknownModule, .ref A.c_UnknownUse, .ref A.c_UnknownVersion, .ref A.c_UnknownOperator, .ref A.c_UnknownSession, .ref A.c_NotRising, .ref A.c_NotConsistent, .ref A.c_NotBelow, .ref A.c_CannotMeet, .ref A.c_NoStep, .ref A.c_MissingNeed, .ref A.c_NotAvailable, .ref A.c_Pinned, .ref A.c_InUse, .ref A.c_NameTaken, .ref A.c_NothingToUndo, .ref A.c_TooMany, .ref A.c_NoState, .ref A.c_Unreachable, .ref A.c_GroupError, .ref A.c_Missing, .ref A.c_Refused, .ref A.c_LimitReached, .type "ValueError", .type "LookupError", .type "RuntimeError", .type "ArithmeticError", .type "KeyError", .type "IndexError", .type "OverflowError", .type "TypeError"] [false, false, false, false, false, false, false, false, false, true, false, false, false, false, false, false, false, false, false, false, false, false, false, false, false, false, false, false, false, false, false, false, false, false, false, true, false, false, false, true, false, false, false, false, false, false, false]
  iC_InvalidSteps : PySem.W.findIn K (.ref A.c_InvalidSteps) "__init__" = some (some (.ref A.f_InvalidStepsx_initx))
  tI_InvalidSteps : PySem.W.typeIn K (.ref A.f_InvalidStepsx_initx) = some (.type "function")
  tk_InvalidSteps_position : PySem.W.takerIn K A.c_InvalidSteps "position" = some none
  nf_InvalidSteps_position : PySem.W.findIn K (.ref A.c_InvalidSteps) "position" = some none
  kr_InvalidSteps : KR K (.ref A.c_InvalidSteps) [.ref A.c_InvalidName, .ref A.c_InvalidVersion, .ref A.c_InvalidWindow, .ref A.c_InvalidWindows, .ref A.c_InvalidUses, .ref A.c_InvalidRows, .ref A.c_InvalidState, .ref A.c_InvalidDemand, .ref A.c_InvalidGoals, .ref A.c_InvalidStep, .ref A.c_InvalidSteps, .ref A.c_InvalidChange, .ref A.c_InvalidCount, .ref A.c_InvalidText, .ref A.c_InvalidEntry, .ref A.c_InvalidCommand, .ref A.c_UnknownModule, .ref A.c_UnknownUse, .ref A.c_UnknownVersion, .ref A.c_UnknownOperator, .ref A.c_UnknownSession, .ref A.c_NotRising, .ref A.c_NotConsistent, .ref A.c_NotBelow, .ref A.c_CannotMeet, .ref A.c_NoStep, .ref A.c_MissingNeed, .ref A.c_NotAvailable, .ref A.c_Pinned, .ref A.c_InUse, .ref A.c_NameTaken, .ref A.c_NothingToUndo, .ref A.c_TooMany, .ref A.c_NoState, .ref A.c_Unreachable, .ref A.c_GroupError, .ref A.c_Missing, .ref A.c_Refused, .ref A.c_LimitReached, .type "ValueError", .type "LookupError", .type "RuntimeError", .type "ArithmeticError", .type "KeyError", .type "IndexError", .type "OverflowError", .type "TypeError"] [false, false, false, false, false, false, false, false, false, false, true, false, false, false, false, false, false, false, false, false, false, false, false, false, false, false, false, false, false, false, false, false, false, false, false, true, false, false, false, true, false, false, false, false, false, false, false]
  xin_InvalidChange : PySem.W.excIn K A.c_InvalidChange (tailOf "ValueError") "ValueError.__new__" = true
  kr_InvalidChange : KR K (.ref A.c_InvalidChange) [.ref A.c_InvalidName, .ref A.c_InvalidVersion, .ref A.c_InvalidWindow, .ref A.c_InvalidWindows, .ref A.c_InvalidUses, .ref A.c_InvalidRows, .ref A.c_InvalidState, .ref A.c_InvalidDemand, .ref A.c_InvalidGoals, .ref A.c_InvalidStep, .ref A.c_InvalidSteps, .ref A.c_InvalidChange, .ref A.c_InvalidCount, .ref A.c_InvalidText, .ref A.c_InvalidEntry, .ref A.c_InvalidCommand, .ref A.c_UnknownModule, .ref A.c_UnknownUse, .ref A.c_UnknownVersion, .ref A.c_UnknownOperator, .ref A.c_UnknownSession, .ref A.c_NotRising, .ref A.c_NotConsistent, .ref A.c_NotBelow, .ref A.c_CannotMeet, .ref A.c_NoStep, .ref A.c_MissingNeed, .ref A.c_NotAvailable, .ref A.c_Pinned, .ref A.c_InUse, .ref A.c_NameTaken, .ref A.c_NothingToUndo, .ref A.c_TooMany, .ref A.c_NoState, .ref A.c_Unreachable, .ref A.c_GroupError, .ref A.c_Missing, .ref A.c_Refused, .ref A.c_LimitReached, .type "ValueError", .type "LookupError", .type "RuntimeError", .type "ArithmeticError", .type "KeyError", .type "IndexError", .type "OverflowError", .type "TypeError"] [false, false, false, false, false, false, false, false, false, false, false, true, false, false, false, false, false, false, false, false, false, false, false, false, false, false, false, false, false, false, false, false, false, false, false, true, false, false, false, true, false, false, false, false, false, false, false]
  iC_InvalidCount : PySem.W.findIn K (.ref A.c_InvalidCount) "__init__" = some (some (.ref A.f_InvalidCountx_initx))
  tI_InvalidCount : PySem.W.typeIn K (.ref A.f_InvalidCountx_initx) = some (.type "function")
  tk_InvalidCount_value : PySem.W.takerIn K A.c_InvalidCount "value" = some none
  nf_InvalidCount_value : PySem.W.findIn K (.ref A.c_InvalidCount) "value" = some none
  kr_InvalidCount : KR K (.ref A.c_InvalidCount) [.ref A.c_InvalidName, .ref A.c_InvalidVersion, .ref A.c_InvalidWindow, .ref A.c_InvalidWindows, .ref A.c_InvalidUses, .ref A.c_InvalidRows, .ref A.c_InvalidState, .ref A.c_InvalidDemand, .ref A.c_InvalidGoals, .ref A.c_InvalidStep, .ref A.c_InvalidSteps, .ref A.c_InvalidChange, .ref A.c_InvalidCount, .ref A.c_InvalidText, .ref A.c_InvalidEntry, .ref A.c_InvalidCommand, .ref A.c_UnknownModule, .ref A.c_UnknownUse, .ref A.c_UnknownVersion, .ref A.c_UnknownOperator, .ref A.c_UnknownSession, .ref A.c_NotRising, .ref A.c_NotConsistent, .ref A.c_NotBelow, .ref A.c_CannotMeet, .ref A.c_NoStep, .ref A.c_MissingNeed, .ref A.c_NotAvailable, .ref A.c_Pinned, .ref A.c_InUse, .ref A.c_NameTaken, .ref A.c_NothingToUndo, .ref A.c_TooMany, .ref A.c_NoState, .ref A.c_Unreachable, .ref A.c_GroupError, .ref A.c_Missing, .ref A.c_Refused, .ref A.c_LimitReached, .type "ValueError", .type "LookupError", .type "RuntimeError", .type "ArithmeticError", .type "KeyError", .type "IndexError", .type "OverflowError", .type "TypeError"] [false, false, false, false, false, false, false, false, false, false, false, false, true, false, false, false, false, false, false, false, false, false, false, false, false, false, false, false, false, false, false, false, false, false, false, true, false, false, false, true, false, false, false, false, false, false, false]
  iC_InvalidText : PySem.W.findIn K (.ref A.c_InvalidText) "__init__" = some (some (.ref A.f_InvalidTextx_initx))
  tI_InvalidText : PySem.W.typeIn K (.ref A.f_InvalidTextx_initx) = some (.type "function")
  tk_InvalidText_line : PySem.W.takerIn K A.c_InvalidText "line" = some none
  nf_InvalidText_line : PySem.W.findIn K (.ref A.c_InvalidText) "line" = some none
  kr_InvalidText : KR K (.ref A.c_InvalidText) [.ref A.c_InvalidName, .ref A.c_InvalidVersion, .ref A.c_InvalidWindow, .ref A.c_InvalidWindows, .ref A.c_InvalidUses, .ref A.c_InvalidRows, .ref A.c_InvalidState, .ref A.c_InvalidDemand, .ref A.c_InvalidGoals, .ref A.c_InvalidStep, .ref A.c_InvalidSteps, .ref A.c_InvalidChange, .ref A.c_InvalidCount, .ref A.c_InvalidText, .ref A.c_InvalidEntry, .ref A.c_InvalidCommand, .ref A.c_UnknownModule, .ref A.c_UnknownUse, .ref A.c_UnknownVersion, .ref A.c_UnknownOperator, .ref A.c_UnknownSession, .ref A.c_NotRising, .ref A.c_NotConsistent, .ref A.c_NotBelow, .ref A.c_CannotMeet, .ref A.c_NoStep, .ref A.c_MissingNeed, .ref A.c_NotAvailable, .ref A.c_Pinned, .ref A.c_InUse, .ref A.c_NameTaken, .ref A.c_NothingToUndo, .ref A.c_TooMany, .ref A.c_NoState, .ref A.c_Unreachable, .ref A.c_GroupError, .ref A.c_Missing, .ref A.c_Refused, .ref A.c_LimitReached, .type "ValueError", .type "LookupError", .type "RuntimeError", .type "ArithmeticError", .type "KeyError", .type "IndexError", .type "OverflowError", .type "TypeError"] [false, false, false, false, false, false, false, false, false, false, false, false, false, true, false, false, false, false, false, false, false, false, false, false, false, false, false, false, false, false, false, false, false, false, false, true, false, false, false, true, false, false, false, false, false, false, false]
  iC_InvalidEntry : PySem.W.findIn K (.ref A.c_InvalidEntry) "__init__" = some (some (.ref A.f_InvalidEntryx_initx))
  tI_InvalidEntry : PySem.W.typeIn K (.ref A.f_InvalidEntryx_initx) = some (.type "function")
  tk_InvalidEntry_value : PySem.W.takerIn K A.c_InvalidEntry "value" = some none
  nf_InvalidEntry_value : PySem.W.findIn K (.ref A.c_InvalidEntry) "value" = some none
  kr_InvalidEntry : KR K (.ref A.c_InvalidEntry) [.ref A.c_InvalidName, .ref A.c_InvalidVersion, .ref A.c_InvalidWindow, .ref A.c_InvalidWindows, .ref A.c_InvalidUses, .ref A.c_InvalidRows, .ref A.c_InvalidState, .ref A.c_InvalidDemand, .ref A.c_InvalidGoals, .ref A.c_InvalidStep, .ref A.c_InvalidSteps, .ref A.c_InvalidChange, .ref A.c_InvalidCount, .ref A.c_InvalidText, .ref A.c_InvalidEntry, .ref A.c_InvalidCommand, .ref A.c_UnknownModule, .ref A.c_UnknownUse, .ref A.c_UnknownVersion, .ref A.c_UnknownOperator, .ref A.c_UnknownSession, .ref A.c_NotRising, .ref A.c_NotConsistent, .ref A.c_NotBelow, .ref A.c_CannotMeet, .ref A.c_NoStep, .ref A.c_MissingNeed, .ref A.c_NotAvailable, .ref A.c_Pinned, .ref A.c_InUse, .ref A.c_NameTaken, .ref A.c_NothingToUndo, .ref A.c_TooMany, .ref A.c_NoState, .ref A.c_Unreachable, .ref A.c_GroupError, .ref A.c_Missing, .ref A.c_Refused, .ref A.c_LimitReached, .type "ValueError", .type "LookupError", .type "RuntimeError", .type "ArithmeticError", .type "KeyError", .type "IndexError", .type "OverflowError", .type "TypeError"] [false, false, false, false, false, false, false, false, false, false, false, false, false, false, true, false, false, false, false, false, false, false, false, false, false, false, false, false, false, false, false, false, false, false, false, true, false, false, false, true, false, false, false, false, false, false, false]
  xin_InvalidCommand : PySem.W.excIn K A.c_InvalidCommand (tailOf "ValueError") "ValueError.__new__" = true
  kr_InvalidCommand : KR K (.ref A.c_InvalidCommand) [.ref A.c_InvalidName, .ref A.c_InvalidVersion, .ref A.c_InvalidWindow, .ref A.c_InvalidWindows, .ref A.c_InvalidUses, .ref A.c_InvalidRows, .ref A.c_InvalidState, .ref A.c_InvalidDemand, .ref A.c_InvalidGoals, .ref A.c_InvalidStep, .ref A.c_InvalidSteps, .ref A.c_InvalidChange, .ref A.c_InvalidCount, .ref A.c_InvalidText, .ref A.c_InvalidEntry, .ref A.c_InvalidCommand, .ref A.c_UnknownModule, .ref A.c_UnknownUse, .ref A.c_UnknownVersion, .ref A.c_UnknownOperator, .ref A.c_UnknownSession, .ref A.c_NotRising, .ref A.c_NotConsistent, .ref A.c_NotBelow, .ref A.c_CannotMeet, .ref A.c_NoStep, .ref A.c_MissingNeed, .ref A.c_NotAvailable, .ref A.c_Pinned, .ref A.c_InUse, .ref A.c_NameTaken, .ref A.c_NothingToUndo, .ref A.c_TooMany, .ref A.c_NoState, .ref A.c_Unreachable, .ref A.c_GroupError, .ref A.c_Missing, .ref A.c_Refused, .ref A.c_LimitReached, .type "ValueError", .type "LookupError", .type "RuntimeError", .type "ArithmeticError", .type "KeyError", .type "IndexError", .type "OverflowError", .type "TypeError"] [false, false, false, false, false, false, false, false, false, false, false, false, false, false, false, true, false, false, false, false, false, false, false, false, false, false, false, false, false, false, false, false, false, false, false, true, false, false, false, true, false, false, false, false, false, false, false]
  xin_Missing : PySem.W.excIn K A.c_Missing (tailOf "LookupError") "LookupError.__new__" = true
  kr_Missing : KR K (.ref A.c_Missing) [.ref A.c_InvalidName, .ref A.c_InvalidVersion, .ref A.c_InvalidWindow, .ref A.c_InvalidWindows, .ref A.c_InvalidUses, .ref A.c_InvalidRows, .ref A.c_InvalidState, .ref A.c_InvalidDemand, .ref A.c_InvalidGoals, .ref A.c_InvalidStep, .ref A.c_InvalidSteps, .ref A.c_InvalidChange, .ref A.c_InvalidCount, .ref A.c_InvalidText, .ref A.c_InvalidEntry, .ref A.c_InvalidCommand, .ref A.c_UnknownModule, .ref A.c_UnknownUse, .ref A.c_UnknownVersion, .ref A.c_UnknownOperator, .ref A.c_UnknownSession, .ref A.c_NotRising, .ref A.c_NotConsistent, .ref A.c_NotBelow, .ref A.c_CannotMeet, .ref A.c_NoStep, .ref A.c_MissingNeed, .ref A.c_NotAvailable, .ref A.c_Pinned, .ref A.c_InUse, .ref A.c_NameTaken, .ref A.c_NothingToUndo, .ref A.c_TooMany, .ref A.c_NoState, .ref A.c_Unreachable, .ref A.c_GroupError, .ref A.c_Missing, .ref A.c_Refused, .ref A.c_LimitReached, .type "ValueError", .type "LookupError", .type "RuntimeError", .type "ArithmeticError", .type "KeyError", .type "IndexError", .type "OverflowError", .type "TypeError"] [false, false, false, false, false, false, false, false, false, false, false, false, false, false, false, false, false, false, false, false, false, false, false, false, false, false, false, false, false, false, false, false, false, false, false, false, true, false, false, false, true, false, false, false, false, false, false]
  iC_UnknownModule : PySem.W.findIn K (.ref A.c_UnknownModule) "__init__" = some (some (.ref A.f_UnknownModulex_initx))
  tI_UnknownModule : PySem.W.typeIn K (.ref A.f_UnknownModulex_initx) = some (.type "function")
  tk_UnknownModule_value : PySem.W.takerIn K A.c_UnknownModule "value" = some none
  nf_UnknownModule_value : PySem.W.findIn K (.ref A.c_UnknownModule) "value" = some none
  kr_UnknownModule : KR K (.ref A.c_UnknownModule) [.ref A.c_InvalidName, .ref A.c_InvalidVersion, .ref A.c_InvalidWindow, .ref A.c_InvalidWindows, .ref A.c_InvalidUses, .ref A.c_InvalidRows, .ref A.c_InvalidState, .ref A.c_InvalidDemand, .ref A.c_InvalidGoals, .ref A.c_InvalidStep, .ref A.c_InvalidSteps, .ref A.c_InvalidChange, .ref A.c_InvalidCount, .ref A.c_InvalidText, .ref A.c_InvalidEntry, .ref A.c_InvalidCommand, .ref A.c_UnknownModule, .ref A.c_UnknownUse, .ref A.c_UnknownVersion, .ref A.c_UnknownOperator, .ref A.c_UnknownSession, .ref A.c_NotRising, .ref A.c_NotConsistent, .ref A.c_NotBelow, .ref A.c_CannotMeet, .ref A.c_NoStep, .ref A.c_MissingNeed, .ref A.c_NotAvailable, .ref A.c_Pinned, .ref A.c_InUse, .ref A.c_NameTaken, .ref A.c_NothingToUndo, .ref A.c_TooMany, .ref A.c_NoState, .ref A.c_Unreachable, .ref A.c_GroupError, .ref A.c_Missing, .ref A.c_Refused, .ref A.c_LimitReached, .type "ValueError", .type "LookupError", .type "RuntimeError", .type "ArithmeticError", .type "KeyError", .type "IndexError", .type "OverflowError", .type "TypeError"] [false, false, false, false, false, false, false, false, false, false, false, false, false, false, false, false, true, false, false, false, false, false, false, false, false, false, false, false, false, false, false, false, false, false, false, false, true, false, false, false, true, false, false, false, false, false, false]
  iC_UnknownUse : PySem.W.findIn K (.ref A.c_UnknownUse) "__init__" = some (some (.ref A.f_UnknownUsex_initx))
  tI_UnknownUse : PySem.W.typeIn K (.ref A.f_UnknownUsex_initx) = some (.type "function")
  tk_UnknownUse_user : PySem.W.takerIn K A.c_UnknownUse "user" = some none
  nf_UnknownUse_user : PySem.W.findIn K (.ref A.c_UnknownUse) "user" = some none
  tk_UnknownUse_used : PySem.W.takerIn K A.c_UnknownUse "used" = some none
  nf_UnknownUse_used : PySem.W.findIn K (.ref A.c_UnknownUse) "used" = some none
  kr_UnknownUse : KR K (.ref A.c_UnknownUse) [.ref A.c_InvalidName, .ref A.c_InvalidVersion, .ref A.c_InvalidWindow, .ref A.c_InvalidWindows, .ref A.c_InvalidUses, .ref A.c_InvalidRows, .ref A.c_InvalidState, .ref A.c_InvalidDemand, .ref A.c_InvalidGoals, .ref A.c_InvalidStep, .ref A.c_InvalidSteps, .ref A.c_InvalidChange, .ref A.c_InvalidCount, .ref A.c_InvalidText, .ref A.c_InvalidEntry, .ref A.c_InvalidCommand, .ref A.c_UnknownModule, .ref A.c_UnknownUse, .ref A.c_UnknownVersion, .ref A.c_UnknownOperator, .ref A.c_UnknownSession, .ref A.c_NotRising, .ref A.c_NotConsistent, .ref A.c_NotBelow, .ref A.c_CannotMeet, .ref A.c_NoStep, .ref A.c_MissingNeed, .ref A.c_NotAvailable, .ref A.c_Pinned, .ref A.c_InUse, .ref A.c_NameTaken, .ref A.c_NothingToUndo, .ref A.c_TooMany, .ref A.c_NoState, .ref A.c_Unreachable, .ref A.c_GroupError, .ref A.c_Missing, .ref A.c_Refused, .ref A.c_LimitReached, .type "ValueError", .type "LookupError", .type "RuntimeError", .type "ArithmeticError", .type "KeyError", .type "IndexError", .type "OverflowError", .type "TypeError"] [false, false, false, false, false, false, false, false, false, false, false, false, false, false, false, false, false, true, false, false, false, false, false, false, false, false, false, false, false, false, false, false, false, false, false, false, true, false, false, false, true, false, false, false, false, false, false]
  iC_UnknownVersion : PySem.W.findIn K (.ref A.c_UnknownVersion) "__init__" = some (some (.ref A.f_UnknownVersionx_initx))
  tI_UnknownVersion : PySem.W.typeIn K (.ref A.f_UnknownVersionx_initx) = some (.type "function")
  tk_UnknownVersion_module : PySem.W.takerIn K A.c_UnknownVersion "module" = some none
  nf_UnknownVersion_module : PySem.W.findIn K (.ref A.c_UnknownVersion) "module" = some none
  tk_UnknownVersion_version : PySem.W.takerIn K A.c_UnknownVersion "version" = some none
  nf_UnknownVersion_version : PySem.W.findIn K (.ref A.c_UnknownVersion) "version" = some none
  kr_UnknownVersion : KR K (.ref A.c_UnknownVersion) [.ref A.c_InvalidName, .ref A.c_InvalidVersion, .ref A.c_InvalidWindow, .ref A.c_InvalidWindows, .ref A.c_InvalidUses, .ref A.c_InvalidRows, .ref A.c_InvalidState, .ref A.c_InvalidDemand, .ref A.c_InvalidGoals, .ref A.c_InvalidStep, .ref A.c_InvalidSteps, .ref A.c_InvalidChange, .ref A.c_InvalidCount, .ref A.c_InvalidText, .ref A.c_InvalidEntry, .ref A.c_InvalidCommand, .ref A.c_UnknownModule, .ref A.c_UnknownUse, .ref A.c_UnknownVersion, .ref A.c_UnknownOperator, .ref A.c_UnknownSession, .ref A.c_NotRising, .ref A.c_NotConsistent, .ref A.c_NotBelow, .ref A.c_CannotMeet, .ref A.c_NoStep, .ref A.c_MissingNeed, .ref A.c_NotAvailable, .ref A.c_Pinned, .ref A.c_InUse, .ref A.c_NameTaken, .ref A.c_NothingToUndo, .ref A.c_TooMany, .ref A.c_NoState, .ref A.c_Unreachable, .ref A.c_GroupError, .ref A.c_Missing, .ref A.c_Refused, .ref A.c_LimitReached, .type "ValueError", .type "LookupError", .type "RuntimeError", .type "ArithmeticError", .type "KeyError", .type "IndexError", .type "OverflowError", .type "TypeError"] [false, false, false, false, false, false, false, false, false, false, false, false, false, false, false, false, false, false, true, false, false, false, false, false, false, false, false, false, false, false, false, false, false, false, false, false, true, false, false, false, true, false, false, false, false, false, false]
  iC_UnknownOperator : PySem.W.findIn K (.ref A.c_UnknownOperator) "__init__" = some (some (.ref A.f_UnknownOperatorx_initx))
  tI_UnknownOperator : PySem.W.typeIn K (.ref A.f_UnknownOperatorx_initx) = some (.type "function")
  tk_UnknownOperator_value : PySem.W.takerIn K A.c_UnknownOperator "value" = some none
  nf_UnknownOperator_value : PySem.W.findIn K (.ref A.c_UnknownOperator) "value" = some none
  kr_UnknownOperator : KR K (.ref A.c_UnknownOperator) [.ref A.c_InvalidName, .ref A.c_InvalidVersion, .ref A.c_InvalidWindow, .ref A.c_InvalidWindows, .ref A.c_InvalidUses, .ref A.c_InvalidRows, .ref A.c_InvalidState, .ref A.c_InvalidDemand, .ref A.c_InvalidGoals, .ref A.c_InvalidStep, .ref A.c_InvalidSteps, .ref A.c_InvalidChange, .ref A.c_InvalidCount, .ref A.c_InvalidText, .ref A.c_InvalidEntry, .ref A.c_InvalidCommand, .ref A.c_UnknownModule, .ref A.c_UnknownUse, .ref A.c_UnknownVersion, .ref A.c_UnknownOperator, .ref A.c_UnknownSession, .ref A.c_NotRising, .ref A.c_NotConsistent, .ref A.c_NotBelow, .ref A.c_CannotMeet, .ref A.c_NoStep, .ref A.c_MissingNeed, .ref A.c_NotAvailable, .ref A.c_Pinned, .ref A.c_InUse, .ref A.c_NameTaken, .ref A.c_NothingToUndo, .ref A.c_TooMany, .ref A.c_NoState, .ref A.c_Unreachable, .ref A.c_GroupError, .ref A.c_Missing, .ref A.c_Refused, .ref A.c_LimitReached, .type "ValueError", .type "LookupError", .type "RuntimeError", .type "ArithmeticError", .type "KeyError", .type "IndexError", .type "OverflowError", .type "TypeError"] [false, false, false, false, false, false, false, false, false, false, false, false, false, false, false, false, false, false, false, true, false, false, false, false, false, false, false, false, false, false, false, false, false, false, false, false, true, false, false, false, true, false, false, false, false, false, false]
  iC_UnknownSession : PySem.W.findIn K (.ref A.c_UnknownSession) "__init__" = some (some (.ref A.f_UnknownSessionx_initx))
  tI_UnknownSession : PySem.W.typeIn K (.ref A.f_UnknownSessionx_initx) = some (.type "function")
  tk_UnknownSession_value : PySem.W.takerIn K A.c_UnknownSession "value" = some none
  nf_UnknownSession_value : PySem.W.findIn K (.ref A.c_UnknownSession) "value" = some none
  kr_UnknownSession : KR K (.ref A.c_UnknownSession) [.ref A.c_InvalidName, .ref A.c_InvalidVersion, .ref A.c_InvalidWindow, .ref A.c_InvalidWindows, .ref A.c_InvalidUses, .ref A.c_InvalidRows, .ref A.c_InvalidState, .ref A.c_InvalidDemand, .ref A.c_InvalidGoals, .ref A.c_InvalidStep, .ref A.c_InvalidSteps, .ref A.c_InvalidChange, .ref A.c_InvalidCount, .ref A.c_InvalidText, .ref A.c_InvalidEntry, .ref A.c_InvalidCommand, .ref A.c_UnknownModule, .ref A.c_UnknownUse, .ref A.c_UnknownVersion, .ref A.c_UnknownOperator, .ref A.c_UnknownSession, .ref A.c_NotRising, .ref A.c_NotConsistent, .ref A.c_NotBelow, .ref A.c_CannotMeet, .ref A.c_NoStep, .ref A.c_MissingNeed, .ref A.c_NotAvailable, .ref A.c_Pinned, .ref A.c_InUse, .ref A.c_NameTaken, .ref A.c_NothingToUndo, .ref A.c_TooMany, .ref A.c_NoState, .ref A.c_Unreachable, .ref A.c_GroupError, .ref A.c_Missing, .ref A.c_Refused, .ref A.c_LimitReached, .type "ValueError", .type "LookupError", .type "RuntimeError", .type "ArithmeticError", .type "KeyError", .type "IndexError", .type "OverflowError", .type "TypeError"] [false, false, false, false, false, false, false, false, false, false, false, false, false, false, false, false, false, false, false, false, true, false, false, false, false, false, false, false, false, false, false, false, false, false, false, false, true, false, false, false, true, false, false, false, false, false, false]
  xin_Refused : PySem.W.excIn K A.c_Refused (tailOf "RuntimeError") "RuntimeError.__new__" = true
  kr_Refused : KR K (.ref A.c_Refused) [.ref A.c_InvalidName, .ref A.c_InvalidVersion, .ref A.c_InvalidWindow, .ref A.c_InvalidWindows, .ref A.c_InvalidUses, .ref A.c_InvalidRows, .ref A.c_InvalidState, .ref A.c_InvalidDemand, .ref A.c_InvalidGoals, .ref A.c_InvalidStep, .ref A.c_InvalidSteps, .ref A.c_InvalidChange, .ref A.c_InvalidCount, .ref A.c_InvalidText, .ref A.c_InvalidEntry, .ref A.c_InvalidCommand, .ref A.c_UnknownModule, .ref A.c_UnknownUse, .ref A.c_UnknownVersion, .ref A.c_UnknownOperator, .ref A.c_UnknownSession, .ref A.c_NotRising, .ref A.c_NotConsistent, .ref A.c_NotBelow, .ref A.c_CannotMeet, .ref A.c_NoStep, .ref A.c_MissingNeed, .ref A.c_NotAvailable, .ref A.c_Pinned, .ref A.c_InUse, .ref A.c_NameTaken, .ref A.c_NothingToUndo, .ref A.c_TooMany, .ref A.c_NoState, .ref A.c_Unreachable, .ref A.c_GroupError, .ref A.c_Missing, .ref A.c_Refused, .ref A.c_LimitReached, .type "ValueError", .type "LookupError", .type "RuntimeError", .type "ArithmeticError", .type "KeyError", .type "IndexError", .type "OverflowError", .type "TypeError"] [false, false, false, false, false, false, false, false, false, false, false, false, false, false, false, false, false, false, false, false, false, false, false, false, false, false, false, false, false, false, false, false, false, false, false, false, false, true, false, false, false, true, false, false, false, false, false]
  iC_NotRising : PySem.W.findIn K (.ref A.c_NotRising) "__init__" = some (some (.ref A.f_NotRisingx_initx))
  tI_NotRising : PySem.W.typeIn K (.ref A.f_NotRisingx_initx) = some (.type "function")
  tk_NotRising_user : PySem.W.takerIn K A.c_NotRising "user" = some none
  nf_NotRising_user : PySem.W.findIn K (.ref A.c_NotRising) "user" = some none
  tk_NotRising_used : PySem.W.takerIn K A.c_NotRising "used" = some none
  nf_NotRising_used : PySem.W.findIn K (.ref A.c_NotRising) "used" = some none
  kr_NotRising : KR K (.ref A.c_NotRising) [.ref A.c_InvalidName, .ref A.c_InvalidVersion, .ref A.c_InvalidWindow, .ref A.c_InvalidWindows, .ref A.c_InvalidUses, .ref A.c_InvalidRows, .ref A.c_InvalidState, .ref A.c_InvalidDemand, .ref A.c_InvalidGoals, .ref A.c_InvalidStep, .ref A.c_InvalidSteps, .ref A.c_InvalidChange, .ref A.c_InvalidCount, .ref A.c_InvalidText, .ref A.c_InvalidEntry, .ref A.c_InvalidCommand, .ref A.c_UnknownModule, .ref A.c_UnknownUse, .ref A.c_UnknownVersion, .ref A.c_UnknownOperator, .ref A.c_UnknownSession, .ref A.c_NotRising, .ref A.c_NotConsistent, .ref A.c_NotBelow, .ref A.c_CannotMeet, .ref A.c_NoStep, .ref A.c_MissingNeed, .ref A.c_NotAvailable, .ref A.c_Pinned, .ref A.c_InUse, .ref A.c_NameTaken, .ref A.c_NothingToUndo, .ref A.c_TooMany, .ref A.c_NoState, .ref A.c_Unreachable, .ref A.c_GroupError, .ref A.c_Missing, .ref A.c_Refused, .ref A.c_LimitReached, .type "ValueError", .type "LookupError", .type "RuntimeError", .type "ArithmeticError", .type "KeyError", .type "IndexError", .type "OverflowError", .type "TypeError"] [false, false, false, false, false, false, false, false, false, false, false, false, false, false, false, false, false, false, false, false, false, true, false, false, false, false, false, false, false, false, false, false, false, false, false, false, false, true, false, false, false, true, false, false, false, false, false]
  iC_NotConsistent : PySem.W.findIn K (.ref A.c_NotConsistent) "__init__" = some (some (.ref A.f_NotConsistentx_initx))
  tI_NotConsistent : PySem.W.typeIn K (.ref A.f_NotConsistentx_initx) = some (.type "function")
  tk_NotConsistent_user : PySem.W.takerIn K A.c_NotConsistent "user" = some none
  nf_NotConsistent_user : PySem.W.findIn K (.ref A.c_NotConsistent) "user" = some none
  tk_NotConsistent_used : PySem.W.takerIn K A.c_NotConsistent "used" = some none
  nf_NotConsistent_used : PySem.W.findIn K (.ref A.c_NotConsistent) "used" = some none
  kr_NotConsistent : KR K (.ref A.c_NotConsistent) [.ref A.c_InvalidName, .ref A.c_InvalidVersion, .ref A.c_InvalidWindow, .ref A.c_InvalidWindows, .ref A.c_InvalidUses, .ref A.c_InvalidRows, .ref A.c_InvalidState, .ref A.c_InvalidDemand, .ref A.c_InvalidGoals, .ref A.c_InvalidStep, .ref A.c_InvalidSteps, .ref A.c_InvalidChange, .ref A.c_InvalidCount, .ref A.c_InvalidText, .ref A.c_InvalidEntry, .ref A.c_InvalidCommand, .ref A.c_UnknownModule, .ref A.c_UnknownUse, .ref A.c_UnknownVersion, .ref A.c_UnknownOperator, .ref A.c_UnknownSession, .ref A.c_NotRising, .ref A.c_NotConsistent, .ref A.c_NotBelow, .ref A.c_CannotMeet, .ref A.c_NoStep, .ref A.c_MissingNeed, .ref A.c_NotAvailable, .ref A.c_Pinned, .ref A.c_InUse, .ref A.c_NameTaken, .ref A.c_NothingToUndo, .ref A.c_TooMany, .ref A.c_NoState, .ref A.c_Unreachable, .ref A.c_GroupError, .ref A.c_Missing, .ref A.c_Refused, .ref A.c_LimitReached, .type "ValueError", .type "LookupError", .type "RuntimeError", .type "ArithmeticError", .type "KeyError", .type "IndexError", .type "OverflowError", .type "TypeError"] [false, false, false, false, false, false, false, false, false, false, false, false, false, false, false, false, false, false, false, false, false, false, true, false, false, false, false, false, false, false, false, false, false, false, false, false, false, true, false, false, false, true, false, false, false, false, false]
  iC_NotBelow : PySem.W.findIn K (.ref A.c_NotBelow) "__init__" = some (some (.ref A.f_NotBelowx_initx))
  tI_NotBelow : PySem.W.typeIn K (.ref A.f_NotBelowx_initx) = some (.type "function")
  tk_NotBelow_module : PySem.W.takerIn K A.c_NotBelow "module" = some none
  nf_NotBelow_module : PySem.W.findIn K (.ref A.c_NotBelow) "module" = some none
  kr_NotBelow : KR K (.ref A.c_NotBelow) [.ref A.c_InvalidName, .ref A.c_InvalidVersion, .ref A.c_InvalidWindow, .ref A.c_InvalidWindows, .ref A.c_InvalidUses, .ref A.c_InvalidRows, .ref A.c_InvalidState, .ref A.c_InvalidDemand, .ref A.c_InvalidGoals, .ref A.c_InvalidStep, .ref A.c_InvalidSteps, .ref A.c_InvalidChange, .ref A.c_InvalidCount, .ref A.c_InvalidText, .ref A.c_InvalidEntry, .ref A.c_InvalidCommand, .ref A.c_UnknownModule, .ref A.c_UnknownUse, .ref A.c_UnknownVersion, .ref A.c_UnknownOperator, .ref A.c_UnknownSession, .ref A.c_NotRising, .ref A.c_NotConsistent, .ref A.c_NotBelow, .ref A.c_CannotMeet, .ref A.c_NoStep, .ref A.c_MissingNeed, .ref A.c_NotAvailable, .ref A.c_Pinned, .ref A.c_InUse, .ref A.c_NameTaken, .ref A.c_NothingToUndo, .ref A.c_TooMany, .ref A.c_NoState, .ref A.c_Unreachable, .ref A.c_GroupError, .ref A.c_Missing, .ref A.c_Refused, .ref A.c_LimitReached, .type "ValueError", .type "LookupError", .type "RuntimeError", .type "ArithmeticError", .type "KeyError", .type "IndexError", .type "OverflowError", .type "TypeError"] [false, false, false, false, false, false, false, false, false, false, false, false, false, false, false, false, false, false, false, false, false, false, false, true, false, false, false, false, false, false, false, false, false, false, false, false, false, true, false, false, false, true, false, false, false, false, false]
  iC_CannotMeet : PySem.W.findIn K (.ref A.c_CannotMeet) "__init__" = some (some (.ref A.f_CannotMeetx_initx))
  tI_CannotMeet : PySem.W.typeIn K (.ref A.f_CannotMeetx_initx) = some (.type "function")
  tk_CannotMeet_module : PySem.W.takerIn K A.c_CannotMeet "module" = some none
  nf_CannotMeet_module : PySem.W.findIn K (.ref A.c_CannotMeet) "module" = some none
  tk_CannotMeet_version : PySem.W.takerIn K A.c_CannotMeet "version" = some none
  nf_CannotMeet_version : PySem.W.findIn K (.ref A.c_CannotMeet) "version" = some none
  kr_CannotMeet : KR K (.ref A.c_CannotMeet) [.ref A.c_InvalidName, .ref A.c_InvalidVersion, .ref A.c_InvalidWindow, .ref A.c_InvalidWindows, .ref A.c_InvalidUses, .ref A.c_InvalidRows, .ref A.c_InvalidState, .ref A.c_InvalidDemand, .ref A.c_InvalidGoals, .ref A.c_InvalidStep, .ref A.c_InvalidSteps, .ref A.c_InvalidChange, .ref A.c_InvalidCount, .ref A.c_InvalidText, .ref A.c_InvalidEntry, .ref A.c_InvalidCommand, .ref A.c_UnknownModule, .ref A.c_UnknownUse, .ref A.c_UnknownVersion, .ref A.c_UnknownOperator, .ref A.c_UnknownSession, .ref A.c_NotRising, .ref A.c_NotConsistent, .ref A.c_NotBelow, .ref A.c_CannotMeet, .ref A.c_NoStep, .ref A.c_MissingNeed, .ref A.c_NotAvailable, .ref A.c_Pinned, .ref A.c_InUse, .ref A.c_NameTaken, .ref A.c_NothingToUndo, .ref A.c_TooMany, .ref A.c_NoState, .ref A.c_Unreachable, .ref A.c_GroupError, .ref A.c_Missing, .ref A.c_Refused, .ref A.c_LimitReached, .type "ValueError", .type "LookupError", .type "RuntimeError", .type "ArithmeticError", .type "KeyError", .type "IndexError", .type "OverflowError", .type "TypeError"] [false, false, false, false, false, false, false, false, false, false, false, false, false, false, false, false, false, false, false, false, false, false, false, false, true, false, false, false, false, false, false, false, false, false, false, false, false, true, false, false, false, true, false, false, false, false, false]
  iC_NoStep : PySem.W.findIn K (.ref A.c_NoStep) "__init__" = some (some (.ref A.f_NoStepx_initx))
  tI_NoStep : PySem.W.typeIn K (.ref A.f_NoStepx_initx) = some (.type "function")
  tk_NoStep_module : PySem.W.takerIn K A.c_NoStep "module" = some none
  nf_NoStep_module : PySem.W.findIn K (.ref A.c_NoStep) "module" = some none
  tk_NoStep_version : PySem.W.takerIn K A.c_NoStep "version" = some none
  nf_NoStep_version : PySem.W.findIn K (.ref A.c_NoStep) "version" = some none
  kr_NoStep : KR K (.ref A.c_NoStep) [.ref A.c_InvalidName, .ref A.c_InvalidVersion, .ref A.c_InvalidWindow, .ref A.c_InvalidWindows, .ref A.c_InvalidUses, .ref A.c_InvalidRows, .ref A.c_InvalidState, .ref A.c_InvalidDemand, .ref A.c_InvalidGoals, .ref A.c_InvalidStep, .ref A.c_InvalidSteps, .ref A.c_InvalidChange, .ref A.c_InvalidCount, .ref A.c_InvalidText, .ref A.c_InvalidEntry, .ref A.c_InvalidCommand, .ref A.c_UnknownModule, .ref A.c_UnknownUse, .ref A.c_UnknownVersion, .ref A.c_UnknownOperator, .ref A.c_UnknownSession, .ref A.c_NotRising, .ref A.c_NotConsistent, .ref A.c_NotBelow, .ref A.c_CannotMeet, .ref A.c_NoStep, .ref A.c_MissingNeed, .ref A.c_NotAvailable, .ref A.c_Pinned, .ref A.c_InUse, .ref A.c_NameTaken, .ref A.c_NothingToUndo, .ref A.c_TooMany, .ref A.c_NoState, .ref A.c_Unreachable, .ref A.c_GroupError, .ref A.c_Missing, .ref A.c_Refused, .ref A.c_LimitReached, .type "ValueError", .type "LookupError", .type "RuntimeError", .type "ArithmeticError", .type "KeyError", .type "IndexError", .type "OverflowError", .type "TypeError"] [false, false, false, false, false, false, false, false, false, false, false, false, false, false, false, false, false, false, false, false, false, false, false, false, false, true, false, false, false, false, false, false, false, false, false, false, false, true, false, false, false, true, false, false, false, false, false]
  iC_MissingNeed : PySem.W.findIn K (.ref A.c_MissingNeed) "__init__" = some (some (.ref A.f_MissingNeedx_initx))
  tI_MissingNeed : PySem.W.typeIn K (.ref A.f_MissingNeedx_initx) = some (.type "function")
  tk_MissingNeed_step : PySem.W.takerIn K A.c_MissingNeed "step" = some none
  nf_MissingNeed_step : PySem.W.findIn K (.ref A.c_MissingNeed) "step" = some none
  kr_MissingNeed : KR K (.ref A.c_MissingNeed) [.ref A.c_InvalidName, .ref A.c_InvalidVersion, .ref A.c_InvalidWindow, .ref A.c_InvalidWindows, .ref A.c_InvalidUses, .ref A.c_InvalidRows, .ref A.c_InvalidState, .ref A.c_InvalidDemand, .ref A.c_InvalidGoals, .ref A.c_InvalidStep, .ref A.c_InvalidSteps, .ref A.c_InvalidChange, .ref A.c_InvalidCount, .ref A.c_InvalidText, .ref A.c_InvalidEntry, .ref A.c_InvalidCommand, .ref A.c_UnknownModule, .ref A.c_UnknownUse, .ref A.c_UnknownVersion, .ref A.c_UnknownOperator, .ref A.c_UnknownSession, .ref A.c_NotRising, .ref A.c_NotConsistent, .ref A.c_NotBelow, .ref A.c_CannotMeet, .ref A.c_NoStep, .ref A.c_MissingNeed, .ref A.c_NotAvailable, .ref A.c_Pinned, .ref A.c_InUse, .ref A.c_NameTaken, .ref A.c_NothingToUndo, .ref A.c_TooMany, .ref A.c_NoState, .ref A.c_Unreachable, .ref A.c_GroupError, .ref A.c_Missing, .ref A.c_Refused, .ref A.c_LimitReached, .type "ValueError", .type "LookupError", .type "RuntimeError", .type "ArithmeticError", .type "KeyError", .type "IndexError", .type "OverflowError", .type "TypeError"] [false, false, false, false, false, false, false, false, false, false, false, false, false, false, false, false, false, false, false, false, false, false, false, false, false, false, true, false, false, false, false, false, false, false, false, false, false, true, false, false, false, true, false, false, false, false, false]
  iC_NotAvailable : PySem.W.findIn K (.ref A.c_NotAvailable) "__init__" = some (some (.ref A.f_NotAvailablex_initx))
  tI_NotAvailable : PySem.W.typeIn K (.ref A.f_NotAvailablex_initx) = some (.type "function")
  tk_NotAvailable_step : PySem.W.takerIn K A.c_NotAvailable "step" = some none
  nf_NotAvailable_step : PySem.W.findIn K (.ref A.c_NotAvailable) "step" = some none
  kr_NotAvailable : KR K (.ref A.c_NotAvailable) [.ref A.c_InvalidName, .ref A.c_InvalidVersion, .ref A.c_InvalidWindow, .ref A.c_InvalidWindows, .ref A.c_InvalidUses, .ref A.c_InvalidRows, .ref A.c_InvalidState, .ref A.c_InvalidDemand, .ref A.c_InvalidGoals, .ref A.c_InvalidStep, .ref A.c_InvalidSteps, .ref A.c_InvalidChange, .ref A.c_InvalidCount, .ref A.c_InvalidText, .ref A.c_InvalidEntry, .ref A.c_InvalidCommand, .ref A.c_UnknownModule, .ref A.c_UnknownUse, .ref A.c_UnknownVersion, .ref A.c_UnknownOperator, .ref A.c_UnknownSession, .ref A.c_NotRising, .ref A.c_NotConsistent, .ref A.c_NotBelow, .ref A.c_CannotMeet, .ref A.c_NoStep, .ref A.c_MissingNeed, .ref A.c_NotAvailable, .ref A.c_Pinned, .ref A.c_InUse, .ref A.c_NameTaken, .ref A.c_NothingToUndo, .ref A.c_TooMany, .ref A.c_NoState, .ref A.c_Unreachable, .ref A.c_GroupError, .ref A.c_Missing, .ref A.c_Refused, .ref A.c_LimitReached, .type "ValueError", .type "LookupError", .type "RuntimeError", .type "ArithmeticError", .type "KeyError", .type "IndexError", .type "OverflowError", .type "TypeError"] [false, false, false, false, false, false, false, false, false, false, false, false, false, false, false, false, false, false, false, false, false, false, false, false, false, false, false, true, false, false, false, false, false, false, false, false, false, true, false, false, false, true, false, false, false, false, false]
  iC_Pinned : PySem.W.findIn K (.ref A.c_Pinned) "__init__" = some (some (.ref A.f_Pinnedx_initx))
  tI_Pinned : PySem.W.typeIn K (.ref A.f_Pinnedx_initx) = some (.type "function")
  tk_Pinned_module : PySem.W.takerIn K A.c_Pinned "module" = some none
  nf_Pinned_module : PySem.W.findIn K (.ref A.c_Pinned) "module" = some none
  tk_Pinned_version : PySem.W.takerIn K A.c_Pinned "version" = some none
  nf_Pinned_version : PySem.W.findIn K (.ref A.c_Pinned) "version" = some none
  kr_Pinned : KR K (.ref A.c_Pinned) [.ref A.c_InvalidName, .ref A.c_InvalidVersion, .ref A.c_InvalidWindow, .ref A.c_InvalidWindows, .ref A.c_InvalidUses, .ref A.c_InvalidRows, .ref A.c_InvalidState, .ref A.c_InvalidDemand, .ref A.c_InvalidGoals, .ref A.c_InvalidStep, .ref A.c_InvalidSteps, .ref A.c_InvalidChange, .ref A.c_InvalidCount, .ref A.c_InvalidText, .ref A.c_InvalidEntry, .ref A.c_InvalidCommand, .ref A.c_UnknownModule, .ref A.c_UnknownUse, .ref A.c_UnknownVersion, .ref A.c_UnknownOperator, .ref A.c_UnknownSession, .ref A.c_NotRising, .ref A.c_NotConsistent, .ref A.c_NotBelow, .ref A.c_CannotMeet, .ref A.c_NoStep, .ref A.c_MissingNeed, .ref A.c_NotAvailable, .ref A.c_Pinned, .ref A.c_InUse, .ref A.c_NameTaken, .ref A.c_NothingToUndo, .ref A.c_TooMany, .ref A.c_NoState, .ref A.c_Unreachable, .ref A.c_GroupError, .ref A.c_Missing, .ref A.c_Refused, .ref A.c_LimitReached, .type "ValueError", .type "LookupError", .type "RuntimeError", .type "ArithmeticError", .type "KeyError", .type "IndexError", .type "OverflowError", .type "TypeError"] [false, false, false, false, false, false, false, false, false, false, false, false, false, false, false, false, false, false, false, false, false, false, false, false, false, false, false, false, true, false, false, false, false, false, false, false, false, true, false, false, false, true, false, false, false, false, false]
  iC_InUse : PySem.W.findIn K (.ref A.c_InUse) "__init__" = some (some (.ref A.f_InUsex_initx))
  tI_InUse : PySem.W.typeIn K (.ref A.f_InUsex_initx) = some (.type "function")
  tk_InUse_module : PySem.W.takerIn K A.c_InUse "module" = some none
  nf_InUse_module : PySem.W.findIn K (.ref A.c_InUse) "module" = some none
  tk_InUse_version : PySem.W.takerIn K A.c_InUse "version" = some none
  nf_InUse_version : PySem.W.findIn K (.ref A.c_InUse) "version" = some none
  kr_InUse : KR K (.ref A.c_InUse) [.ref A.c_InvalidName, .ref A.c_InvalidVersion, .ref A.c_InvalidWindow, .ref A.c_InvalidWindows, .ref A.c_InvalidUses, .ref A.c_InvalidRows, .ref A.c_InvalidState, .ref A.c_InvalidDemand, .ref A.c_InvalidGoals, .ref A.c_InvalidStep, .ref A.c_InvalidSteps, .ref A.c_InvalidChange, .ref A.c_InvalidCount, .ref A.c_InvalidText, .ref A.c_InvalidEntry, .ref A.c_InvalidCommand, .ref A.c_UnknownModule, .ref A.c_UnknownUse, .ref A.c_UnknownVersion, .ref A.c_UnknownOperator, .ref A.c_UnknownSession, .ref A.c_NotRising, .ref A.c_NotConsistent, .ref A.c_NotBelow, .ref A.c_CannotMeet, .ref A.c_NoStep, .ref A.c_MissingNeed, .ref A.c_NotAvailable, .ref A.c_Pinned, .ref A.c_InUse, .ref A.c_NameTaken, .ref A.c_NothingToUndo, .ref A.c_TooMany, .ref A.c_NoState, .ref A.c_Unreachable, .ref A.c_GroupError, .ref A.c_Missing, .ref A.c_Refused, .ref A.c_LimitReached, .type "ValueError", .type "LookupError", .type "RuntimeError", .type "ArithmeticError", .type "KeyError", .type "IndexError", .type "OverflowError", .type "TypeError"] [false, false, false, false, false, false, false, false, false, false, false, false, false, false, false, false, false, false, false, false, false, false, false, false, false, false, false, false, false, true, false, false, false, false, false, false, false, true, false, false, false, true, false, false, false, false, false]
  iC_NameTaken : PySem.W.findIn K (.ref A.c_NameTaken) "__init__" = some (some (.ref A.f_NameTakenx_initx))
  tI_NameTaken : PySem.W.typeIn K (.ref A.f_NameTakenx_initx) = some (.type "function")
  tk_NameTaken_value : PySem.W.takerIn K A.c_NameTaken "value" = some none
  nf_NameTaken_value : PySem.W.findIn K (.ref A.c_NameTaken) "value" = some none
  kr_NameTaken : KR K (.ref A.c_NameTaken) [.ref A.c_InvalidName, .ref A.c_InvalidVersion, .ref A.c_InvalidWindow, .ref A.c_InvalidWindows, .ref A.c_InvalidUses, .ref A.c_InvalidRows, .ref A.c_InvalidState, .ref A.c_InvalidDemand, .ref A.c_InvalidGoals, .ref A.c_InvalidStep, .ref A.c_InvalidSteps, .ref A.c_InvalidChange, .ref A.c_InvalidCount, .ref A.c_InvalidText, .ref A.c_InvalidEntry, .ref A.c_InvalidCommand, .ref A.c_UnknownModule, .ref A.c_UnknownUse, .ref A.c_UnknownVersion, .ref A.c_UnknownOperator, .ref A.c_UnknownSession, .ref A.c_NotRising, .ref A.c_NotConsistent, .ref A.c_NotBelow, .ref A.c_CannotMeet, .ref A.c_NoStep, .ref A.c_MissingNeed, .ref A.c_NotAvailable, .ref A.c_Pinned, .ref A.c_InUse, .ref A.c_NameTaken, .ref A.c_NothingToUndo, .ref A.c_TooMany, .ref A.c_NoState, .ref A.c_Unreachable, .ref A.c_GroupError, .ref A.c_Missing, .ref A.c_Refused, .ref A.c_LimitReached, .type "ValueError", .type "LookupError", .type "RuntimeError", .type "ArithmeticError", .type "KeyError", .type "IndexError", .type "OverflowError", .type "TypeError"] [false, false, false, false, false, false, false, false, false, false, false, false, false, false, false, false, false, false, false, false, false, false, false, false, false, false, false, false, false, false, true, false, false, false, false, false, false, true, false, false, false, true, false, false, false, false, false]
  xin_NothingToUndo : PySem.W.excIn K A.c_NothingToUndo (tailOf "RuntimeError") "RuntimeError.__new__" = true
  kr_NothingToUndo : KR K (.ref A.c_NothingToUndo) [.ref A.c_InvalidName, .ref A.c_InvalidVersion, .ref A.c_InvalidWindow, .ref A.c_InvalidWindows, .ref A.c_InvalidUses, .ref A.c_InvalidRows, .ref A.c_InvalidState, .ref A.c_InvalidDemand, .ref A.c_InvalidGoals, .ref A.c_InvalidStep, .ref A.c_InvalidSteps, .ref A.c_InvalidChange, .ref A.c_InvalidCount, .ref A.c_InvalidText, .ref A.c_InvalidEntry, .ref A.c_InvalidCommand, .ref A.c_UnknownModule, .ref A.c_UnknownUse, .ref A.c_UnknownVersion, .ref A.c_UnknownOperator, .ref A.c_UnknownSession, .ref A.c_NotRising, .ref A.c_NotConsistent, .ref A.c_NotBelow, .ref A.c_CannotMeet, .ref A.c_NoStep, .ref A.c_MissingNeed, .ref A.c_NotAvailable, .ref A.c_Pinned, .ref A.c_InUse, .ref A.c_NameTaken, .ref A.c_NothingToUndo, .ref A.c_TooMany, .ref A.c_NoState, .ref A.c_Unreachable, .ref A.c_GroupError, .ref A.c_Missing, .ref A.c_Refused, .ref A.c_LimitReached, .type "ValueError", .type "LookupError", .type "RuntimeError", .type "ArithmeticError", .type "KeyError", .type "IndexError", .type "OverflowError", .type "TypeError"] [false, false, false, false, false, false, false, false, false, false, false, false, false, false, false, false, false, false, false, false, false, false, false, false, false, false, false, false, false, false, false, true, false, false, false, false, false, true, false, false, false, true, false, false, false, false, false]
  xin_LimitReached : PySem.W.excIn K A.c_LimitReached (tailOf "ArithmeticError") "ArithmeticError.__new__" = true
  kr_LimitReached : KR K (.ref A.c_LimitReached) [.ref A.c_InvalidName, .ref A.c_InvalidVersion, .ref A.c_InvalidWindow, .ref A.c_InvalidWindows, .ref A.c_InvalidUses, .ref A.c_InvalidRows, .ref A.c_InvalidState, .ref A.c_InvalidDemand, .ref A.c_InvalidGoals, .ref A.c_InvalidStep, .ref A.c_InvalidSteps, .ref A.c_InvalidChange, .ref A.c_InvalidCount, .ref A.c_InvalidText, .ref A.c_InvalidEntry, .ref A.c_InvalidCommand, .ref A.c_UnknownModule, .ref A.c_UnknownUse, .ref A.c_UnknownVersion, .ref A.c_UnknownOperator, .ref A.c_UnknownSession, .ref A.c_NotRising, .ref A.c_NotConsistent, .ref A.c_NotBelow, .ref A.c_CannotMeet, .ref A.c_NoStep, .ref A.c_MissingNeed, .ref A.c_NotAvailable, .ref A.c_Pinned, .ref A.c_InUse, .ref A.c_NameTaken, .ref A.c_NothingToUndo, .ref A.c_TooMany, .ref A.c_NoState, .ref A.c_Unreachable, .ref A.c_GroupError, .ref A.c_Missing, .ref A.c_Refused, .ref A.c_LimitReached, .type "ValueError", .type "LookupError", .type "RuntimeError", .type "ArithmeticError", .type "KeyError", .type "IndexError", .type "OverflowError", .type "TypeError"] [false, false, false, false, false, false, false, false, false, false, false, false, false, false, false, false, false, false, false, false, false, false, false, false, false, false, false, false, false, false, false, false, false, false, false, false, false, false, true, false, false, false, true, false, false, false, false]
  iC_TooMany : PySem.W.findIn K (.ref A.c_TooMany) "__init__" = some (some (.ref A.f_TooManyx_initx))
  tI_TooMany : PySem.W.typeIn K (.ref A.f_TooManyx_initx) = some (.type "function")
  tk_TooMany_kind : PySem.W.takerIn K A.c_TooMany "kind" = some none
  nf_TooMany_kind : PySem.W.findIn K (.ref A.c_TooMany) "kind" = some none
  tk_TooMany_limit : PySem.W.takerIn K A.c_TooMany "limit" = some none
  nf_TooMany_limit : PySem.W.findIn K (.ref A.c_TooMany) "limit" = some none
  kr_TooMany : KR K (.ref A.c_TooMany) [.ref A.c_InvalidName, .ref A.c_InvalidVersion, .ref A.c_InvalidWindow, .ref A.c_InvalidWindows, .ref A.c_InvalidUses, .ref A.c_InvalidRows, .ref A.c_InvalidState, .ref A.c_InvalidDemand, .ref A.c_InvalidGoals, .ref A.c_InvalidStep, .ref A.c_InvalidSteps, .ref A.c_InvalidChange, .ref A.c_InvalidCount, .ref A.c_InvalidText, .ref A.c_InvalidEntry, .ref A.c_InvalidCommand, .ref A.c_UnknownModule, .ref A.c_UnknownUse, .ref A.c_UnknownVersion, .ref A.c_UnknownOperator, .ref A.c_UnknownSession, .ref A.c_NotRising, .ref A.c_NotConsistent, .ref A.c_NotBelow, .ref A.c_CannotMeet, .ref A.c_NoStep, .ref A.c_MissingNeed, .ref A.c_NotAvailable, .ref A.c_Pinned, .ref A.c_InUse, .ref A.c_NameTaken, .ref A.c_NothingToUndo, .ref A.c_TooMany, .ref A.c_NoState, .ref A.c_Unreachable, .ref A.c_GroupError, .ref A.c_Missing, .ref A.c_Refused, .ref A.c_LimitReached, .type "ValueError", .type "LookupError", .type "RuntimeError", .type "ArithmeticError", .type "KeyError", .type "IndexError", .type "OverflowError", .type "TypeError"] [false, false, false, false, false, false, false, false, false, false, false, false, false, false, false, false, false, false, false, false, false, false, false, false, false, false, false, false, false, false, false, false, true, false, false, false, false, false, true, false, false, false, true, false, false, false, false]
  iC_NoState : PySem.W.findIn K (.ref A.c_NoState) "__init__" = some (some (.ref A.f_NoStatex_initx))
  tI_NoState : PySem.W.typeIn K (.ref A.f_NoStatex_initx) = some (.type "function")
  tk_NoState_chain : PySem.W.takerIn K A.c_NoState "chain" = some none
  nf_NoState_chain : PySem.W.findIn K (.ref A.c_NoState) "chain" = some none
  kr_NoState : KR K (.ref A.c_NoState) [.ref A.c_InvalidName, .ref A.c_InvalidVersion, .ref A.c_InvalidWindow, .ref A.c_InvalidWindows, .ref A.c_InvalidUses, .ref A.c_InvalidRows, .ref A.c_InvalidState, .ref A.c_InvalidDemand, .ref A.c_InvalidGoals, .ref A.c_InvalidStep, .ref A.c_InvalidSteps, .ref A.c_InvalidChange, .ref A.c_InvalidCount, .ref A.c_InvalidText, .ref A.c_InvalidEntry, .ref A.c_InvalidCommand, .ref A.c_UnknownModule, .ref A.c_UnknownUse, .ref A.c_UnknownVersion, .ref A.c_UnknownOperator, .ref A.c_UnknownSession, .ref A.c_NotRising, .ref A.c_NotConsistent, .ref A.c_NotBelow, .ref A.c_CannotMeet, .ref A.c_NoStep, .ref A.c_MissingNeed, .ref A.c_NotAvailable, .ref A.c_Pinned, .ref A.c_InUse, .ref A.c_NameTaken, .ref A.c_NothingToUndo, .ref A.c_TooMany, .ref A.c_NoState, .ref A.c_Unreachable, .ref A.c_GroupError, .ref A.c_Missing, .ref A.c_Refused, .ref A.c_LimitReached, .type "ValueError", .type "LookupError", .type "RuntimeError", .type "ArithmeticError", .type "KeyError", .type "IndexError", .type "OverflowError", .type "TypeError"] [false, false, false, false, false, false, false, false, false, false, false, false, false, false, false, false, false, false, false, false, false, false, false, false, false, false, false, false, false, false, false, false, false, true, false, false, false, false, true, false, false, false, true, false, false, false, false]
  iC_Unreachable : PySem.W.findIn K (.ref A.c_Unreachable) "__init__" = some (some (.ref A.f_Unreachablex_initx))
  tI_Unreachable : PySem.W.typeIn K (.ref A.f_Unreachablex_initx) = some (.type "function")
  tk_Unreachable_chain : PySem.W.takerIn K A.c_Unreachable "chain" = some none
  nf_Unreachable_chain : PySem.W.findIn K (.ref A.c_Unreachable) "chain" = some none
  kr_Unreachable : KR K (.ref A.c_Unreachable) [.ref A.c_InvalidName, .ref A.c_InvalidVersion, .ref A.c_InvalidWindow, .ref A.c_InvalidWindows, .ref A.c_InvalidUses, .ref A.c_InvalidRows, .ref A.c_InvalidState, .ref A.c_InvalidDemand, .ref A.c_InvalidGoals, .ref A.c_InvalidStep, .ref A.c_InvalidSteps, .ref A.c_InvalidChange, .ref A.c_InvalidCount, .ref A.c_InvalidText, .ref A.c_InvalidEntry, .ref A.c_InvalidCommand, .ref A.c_UnknownModule, .ref A.c_UnknownUse, .ref A.c_UnknownVersion, .ref A.c_UnknownOperator, .ref A.c_UnknownSession, .ref A.c_NotRising, .ref A.c_NotConsistent, .ref A.c_NotBelow, .ref A.c_CannotMeet, .ref A.c_NoStep, .ref A.c_MissingNeed, .ref A.c_NotAvailable, .ref A.c_Pinned, .ref A.c_InUse, .ref A.c_NameTaken, .ref A.c_NothingToUndo, .ref A.c_TooMany, .ref A.c_NoState, .ref A.c_Unreachable, .ref A.c_GroupError, .ref A.c_Missing, .ref A.c_Refused, .ref A.c_LimitReached, .type "ValueError", .type "LookupError", .type "RuntimeError", .type "ArithmeticError", .type "KeyError", .type "IndexError", .type "OverflowError", .type "TypeError"] [false, false, false, false, false, false, false, false, false, false, false, false, false, false, false, false, false, false, false, false, false, false, false, false, false, false, false, false, false, false, false, false, false, false, true, false, false, false, true, false, false, false, true, false, false, false, false]
theorem i_tt {c : Bool} {A B : Prop} (h : c = true) (x : A) : if c = true then A else B := by rw [if_pos h]; exact x
theorem i_ff {c : Bool} {A B : Prop} (h : c = false) (x : B) : if c = true then A else B := by rw [h, if_neg Bool.false_ne_true]; exact x
theorem atN_lt {xs : List Nat} {d : Int} (h0 : 0 ≤ d) (h1 : d < xs.length) : ∃ v, v ∈ xs ∧ atI xs d = some v := by
  have hd : d.toNat < xs.length := by omega
  refine ⟨xs[d.toNat], List.getElem_mem hd, ?_⟩
  unfold atI ixN
  rw [if_pos h0, if_pos h1]
  simp [hd]
theorem strs_of {n : Nat} : ∀ {ys : List V}, (∀ (i : Nat) y, ys[i]? = some y → ∃ z, y = .str z ∧ okS z n) → ∃ zs : List Str, ys = zs.map V.str ∧ ∀ z ∈ zs, okS z n
  | [], _ => ⟨[], rfl, by simp⟩
  | y :: ys, h => by
    obtain ⟨z, rfl, hz⟩ := h 0 y rfl
    obtain ⟨zs, rfl, hzs⟩ := strs_of (ys := ys) (fun i y e => h (i + 1) y e)
    exact ⟨z :: zs, rfl, List.forall_mem_cons.mpr ⟨hz, hzs⟩⟩
theorem sum_le_of {b : Nat} : ∀ zs : List Str, (∀ z ∈ zs, z.length ≤ b) → (zs.map (·.length)).sum ≤ zs.length * b
  | [], _ => by simp
  | z :: zs, h => by
    have h1 := h z (by simp)
    have ih := sum_le_of zs fun x hx => h x (List.mem_cons_of_mem _ hx)
    simp only [List.map_cons, List.sum_cons, List.length_cons, Nat.add_mul, Nat.one_mul]
    omega

local macro_rules | `(tactic| walk_at "xi") => `(tactic| first
  | assumption
  | with_reducible exact XI.same (by assumption) (by walk_at "xi")
  | fail)
local macro_rules | `(tactic| walk_at "px") => `(tactic| first
  | assumption
  | with_reducible exact PX.same (by assumption) (by walk_at "px")
  | fail)

local macro_rules | `(tactic| walk_at "kp") => `(tactic| first
  | with_reducible exact Kp.refl
  | with_reducible exact Kp.thenS (by assumption) (by walk_at "kp")
  | with_reducible exact Kp.thenO (by assumption) (by walk_at "ne") (by walk_at "kp")
  | fail)
local macro_rules | `(tactic| walk_at "hq") => `(tactic| first
  | assumption
  | with_reducible exact Kp.get (by assumption) (by walk_at "kp")
  | fail)
local macro_rules | `(tactic| walk_at "hg") => `(tactic| first
  | walk_at "hq"
  | exact upd_same
  | with_reducible exact (upd_ne (by walk_at "ne")).trans (by walk_at "hg")
  | with_reducible exact Same.get (by assumption) (by walk_at "hg")
  | with_reducible exact Off.get (by assumption) (by walk_at "ne") (by walk_at "hg")
  | fail)
local macro_rules | `(tactic| walk_at "ne") => `(tactic| first
  | assumption
  | (apply Ne.symm; assumption)
  | exact Rok.ne' (by assumption) (by walk_at "rok")
  | exact (Rok.ne' (by assumption) (by walk_at "rok")).symm
  | exact ne_some (by assumption) (by walk_at "hg")
  | exact (ne_some (by assumption) (by walk_at "hg")).symm
  | fail)
local macro_rules | `(tactic| walk_at "rok") => `(tactic| first
  | assumption
  | with_reducible exact Rok.kp (by assumption) (by walk_at "kp")
  | with_reducible exact Rok.same (by assumption) (by walk_at "rok")
  | fail)
local macro_rules | `(tactic| walk_at "sq") => `(tactic| first
  | assumption
  | exact Same.seq (by assumption) (by assumption)
  | (with_reducible show SqL _ _ _ _; with_reducible exact SqL.of (by walk_at "hg"))
  | (with_reducible show SqT _ _ _ _; with_reducible exact SqT.of (by walk_at "hg"))
  | fail)
local macro_rules | `(tactic| walk_at "dac") => `(tactic| first
  | assumption
  | exact DaF.same (by assumption) (by walk_at "dac")
  | fail)
local macro_rules | `(tactic| walk_at "da") => `(tactic| first
  | exact (DaF.non : DaS _ _ _ _)
  | exact (DaF.bl _ : DaS _ _ _ _)
  | exact (DaF.int _ : DaS _ _ _ _)
  | exact (DaF.str _ : DaS _ _ _ _)
  | exact DaF.non
  | exact DaF.bl _
  | exact DaF.int _
  | exact DaF.str _
  | walk_at "dac"
  | with_reducible exact DaF.lst (SqL.of (by walk_at "hq")) (fun _ => by assumption) (by walk_at "das")
  | with_reducible exact Da.lst (SqL.of (by walk_at "hq")) (by walk_at "das")
  | with_reducible exact DaF.tup (SqT.of (by walk_at "hq")) (by walk_at "das")
  | with_reducible exact DaF.dic (Rd.of (by walk_at "hq")) (by walk_at "dak")
  | fail)
local macro_rules | `(tactic| walk_at "das") => `(tactic| first
  | assumption
  | exact DaAllF.nil
  | exact DaAllF.cons (by walk_at "da") (by walk_at "das")
  | fail)
local macro_rules | `(tactic| walk_at "dak") => `(tactic| first
  | assumption
  | exact DaKvF.nil
  | exact DaKvF.cons (by walk_at "da") (by walk_at "dak")
  | fail)
local macro_rules | `(tactic| walk_at "shw") => `(tactic| first
  | assumption
  | exact shw_b2 _ _
  | exact ⟨by decide +kernel, by decide +kernel, by decide +kernel⟩
  | fail)
local macro_rules | `(tactic| walk_at "nod") => `(tactic| first
  | exact .inl rfl
  | exact .inr rfl
  | assumption
  | exact .inr (by assumption)
  | fail)
local macro_rules | `(tactic| walk_at "okd") => `(tactic| first
  | assumption
  | exact okd_of (by decide +kernel)
  | fail)
local macro_rules | `(tactic| walk_at "off") => `(tactic| first
  | assumption
  | exact Off.refl _ _
  | exact Same.refl _
  | with_reducible exact Same.thenS (by assumption) (by walk_at "off")
  | with_reducible exact Off.thenS (by assumption) (by walk_at "off")
  | with_reducible exact Off.thenO (by assumption) (by walk_at "off")
  | with_reducible exact Same.thenF (by assumption) (by assumption) (by walk_at "off") (by walk_at "off")
  | with_reducible exact Off.thenF (by assumption) (by assumption) (by walk_at "off") (by walk_at "off")
  | fail)
local macro_rules | `(tactic| walk_at "side") => `(tactic| first
  | assumption
  | omega
  | decide
  | (simp only [List.length_append, List.length_cons, List.length_nil]; decide)
  | exact ⟨by omega, by omega⟩
  | exact ⟨by omega, PyProof.noPylong_of_log2 (by first | assumption | decide)⟩
  | exact .inl ⟨by omega, by omega⟩
  | exact .inr ⟨by omega, by omega⟩
  | exact ⟨by decide, by decide, by decide⟩
  | exact ⟨by decide, by decide, by omega⟩
  | fail)
local macro_rules | `(tactic| walk_at "st") => `(tactic| first
  | with_reducible refine i_seq ?_
  | with_reducible refine i_bi ?_
  | with_reducible refine i_raise ?_
  | with_reducible refine i_callX ?_
  | with_reducible refine i_tryN ?_
  | with_reducible refine i_isNon ?_
  | with_reducible refine i_isNotNon ?_
  | ((with_reducible refine' i_split ?h ?z ?_); (case h => rfl); (case z => walk_at "side"))
  | with_reducible refine i_find ?_
  | ((with_reducible refine i_strI ?h ?_); (case h => walk_at "side"))
  | with_reducible refine i_fmt ?_
  | ((with_reducible refine i_fmS ?h ?_); (case h => walk_at "side"))
  | ((with_reducible refine i_fmI ?h ?_); (case h => walk_at "side"))
  | with_reducible refine i_jn ?_
  | with_reducible refine i_js0 ?_
  | with_reducible refine i_js1 ?_
  | ((with_reducible refine i_jsR ?h ?_); (case h => walk_at "side"))
  | with_reducible refine i_revS ?_
  | ((with_reducible refine i_exrev ?h ?_); (case h => walk_at "side"))
  | with_reducible refine i_revL ?_
  | ((with_reducible refine' i_exrevL ?h ?_); (case h => walk_at "sq"))
  | with_reducible refine i_par3 ?_
  | with_reducible refine i_ex3 ?_
  | with_reducible refine i_stB ?_
  | with_reducible refine i_mk0 ?_
  | with_reducible refine i_asg ?_
  | with_reducible refine i_c ?_
  | ((with_reducible refine' i_var ?h ?_); (case h => rfl))
  | with_reducible refine i_op ?_
  | with_reducible refine i_cons ?_
  | with_reducible refine i_nil ?_
  | ((with_reducible refine' i_gName ?h ?_); (case h => rfl))
  | with_reducible refine i_rI0 ?_
  | ((with_reducible refine i_rI ?h ?_); (case h => walk_at "side"))
  | with_reducible refine i_test ?_
  | with_reducible refine i_exbl ?_
  | with_reducible refine i_exint ?_
  | with_reducible refine i_exs ?_
  | with_reducible refine i_ret ?_
  | with_reducible refine i_next ?_
  | with_reducible refine i_ifS ?_
  | ((with_reducible refine' i_rIxL ?h ?e ?_); (case h => walk_at "sq"); (case e => first | assumption | rfl))
  | ((with_reducible refine' i_rIxT ?h ?e ?_); (case h => walk_at "sq"); (case e => first | assumption | rfl))
  | ((with_reducible refine' i_rIxS ?h ?e ?_); (case h => walk_at "side"); (case e => first | assumption | rfl))
  | with_reducible refine i_un ?_
  | with_reducible refine i_rU ?_
  | ((with_reducible refine i_rEqSame ?h ?_); (case h => rfl))
  | ((with_reducible refine i_rNeSame ?h ?_); (case h => rfl))
  | ((with_reducible refine i_rEq ?h ?_); (case h => rfl))
  | ((with_reducible refine i_rNe ?h ?_); (case h => rfl))
  | with_reducible refine i_tB ?_
  | with_reducible refine i_and ?_
  | with_reducible refine i_or ?_
  | with_reducible refine i_not ?_
  | with_reducible refine i_andV ?_
  | with_reducible refine i_orV ?_
  | with_reducible refine i_notV ?_
  | with_reducible refine i_if ?_
  | with_reducible refine i_chain ?_
  | with_reducible refine i_drop ?_
  | with_reducible refine i_retN ?_
  | with_reducible refine i_par ?_
  | with_reducible refine i_ex2 ?_
  | ((with_reducible refine' i_aug ?h ?_); (case h => rfl))
  | with_reducible refine i_gNil ?_
  | with_reducible refine i_gCons ?_
  | ((with_reducible refine' i_gTup ?h ?e ?_); (case h => walk_at "sq"); (case e => rfl))
  | with_reducible refine i_gSub ?_
  | ((with_reducible refine' i_rSetL ?h ?e ?_); (case h => walk_at "hg"); (case e => first | assumption | rfl))
  | with_reducible refine i_tup ?_
  | with_reducible refine i_lst ?_
  | with_reducible refine i_lstN ?_
  | with_reducible refine i_newDK ?_
  | with_reducible refine i_disp ?_
  | with_reducible refine i_pairs0 ?_
  | with_reducible refine i_pairs1 ?_
  | with_reducible refine i_call ?_
  | with_reducible refine i_mkV0 ?_
  | with_reducible refine i_mkW0 ?_
  | with_reducible refine i_mkX0 ?_
  | with_reducible refine i_mkY0 ?_
  | with_reducible refine i_xv0 ?_
  | with_reducible refine i_mk00 ?_
  | ((with_reducible refine' i_mkX ?h ?f ?l ?_); (case h => rfl); (case f => decide); (case l => rfl); intro _ _)
  | ((with_reducible refine' i_xvQ ?T ?n ?a ?d ?l ?_); (case a => walk_at "hg"); (case d => walk_at "hg"); (case T => assumption); (case n => assumption); (case l => rfl))
  | ((with_reducible refine' i_isVr ?T ?G ?h ?k ?_); (case h => walk_at "xi"); (case T => assumption); (case G => assumption); (case k => assumption))
  | ((with_reducible refine' i_isVt ?T ?G ?h ?k ?_); (case h => walk_at "xi"); (case T => assumption); (case G => assumption); (case k => assumption))
  | ((with_reducible refine' i_gLst ?h ?e ?_); (case h => walk_at "sq"); (case e => rfl))
  | ((with_reducible refine' i_rCatN ?h ?e ?z ?_); (case h => walk_at "hg"); (case e => walk_at "hg"); (case z => walk_at "side"))
  | ((with_reducible refine' i_rRepN ?h ?e ?z ?_); (case h => walk_at "hg"); (case e => decide); (case z => walk_at "side"))
  | with_reducible refine i_cb ?_
  | with_reducible refine i_bm ?_
  | with_reducible refine i_m1 ?_
  | with_reducible refine i_m0 ?_
  | ((with_reducible refine' i_rAppend ?h ?e ?_); (case h => walk_at "hg"); (case e => walk_at "side"))
  | ((with_reducible refine i_rSlS ?h ?_); (case h => walk_at "side"))
  | ((with_reducible refine' i_rSlL ?h ?_); (case h => walk_at "sq"))
  | with_reducible refine i_sl ?_
  | with_reducible refine i_noPart ?_
  | with_reducible refine i_part ?_
  | with_reducible refine i_rng1 ?_
  | with_reducible refine i_iList ?_
  | with_reducible refine i_iStr ?_
  | with_reducible refine i_iEnum ?_
  | with_reducible refine i_iZip ?_
  | with_reducible refine i_ez ?_
  | ((with_reducible refine' i_exen ?h ?_); (case h => walk_at "sq"))
  | ((with_reducible refine' i_exz ?h ?k ?_); (case h => walk_at "sq"); (case k => walk_at "sq"))
  | ((with_reducible refine' i_listN ?h ?_); (case h => walk_at "sq"))
  | with_reducible refine i_intB ?_
  | ((with_reducible refine' i_tyL ?h ?_); (case h => walk_at "sq"))
  | with_reducible refine i_isBl ?_
  | ((with_reducible refine i_callW ?_))
  | ((with_reducible refine i_exrng ?h1 ?h2 ?_); (case h1 => walk_at "side"); (case h2 => walk_at "side"))
  | ((with_reducible refine' i_exl ?h ?_); (case h => walk_at "sq"))
  | with_reducible refine i_for ?_
  | with_reducible refine i_lc ?_
  | with_reducible refine i_yes ?_
  | with_reducible refine i_iteT ?_
  | with_reducible refine i_iteF ?_
  | ((with_reducible refine i_divmod ?h ?_); (case h => walk_at "side"))
  | ((with_reducible refine' i_isi ?h ?e ?_); (case h => walk_at "da"); (case e => decide))
  | ((with_reducible refine i_lenS ?h ?_); (case h => walk_at "side"))
  | ((with_reducible refine' i_lenL ?h ?_); (case h => walk_at "sq"))
  | ((with_reducible refine' i_lenT ?h ?_); (case h => walk_at "sq"))
  | ((with_reducible refine' i_repr ?h ?n ?e ?_); (case h => walk_at "da"); (case n => walk_at "nod"); (case e => walk_at "shw"))
  | ((with_reducible refine' i_rCat ?h ?e ?z ?_); (case h => walk_at "hg"); (case e => walk_at "hg"); (case z => walk_at "side"))
  | ((with_reducible refine i_rCatS ?h ?_); (case h => walk_at "side"))
  | with_reducible refine i_exstr ?_
  | ((with_reducible refine' i_join ?h ?z ?_); (case h => walk_at "sq"); (case z => walk_at "side"))
  | with_reducible refine i_abs ?_
  | with_reducible refine i_max ?_
  | with_reducible refine i_min ?_
  | ((with_reducible refine' i_rAll ?h ?_); (case h => walk_at "sq"))
  | ((with_reducible refine' i_lcEl ?h ?e ?_); (case h => walk_at "hg"); (case e => walk_at "side"))
  | with_reducible refine ⟨_, _, rfl, rfl, ?_⟩
  | with_reducible refine ⟨_, _, rfl, ?_⟩
  | with_reducible refine ⟨_, rfl, ?_⟩
  | with_reducible refine And.intro rfl ?_
  | ((with_reducible refine And.intro ?h ?_); (case h => walk_at "side"))
  | fail)

theorem len2 {α : Type} : ∀ {l : List α}, l.length = 2 → ∃ a b, l = [a, b]
  | [a, b], _ => ⟨a, b, rfl⟩
/-! ### promises -/
def sp_l_draw : Sp := fun vs H Q _ => ∃ r m, vs = [.ref r, .int m] ∧ 0 < m ∧ m.natAbs.log2 < 9000 ∧ Rok H r ∧
  ∀ d H', 0 ≤ d → d < m → Rok H' r → Off r H H' → Q (.int d) H'
def sp_l_rng (K : PySem.W.Frag) : Sp := fun vs H Q _ => ∃ (s : Addr) (ns : List Int) (k : Int), vs = [.ref s, .int k] ∧ SqL K H s (ns.map V.int) ∧ 0 ≤ k ∧ k < 100 ∧ ns.length ≤ 63 ∧
  ∀ r H', H r = none → Rok H' r → Same H H' → Q (.ref r) H'
section
variable {P : Program} {w : World} {K : PySem.W.Frag} {mg : Str → Option Value} {base : Heap} {A : Ad}
theorem ok_l_draw (T : Txt K mg A) : Fg P w K mg base CX0 1 A.f_l_draw A.d_l_draw ["_law_rng_here", "_law_many"] sp_l_draw := by
  refine ok_g T.F_l_draw sc_l_draw (fun vs H Q E h => ?_) (fun cdv Ar outer s H vs Q E hr h => ?_)
  · obtain ⟨r, m, rfl, _⟩ := h; rfl
  · obtain ⟨r, m, rfl, m0, mb, ⟨a, b, hR, b0, b1⟩, q⟩ := h
    refine ⟨_, (pss_cons (ps_if (pt_cmpR op_gt (pe_ix ix_list (pv 0) pe_int (fun _ _ => rfl)) pe_int (nomark _))
(pss_cons (ps_asg (pe_callB call_divmodN (by rfl) T.m_divmod (by decide +kernel) (pa_cons (pe_ix ix_list (pv 0) pe_int (fun _ _ => rfl)) (pa_cons (pv 1) pa_nil))) (pg_tup rfl (pgs_cons (pg_sub (pv 0) pe_int set_list) (pgs_cons (pg_name (i := 2) sc_l_draw.nd rfl (.inl rfl)) pgs_nil))))
(pss_one (ps_ret (pv 2))))
pss_nil)
(pss_cons (ps_asg (pe_op op_mod (pe_op op_add (pe_op op_mul (pe_ix ix_list (pv 0) pe_int (fun _ _ => rfl)) pe_int) pe_int) pe_int) (pg_sub (pv 0) pe_int set_list))
(pss_one (ps_ret (pe_op op_mod (pe_op op_fdiv (pe_op op_mod (pe_op op_mul (pe_ix ix_list (pv 0) pe_int (fun _ _ => rfl)) (pe_ix ix_list (pv 0) pe_int (fun _ _ => rfl))) pe_int) pe_int) (pv 1)))))), ?_⟩
    repeat (walk_at "st")
    refine ite2 (fun e => ?_) (fun e => ?_)
    · repeat (walk_at "st")
      refine i_new fun p1 G1 n1 s1 e1 => ?_
      repeat (walk_at "st")
      refine i_put fun G2 o2 e2 => ?_
      repeat (walk_at "st")
      exact q _ _ (Int.emod_nonneg _ (by omega)) (Int.emod_lt_of_pos _ m0) ⟨_, _, e2, b0, b1⟩ (Off.trans (.of_same s1) o2)
    · repeat (walk_at "st")
      refine i_put fun G1 o1 e1 => ?_
      repeat (walk_at "st")
      exact q _ _ (Int.emod_nonneg _ (by omega)) (Int.emod_lt_of_pos _ m0) ⟨_, _, e1, Int.emod_nonneg _ (by decide), Int.lt_trans (Int.emod_lt_of_pos _ (by decide)) (by decide)⟩ o1
theorem atI_lt {xs : List V} {d : Int} (h0 : 0 ≤ d) (h1 : d < xs.length) : ∃ v, v ∈ xs ∧ atI xs d = some v := by
  have hd : d.toNat < xs.length := by omega
  refine ⟨xs[d.toNat], List.getElem_mem hd, ?_⟩
  unfold atI ixN
  rw [if_pos h0, if_pos h1]
  simp [hd]
theorem ok_l_rng (T : Txt K mg A) : Fg P w K mg base CX0 1 A.f_l_rng A.d_l_rng ["_law_script", "_law_k"] (sp_l_rng K) := by
  refine ok_g T.F_l_rng sc_l_rng (fun vs H Q E h => ?_) (fun cdv Ar outer s H vs Q E hr h => ?_)
  · obtain ⟨_, _, _, rfl, _⟩ := h; rfl
  · obtain ⟨s, ns, k, rfl, hS, k0, k1, hl, q⟩ := h
    refine ⟨_, (pss_cons (ps_set (i := 2) sc_l_rng.nd rfl (.inl rfl) (pe_ifExp (pt_cmpR op_lt (pv 1) (pe_callB call_lenN (by rfl) T.m_len (by decide +kernel) (pa_cons (pv 0) pa_nil)) (nomark _)) (pe_callB call_abs (by rfl) T.m_abs (by decide +kernel) (pa_cons (pe_ix ix_list (pv 0) (pv 1) (fun _ _ => rfl)) pa_nil)) pe_int))
(pss_one (ps_ret (pe_lst (pa_cons (pe_callB (call_max2 rfl) (by rfl) T.m_max (by decide +kernel) (pa_cons pe_int (pa_cons (pe_op op_sub (pv 2) (pe_op op_pow pe_int pe_int)) pa_nil))) (pa_cons (pe_op op_add (pe_op op_mod (pe_op op_pow (pe_op op_add (pe_op op_add (pe_op op_mod (pv 2) pe_int) (pe_op op_mul pe_int (pv 1))) pe_int) pe_int) pe_int) pe_int) pa_nil)))))), ?_⟩
    repeat (walk_at "st")
    refine i_ite (fun e => ?_) (fun e => ?_)
    · have e' : k < ns.length := by simpa using of_decide_eq_true e
      obtain ⟨v, hv, ev⟩ := atI_lt (xs := ns.map V.int) k0 (by simpa using e')
      obtain ⟨z, _, rfl⟩ := List.mem_map.mp hv
      repeat (walk_at "st")
      refine i_new fun p1 G1 n1 s1 e1 => ?_
      repeat (walk_at "st")
      exact q _ _ n1 ⟨_, _, e1, by omega, by omega⟩ s1
    · repeat (walk_at "st")
      refine i_new fun p1 G1 n1 s1 e1 => ?_
      repeat (walk_at "st")
      exact q _ _ n1 ⟨_, _, e1, by omega, by omega⟩ s1

/-! ### errors -/
theorem ok_InvalidNamex_initx (T : Txt K mg A) : FnOk P w K mg base CX0 1 A.f_InvalidNamex_initx A.d_InvalidNamex_initx ["self", "value"] (spI A.c_InvalidName ["value"]) := by
  refine T.F_InvalidNamex_initx.ok sc_InvalidNamex_initx (fun vs H Q E h => ?_) (fun cdv Ar outer s H vs Q E hr h => ?_)
  · obtain ⟨_, ws, rfl, hl, _⟩ := h; simp [hl]
  · obtain ⟨a, ws, rfl, hl, e, q⟩ := h
    obtain ⟨v, rfl⟩ := List.length_eq_one_iff.mp hl
    refine ⟨_, (pss_cons (ps_expr (pe_binit (by rfl) T.gX_GroupError baseV T.IB_GroupError (pa_cons (pv 0) (pa_cons (pv 1) pa_nil))))
(pss_one (ps_stB (newId := "ValueError.__new__") (initId := "ValueError.__init__") (bmB := tailOf "ValueError") (pv 0) (pv 1)))), ?_⟩
    repeat (walk_at "st")
    refine ⟨a, _, [v], rfl, by show 1 ≤ 1000; decide, T.EX_InvalidName.o, e, ?_⟩
    repeat (walk_at "st")
    refine ⟨a, _, rfl, T.EX_InvalidName.o, T.tk_InvalidName_value, .inl ⟨e, fun dx n ne => ?_⟩⟩
    exact q dx _ n ne upd_same (by rw [upd_ne ne]; exact upd_same) fun b n1 n2 => by rw [upd_ne n1, upd_ne n2]
theorem ok_InvalidVersionx_initx (T : Txt K mg A) : FnOk P w K mg base CX0 1 A.f_InvalidVersionx_initx A.d_InvalidVersionx_initx ["self", "value"] (spI A.c_InvalidVersion ["value"]) := by
  refine T.F_InvalidVersionx_initx.ok sc_InvalidVersionx_initx (fun vs H Q E h => ?_) (fun cdv Ar outer s H vs Q E hr h => ?_)
  · obtain ⟨_, ws, rfl, hl, _⟩ := h; simp [hl]
  · obtain ⟨a, ws, rfl, hl, e, q⟩ := h
    obtain ⟨v, rfl⟩ := List.length_eq_one_iff.mp hl
    refine ⟨_, (pss_cons (ps_expr (pe_binit (by rfl) T.gX_GroupError baseV T.IB_GroupError (pa_cons (pv 0) (pa_cons (pv 1) pa_nil))))
(pss_one (ps_stB (newId := "ValueError.__new__") (initId := "ValueError.__init__") (bmB := tailOf "ValueError") (pv 0) (pv 1)))), ?_⟩
    repeat (walk_at "st")
    refine ⟨a, _, [v], rfl, by show 1 ≤ 1000; decide, T.EX_InvalidVersion.o, e, ?_⟩
    repeat (walk_at "st")
    refine ⟨a, _, rfl, T.EX_InvalidVersion.o, T.tk_InvalidVersion_value, .inl ⟨e, fun dx n ne => ?_⟩⟩
    exact q dx _ n ne upd_same (by rw [upd_ne ne]; exact upd_same) fun b n1 n2 => by rw [upd_ne n1, upd_ne n2]
theorem ok_InvalidWindowx_initx (T : Txt K mg A) : FnOk P w K mg base CX0 1 A.f_InvalidWindowx_initx A.d_InvalidWindowx_initx ["self", "value"] (spI A.c_InvalidWindow ["value"]) := by
  refine T.F_InvalidWindowx_initx.ok sc_InvalidWindowx_initx (fun vs H Q E h => ?_) (fun cdv Ar outer s H vs Q E hr h => ?_)
  · obtain ⟨_, ws, rfl, hl, _⟩ := h; simp [hl]
  · obtain ⟨a, ws, rfl, hl, e, q⟩ := h
    obtain ⟨v, rfl⟩ := List.length_eq_one_iff.mp hl
    refine ⟨_, (pss_cons (ps_expr (pe_binit (by rfl) T.gX_GroupError baseV T.IB_GroupError (pa_cons (pv 0) (pa_cons (pv 1) pa_nil))))
(pss_one (ps_stB (newId := "ValueError.__new__") (initId := "ValueError.__init__") (bmB := tailOf "ValueError") (pv 0) (pv 1)))), ?_⟩
    repeat (walk_at "st")
    refine ⟨a, _, [v], rfl, by show 1 ≤ 1000; decide, T.EX_InvalidWindow.o, e, ?_⟩
    repeat (walk_at "st")
    refine ⟨a, _, rfl, T.EX_InvalidWindow.o, T.tk_InvalidWindow_value, .inl ⟨e, fun dx n ne => ?_⟩⟩
    exact q dx _ n ne upd_same (by rw [upd_ne ne]; exact upd_same) fun b n1 n2 => by rw [upd_ne n1, upd_ne n2]
theorem ok_InvalidWindowsx_initx (T : Txt K mg A) : FnOk P w K mg base CX0 1 A.f_InvalidWindowsx_initx A.d_InvalidWindowsx_initx ["self", "position"] (spI A.c_InvalidWindows ["position"]) := by
  refine T.F_InvalidWindowsx_initx.ok sc_InvalidWindowsx_initx (fun vs H Q E h => ?_) (fun cdv Ar outer s H vs Q E hr h => ?_)
  · obtain ⟨_, ws, rfl, hl, _⟩ := h; simp [hl]
  · obtain ⟨a, ws, rfl, hl, e, q⟩ := h
    obtain ⟨v, rfl⟩ := List.length_eq_one_iff.mp hl
    refine ⟨_, (pss_cons (ps_expr (pe_binit (by rfl) T.gX_GroupError baseV T.IB_GroupError (pa_cons (pv 0) (pa_cons (pv 1) pa_nil))))
(pss_one (ps_stB (newId := "ValueError.__new__") (initId := "ValueError.__init__") (bmB := tailOf "ValueError") (pv 0) (pv 1)))), ?_⟩
    repeat (walk_at "st")
    refine ⟨a, _, [v], rfl, by show 1 ≤ 1000; decide, T.EX_InvalidWindows.o, e, ?_⟩
    repeat (walk_at "st")
    refine ⟨a, _, rfl, T.EX_InvalidWindows.o, T.tk_InvalidWindows_position, .inl ⟨e, fun dx n ne => ?_⟩⟩
    exact q dx _ n ne upd_same (by rw [upd_ne ne]; exact upd_same) fun b n1 n2 => by rw [upd_ne n1, upd_ne n2]
theorem ok_InvalidUsesx_initx (T : Txt K mg A) : FnOk P w K mg base CX0 1 A.f_InvalidUsesx_initx A.d_InvalidUsesx_initx ["self", "module"] (spI A.c_InvalidUses ["module"]) := by
  refine T.F_InvalidUsesx_initx.ok sc_InvalidUsesx_initx (fun vs H Q E h => ?_) (fun cdv Ar outer s H vs Q E hr h => ?_)
  · obtain ⟨_, ws, rfl, hl, _⟩ := h; simp [hl]
  · obtain ⟨a, ws, rfl, hl, e, q⟩ := h
    obtain ⟨v, rfl⟩ := List.length_eq_one_iff.mp hl
    refine ⟨_, (pss_cons (ps_expr (pe_binit (by rfl) T.gX_GroupError baseV T.IB_GroupError (pa_cons (pv 0) (pa_cons (pv 1) pa_nil))))
(pss_one (ps_stB (newId := "ValueError.__new__") (initId := "ValueError.__init__") (bmB := tailOf "ValueError") (pv 0) (pv 1)))), ?_⟩
    repeat (walk_at "st")
    refine ⟨a, _, [v], rfl, by show 1 ≤ 1000; decide, T.EX_InvalidUses.o, e, ?_⟩
    repeat (walk_at "st")
    refine ⟨a, _, rfl, T.EX_InvalidUses.o, T.tk_InvalidUses_module, .inl ⟨e, fun dx n ne => ?_⟩⟩
    exact q dx _ n ne upd_same (by rw [upd_ne ne]; exact upd_same) fun b n1 n2 => by rw [upd_ne n1, upd_ne n2]
theorem ok_InvalidRowsx_initx (T : Txt K mg A) : FnOk P w K mg base CX0 1 A.f_InvalidRowsx_initx A.d_InvalidRowsx_initx ["self", "position"] (spI A.c_InvalidRows ["position"]) := by
  refine T.F_InvalidRowsx_initx.ok sc_InvalidRowsx_initx (fun vs H Q E h => ?_) (fun cdv Ar outer s H vs Q E hr h => ?_)
  · obtain ⟨_, ws, rfl, hl, _⟩ := h; simp [hl]
  · obtain ⟨a, ws, rfl, hl, e, q⟩ := h
    obtain ⟨v, rfl⟩ := List.length_eq_one_iff.mp hl
    refine ⟨_, (pss_cons (ps_expr (pe_binit (by rfl) T.gX_GroupError baseV T.IB_GroupError (pa_cons (pv 0) (pa_cons (pv 1) pa_nil))))
(pss_one (ps_stB (newId := "ValueError.__new__") (initId := "ValueError.__init__") (bmB := tailOf "ValueError") (pv 0) (pv 1)))), ?_⟩
    repeat (walk_at "st")
    refine ⟨a, _, [v], rfl, by show 1 ≤ 1000; decide, T.EX_InvalidRows.o, e, ?_⟩
    repeat (walk_at "st")
    refine ⟨a, _, rfl, T.EX_InvalidRows.o, T.tk_InvalidRows_position, .inl ⟨e, fun dx n ne => ?_⟩⟩
    exact q dx _ n ne upd_same (by rw [upd_ne ne]; exact upd_same) fun b n1 n2 => by rw [upd_ne n1, upd_ne n2]
theorem ok_InvalidStatex_initx (T : Txt K mg A) : FnOk P w K mg base CX0 1 A.f_InvalidStatex_initx A.d_InvalidStatex_initx ["self", "module"] (spI A.c_InvalidState ["module"]) := by
  refine T.F_InvalidStatex_initx.ok sc_InvalidStatex_initx (fun vs H Q E h => ?_) (fun cdv Ar outer s H vs Q E hr h => ?_)
  · obtain ⟨_, ws, rfl, hl, _⟩ := h; simp [hl]
  · obtain ⟨a, ws, rfl, hl, e, q⟩ := h
    obtain ⟨v, rfl⟩ := List.length_eq_one_iff.mp hl
    refine ⟨_, (pss_cons (ps_expr (pe_binit (by rfl) T.gX_GroupError baseV T.IB_GroupError (pa_cons (pv 0) (pa_cons (pv 1) pa_nil))))
(pss_one (ps_stB (newId := "ValueError.__new__") (initId := "ValueError.__init__") (bmB := tailOf "ValueError") (pv 0) (pv 1)))), ?_⟩
    repeat (walk_at "st")
    refine ⟨a, _, [v], rfl, by show 1 ≤ 1000; decide, T.EX_InvalidState.o, e, ?_⟩
    repeat (walk_at "st")
    refine ⟨a, _, rfl, T.EX_InvalidState.o, T.tk_InvalidState_module, .inl ⟨e, fun dx n ne => ?_⟩⟩
    exact q dx _ n ne upd_same (by rw [upd_ne ne]; exact upd_same) fun b n1 n2 => by rw [upd_ne n1, upd_ne n2]
theorem ok_InvalidDemandx_initx (T : Txt K mg A) : FnOk P w K mg base CX0 1 A.f_InvalidDemandx_initx A.d_InvalidDemandx_initx ["self", "value"] (spI A.c_InvalidDemand ["value"]) := by
  refine T.F_InvalidDemandx_initx.ok sc_InvalidDemandx_initx (fun vs H Q E h => ?_) (fun cdv Ar outer s H vs Q E hr h => ?_)
  · obtain ⟨_, ws, rfl, hl, _⟩ := h; simp [hl]
  · obtain ⟨a, ws, rfl, hl, e, q⟩ := h
    obtain ⟨v, rfl⟩ := List.length_eq_one_iff.mp hl
    refine ⟨_, (pss_cons (ps_expr (pe_binit (by rfl) T.gX_GroupError baseV T.IB_GroupError (pa_cons (pv 0) (pa_cons (pv 1) pa_nil))))
(pss_one (ps_stB (newId := "ValueError.__new__") (initId := "ValueError.__init__") (bmB := tailOf "ValueError") (pv 0) (pv 1)))), ?_⟩
    repeat (walk_at "st")
    refine ⟨a, _, [v], rfl, by show 1 ≤ 1000; decide, T.EX_InvalidDemand.o, e, ?_⟩
    repeat (walk_at "st")
    refine ⟨a, _, rfl, T.EX_InvalidDemand.o, T.tk_InvalidDemand_value, .inl ⟨e, fun dx n ne => ?_⟩⟩
    exact q dx _ n ne upd_same (by rw [upd_ne ne]; exact upd_same) fun b n1 n2 => by rw [upd_ne n1, upd_ne n2]
theorem ok_InvalidGoalsx_initx (T : Txt K mg A) : FnOk P w K mg base CX0 1 A.f_InvalidGoalsx_initx A.d_InvalidGoalsx_initx ["self", "position"] (spI A.c_InvalidGoals ["position"]) := by
  refine T.F_InvalidGoalsx_initx.ok sc_InvalidGoalsx_initx (fun vs H Q E h => ?_) (fun cdv Ar outer s H vs Q E hr h => ?_)
  · obtain ⟨_, ws, rfl, hl, _⟩ := h; simp [hl]
  · obtain ⟨a, ws, rfl, hl, e, q⟩ := h
    obtain ⟨v, rfl⟩ := List.length_eq_one_iff.mp hl
    refine ⟨_, (pss_cons (ps_expr (pe_binit (by rfl) T.gX_GroupError baseV T.IB_GroupError (pa_cons (pv 0) (pa_cons (pv 1) pa_nil))))
(pss_one (ps_stB (newId := "ValueError.__new__") (initId := "ValueError.__init__") (bmB := tailOf "ValueError") (pv 0) (pv 1)))), ?_⟩
    repeat (walk_at "st")
    refine ⟨a, _, [v], rfl, by show 1 ≤ 1000; decide, T.EX_InvalidGoals.o, e, ?_⟩
    repeat (walk_at "st")
    refine ⟨a, _, rfl, T.EX_InvalidGoals.o, T.tk_InvalidGoals_position, .inl ⟨e, fun dx n ne => ?_⟩⟩
    exact q dx _ n ne upd_same (by rw [upd_ne ne]; exact upd_same) fun b n1 n2 => by rw [upd_ne n1, upd_ne n2]
theorem ok_InvalidStepx_initx (T : Txt K mg A) : FnOk P w K mg base CX0 1 A.f_InvalidStepx_initx A.d_InvalidStepx_initx ["self", "value"] (spI A.c_InvalidStep ["value"]) := by
  refine T.F_InvalidStepx_initx.ok sc_InvalidStepx_initx (fun vs H Q E h => ?_) (fun cdv Ar outer s H vs Q E hr h => ?_)
  · obtain ⟨_, ws, rfl, hl, _⟩ := h; simp [hl]
  · obtain ⟨a, ws, rfl, hl, e, q⟩ := h
    obtain ⟨v, rfl⟩ := List.length_eq_one_iff.mp hl
    refine ⟨_, (pss_cons (ps_expr (pe_binit (by rfl) T.gX_GroupError baseV T.IB_GroupError (pa_cons (pv 0) (pa_cons (pv 1) pa_nil))))
(pss_one (ps_stB (newId := "ValueError.__new__") (initId := "ValueError.__init__") (bmB := tailOf "ValueError") (pv 0) (pv 1)))), ?_⟩
    repeat (walk_at "st")
    refine ⟨a, _, [v], rfl, by show 1 ≤ 1000; decide, T.EX_InvalidStep.o, e, ?_⟩
    repeat (walk_at "st")
    refine ⟨a, _, rfl, T.EX_InvalidStep.o, T.tk_InvalidStep_value, .inl ⟨e, fun dx n ne => ?_⟩⟩
    exact q dx _ n ne upd_same (by rw [upd_ne ne]; exact upd_same) fun b n1 n2 => by rw [upd_ne n1, upd_ne n2]
theorem ok_InvalidStepsx_initx (T : Txt K mg A) : FnOk P w K mg base CX0 1 A.f_InvalidStepsx_initx A.d_InvalidStepsx_initx ["self", "position"] (spI A.c_InvalidSteps ["position"]) := by
  refine T.F_InvalidStepsx_initx.ok sc_InvalidStepsx_initx (fun vs H Q E h => ?_) (fun cdv Ar outer s H vs Q E hr h => ?_)
  · obtain ⟨_, ws, rfl, hl, _⟩ := h; simp [hl]
  · obtain ⟨a, ws, rfl, hl, e, q⟩ := h
    obtain ⟨v, rfl⟩ := List.length_eq_one_iff.mp hl
    refine ⟨_, (pss_cons (ps_expr (pe_binit (by rfl) T.gX_GroupError baseV T.IB_GroupError (pa_cons (pv 0) (pa_cons (pv 1) pa_nil))))
(pss_one (ps_stB (newId := "ValueError.__new__") (initId := "ValueError.__init__") (bmB := tailOf "ValueError") (pv 0) (pv 1)))), ?_⟩
    repeat (walk_at "st")
    refine ⟨a, _, [v], rfl, by show 1 ≤ 1000; decide, T.EX_InvalidSteps.o, e, ?_⟩
    repeat (walk_at "st")
    refine ⟨a, _, rfl, T.EX_InvalidSteps.o, T.tk_InvalidSteps_position, .inl ⟨e, fun dx n ne => ?_⟩⟩
    exact q dx _ n ne upd_same (by rw [upd_ne ne]; exact upd_same) fun b n1 n2 => by rw [upd_ne n1, upd_ne n2]
theorem ok_InvalidCountx_initx (T : Txt K mg A) : FnOk P w K mg base CX0 1 A.f_InvalidCountx_initx A.d_InvalidCountx_initx ["self", "value"] (spI A.c_InvalidCount ["value"]) := by
  refine T.F_InvalidCountx_initx.ok sc_InvalidCountx_initx (fun vs H Q E h => ?_) (fun cdv Ar outer s H vs Q E hr h => ?_)
  · obtain ⟨_, ws, rfl, hl, _⟩ := h; simp [hl]
  · obtain ⟨a, ws, rfl, hl, e, q⟩ := h
    obtain ⟨v, rfl⟩ := List.length_eq_one_iff.mp hl
    refine ⟨_, (pss_cons (ps_expr (pe_binit (by rfl) T.gX_GroupError baseV T.IB_GroupError (pa_cons (pv 0) (pa_cons (pv 1) pa_nil))))
(pss_one (ps_stB (newId := "ValueError.__new__") (initId := "ValueError.__init__") (bmB := tailOf "ValueError") (pv 0) (pv 1)))), ?_⟩
    repeat (walk_at "st")
    refine ⟨a, _, [v], rfl, by show 1 ≤ 1000; decide, T.EX_InvalidCount.o, e, ?_⟩
    repeat (walk_at "st")
    refine ⟨a, _, rfl, T.EX_InvalidCount.o, T.tk_InvalidCount_value, .inl ⟨e, fun dx n ne => ?_⟩⟩
    exact q dx _ n ne upd_same (by rw [upd_ne ne]; exact upd_same) fun b n1 n2 => by rw [upd_ne n1, upd_ne n2]
theorem ok_InvalidTextx_initx (T : Txt K mg A) : FnOk P w K mg base CX0 1 A.f_InvalidTextx_initx A.d_InvalidTextx_initx ["self", "line"] (spI A.c_InvalidText ["line"]) := by
  refine T.F_InvalidTextx_initx.ok sc_InvalidTextx_initx (fun vs H Q E h => ?_) (fun cdv Ar outer s H vs Q E hr h => ?_)
  · obtain ⟨_, ws, rfl, hl, _⟩ := h; simp [hl]
  · obtain ⟨a, ws, rfl, hl, e, q⟩ := h
    obtain ⟨v, rfl⟩ := List.length_eq_one_iff.mp hl
    refine ⟨_, (pss_cons (ps_expr (pe_binit (by rfl) T.gX_GroupError baseV T.IB_GroupError (pa_cons (pv 0) (pa_cons (pv 1) pa_nil))))
(pss_one (ps_stB (newId := "ValueError.__new__") (initId := "ValueError.__init__") (bmB := tailOf "ValueError") (pv 0) (pv 1)))), ?_⟩
    repeat (walk_at "st")
    refine ⟨a, _, [v], rfl, by show 1 ≤ 1000; decide, T.EX_InvalidText.o, e, ?_⟩
    repeat (walk_at "st")
    refine ⟨a, _, rfl, T.EX_InvalidText.o, T.tk_InvalidText_line, .inl ⟨e, fun dx n ne => ?_⟩⟩
    exact q dx _ n ne upd_same (by rw [upd_ne ne]; exact upd_same) fun b n1 n2 => by rw [upd_ne n1, upd_ne n2]
theorem ok_InvalidEntryx_initx (T : Txt K mg A) : FnOk P w K mg base CX0 1 A.f_InvalidEntryx_initx A.d_InvalidEntryx_initx ["self", "value"] (spI A.c_InvalidEntry ["value"]) := by
  refine T.F_InvalidEntryx_initx.ok sc_InvalidEntryx_initx (fun vs H Q E h => ?_) (fun cdv Ar outer s H vs Q E hr h => ?_)
  · obtain ⟨_, ws, rfl, hl, _⟩ := h; simp [hl]
  · obtain ⟨a, ws, rfl, hl, e, q⟩ := h
    obtain ⟨v, rfl⟩ := List.length_eq_one_iff.mp hl
    refine ⟨_, (pss_cons (ps_expr (pe_binit (by rfl) T.gX_GroupError baseV T.IB_GroupError (pa_cons (pv 0) (pa_cons (pv 1) pa_nil))))
(pss_one (ps_stB (newId := "ValueError.__new__") (initId := "ValueError.__init__") (bmB := tailOf "ValueError") (pv 0) (pv 1)))), ?_⟩
    repeat (walk_at "st")
    refine ⟨a, _, [v], rfl, by show 1 ≤ 1000; decide, T.EX_InvalidEntry.o, e, ?_⟩
    repeat (walk_at "st")
    refine ⟨a, _, rfl, T.EX_InvalidEntry.o, T.tk_InvalidEntry_value, .inl ⟨e, fun dx n ne => ?_⟩⟩
    exact q dx _ n ne upd_same (by rw [upd_ne ne]; exact upd_same) fun b n1 n2 => by rw [upd_ne n1, upd_ne n2]
theorem ok_UnknownModulex_initx (T : Txt K mg A) : FnOk P w K mg base CX0 1 A.f_UnknownModulex_initx A.d_UnknownModulex_initx ["self", "value"] (spI A.c_UnknownModule ["value"]) := by
  refine T.F_UnknownModulex_initx.ok sc_UnknownModulex_initx (fun vs H Q E h => ?_) (fun cdv Ar outer s H vs Q E hr h => ?_)
  · obtain ⟨_, ws, rfl, hl, _⟩ := h; simp [hl]
  · obtain ⟨a, ws, rfl, hl, e, q⟩ := h
    obtain ⟨v, rfl⟩ := List.length_eq_one_iff.mp hl
    refine ⟨_, (pss_cons (ps_expr (pe_binit (by rfl) T.gX_Missing baseL T.IB_Missing (pa_cons (pv 0) (pa_cons (pv 1) pa_nil))))
(pss_one (ps_stB (newId := "LookupError.__new__") (initId := "LookupError.__init__") (bmB := tailOf "LookupError") (pv 0) (pv 1)))), ?_⟩
    repeat (walk_at "st")
    refine ⟨a, _, [v], rfl, by show 1 ≤ 1000; decide, T.EX_UnknownModule.o, e, ?_⟩
    repeat (walk_at "st")
    refine ⟨a, _, rfl, T.EX_UnknownModule.o, T.tk_UnknownModule_value, .inl ⟨e, fun dx n ne => ?_⟩⟩
    exact q dx _ n ne upd_same (by rw [upd_ne ne]; exact upd_same) fun b n1 n2 => by rw [upd_ne n1, upd_ne n2]
theorem ok_UnknownUsex_initx (T : Txt K mg A) : FnOk P w K mg base CX0 1 A.f_UnknownUsex_initx A.d_UnknownUsex_initx ["self", "user", "used"] (spI A.c_UnknownUse ["user", "used"]) := by
  refine T.F_UnknownUsex_initx.ok sc_UnknownUsex_initx (fun vs H Q E h => ?_) (fun cdv Ar outer s H vs Q E hr h => ?_)
  · obtain ⟨_, ws, rfl, hl, _⟩ := h; simp [hl]
  · obtain ⟨a, ws, rfl, hl, e, q⟩ := h
    obtain ⟨v, u, rfl⟩ := len2 hl
    refine ⟨_, (pss_cons (ps_expr (pe_binit (by rfl) T.gX_Missing baseL T.IB_Missing (pa_cons (pv 0) (pa_cons (pv 1) (pa_cons (pv 2) pa_nil)))))
(pss_cons (ps_stB (newId := "LookupError.__new__") (initId := "LookupError.__init__") (bmB := tailOf "LookupError") (pv 0) (pv 1))
(pss_one (ps_stB (newId := "LookupError.__new__") (initId := "LookupError.__init__") (bmB := tailOf "LookupError") (pv 0) (pv 2))))), ?_⟩
    repeat (walk_at "st")
    refine ⟨a, _, [v, u], rfl, by show 2 ≤ 1000; decide, T.EX_UnknownUse.o, e, ?_⟩
    repeat (walk_at "st")
    refine ⟨a, _, rfl, T.EX_UnknownUse.o, T.tk_UnknownUse_user, .inl ⟨e, fun dx n ne => ?_⟩⟩
    repeat (walk_at "st")
    refine ⟨a, _, rfl, T.EX_UnknownUse.o, T.tk_UnknownUse_used, .inr ⟨dx, _, upd_same, by rw [upd_ne ne]; exact upd_same, by show 1 ≤ 900; decide, ?_⟩⟩
    exact q dx _ n ne (by rw [upd_ne ne.symm]; exact upd_same) upd_same fun b n1 n2 => by rw [upd_ne n2, upd_ne n1, upd_ne n2]
theorem ok_UnknownVersionx_initx (T : Txt K mg A) : FnOk P w K mg base CX0 1 A.f_UnknownVersionx_initx A.d_UnknownVersionx_initx ["self", "module", "version"] (spI A.c_UnknownVersion ["module", "version"]) := by
  refine T.F_UnknownVersionx_initx.ok sc_UnknownVersionx_initx (fun vs H Q E h => ?_) (fun cdv Ar outer s H vs Q E hr h => ?_)
  · obtain ⟨_, ws, rfl, hl, _⟩ := h; simp [hl]
  · obtain ⟨a, ws, rfl, hl, e, q⟩ := h
    obtain ⟨v, u, rfl⟩ := len2 hl
    refine ⟨_, (pss_cons (ps_expr (pe_binit (by rfl) T.gX_Missing baseL T.IB_Missing (pa_cons (pv 0) (pa_cons (pv 1) (pa_cons (pv 2) pa_nil)))))
(pss_cons (ps_stB (newId := "LookupError.__new__") (initId := "LookupError.__init__") (bmB := tailOf "LookupError") (pv 0) (pv 1))
(pss_one (ps_stB (newId := "LookupError.__new__") (initId := "LookupError.__init__") (bmB := tailOf "LookupError") (pv 0) (pv 2))))), ?_⟩
    repeat (walk_at "st")
    refine ⟨a, _, [v, u], rfl, by show 2 ≤ 1000; decide, T.EX_UnknownVersion.o, e, ?_⟩
    repeat (walk_at "st")
    refine ⟨a, _, rfl, T.EX_UnknownVersion.o, T.tk_UnknownVersion_module, .inl ⟨e, fun dx n ne => ?_⟩⟩
    repeat (walk_at "st")
    refine ⟨a, _, rfl, T.EX_UnknownVersion.o, T.tk_UnknownVersion_version, .inr ⟨dx, _, upd_same, by rw [upd_ne ne]; exact upd_same, by show 1 ≤ 900; decide, ?_⟩⟩
    exact q dx _ n ne (by rw [upd_ne ne.symm]; exact upd_same) upd_same fun b n1 n2 => by rw [upd_ne n2, upd_ne n1, upd_ne n2]
theorem ok_UnknownOperatorx_initx (T : Txt K mg A) : FnOk P w K mg base CX0 1 A.f_UnknownOperatorx_initx A.d_UnknownOperatorx_initx ["self", "value"] (spI A.c_UnknownOperator ["value"]) := by
  refine T.F_UnknownOperatorx_initx.ok sc_UnknownOperatorx_initx (fun vs H Q E h => ?_) (fun cdv Ar outer s H vs Q E hr h => ?_)
  · obtain ⟨_, ws, rfl, hl, _⟩ := h; simp [hl]
  · obtain ⟨a, ws, rfl, hl, e, q⟩ := h
    obtain ⟨v, rfl⟩ := List.length_eq_one_iff.mp hl
    refine ⟨_, (pss_cons (ps_expr (pe_binit (by rfl) T.gX_Missing baseL T.IB_Missing (pa_cons (pv 0) (pa_cons (pv 1) pa_nil))))
(pss_one (ps_stB (newId := "LookupError.__new__") (initId := "LookupError.__init__") (bmB := tailOf "LookupError") (pv 0) (pv 1)))), ?_⟩
    repeat (walk_at "st")
    refine ⟨a, _, [v], rfl, by show 1 ≤ 1000; decide, T.EX_UnknownOperator.o, e, ?_⟩
    repeat (walk_at "st")
    refine ⟨a, _, rfl, T.EX_UnknownOperator.o, T.tk_UnknownOperator_value, .inl ⟨e, fun dx n ne => ?_⟩⟩
    exact q dx _ n ne upd_same (by rw [upd_ne ne]; exact upd_same) fun b n1 n2 => by rw [upd_ne n1, upd_ne n2]
theorem ok_UnknownSessionx_initx (T : Txt K mg A) : FnOk P w K mg base CX0 1 A.f_UnknownSessionx_initx A.d_UnknownSessionx_initx ["self", "value"] (spI A.c_UnknownSession ["value"]) := by
  refine T.F_UnknownSessionx_initx.ok sc_UnknownSessionx_initx (fun vs H Q E h => ?_) (fun cdv Ar outer s H vs Q E hr h => ?_)
  · obtain ⟨_, ws, rfl, hl, _⟩ := h; simp [hl]
  · obtain ⟨a, ws, rfl, hl, e, q⟩ := h
    obtain ⟨v, rfl⟩ := List.length_eq_one_iff.mp hl
    refine ⟨_, (pss_cons (ps_expr (pe_binit (by rfl) T.gX_Missing baseL T.IB_Missing (pa_cons (pv 0) (pa_cons (pv 1) pa_nil))))
(pss_one (ps_stB (newId := "LookupError.__new__") (initId := "LookupError.__init__") (bmB := tailOf "LookupError") (pv 0) (pv 1)))), ?_⟩
    repeat (walk_at "st")
    refine ⟨a, _, [v], rfl, by show 1 ≤ 1000; decide, T.EX_UnknownSession.o, e, ?_⟩
    repeat (walk_at "st")
    refine ⟨a, _, rfl, T.EX_UnknownSession.o, T.tk_UnknownSession_value, .inl ⟨e, fun dx n ne => ?_⟩⟩
    exact q dx _ n ne upd_same (by rw [upd_ne ne]; exact upd_same) fun b n1 n2 => by rw [upd_ne n1, upd_ne n2]
theorem ok_NotRisingx_initx (T : Txt K mg A) : FnOk P w K mg base CX0 1 A.f_NotRisingx_initx A.d_NotRisingx_initx ["self", "user", "used"] (spI A.c_NotRising ["user", "used"]) := by
  refine T.F_NotRisingx_initx.ok sc_NotRisingx_initx (fun vs H Q E h => ?_) (fun cdv Ar outer s H vs Q E hr h => ?_)
  · obtain ⟨_, ws, rfl, hl, _⟩ := h; simp [hl]
  · obtain ⟨a, ws, rfl, hl, e, q⟩ := h
    obtain ⟨v, u, rfl⟩ := len2 hl
    refine ⟨_, (pss_cons (ps_expr (pe_binit (by rfl) T.gX_Refused baseR T.IB_Refused (pa_cons (pv 0) (pa_cons (pv 1) (pa_cons (pv 2) pa_nil)))))
(pss_cons (ps_stB (newId := "RuntimeError.__new__") (initId := "RuntimeError.__init__") (bmB := tailOf "RuntimeError") (pv 0) (pv 1))
(pss_one (ps_stB (newId := "RuntimeError.__new__") (initId := "RuntimeError.__init__") (bmB := tailOf "RuntimeError") (pv 0) (pv 2))))), ?_⟩
    repeat (walk_at "st")
    refine ⟨a, _, [v, u], rfl, by show 2 ≤ 1000; decide, T.EX_NotRising.o, e, ?_⟩
    repeat (walk_at "st")
    refine ⟨a, _, rfl, T.EX_NotRising.o, T.tk_NotRising_user, .inl ⟨e, fun dx n ne => ?_⟩⟩
    repeat (walk_at "st")
    refine ⟨a, _, rfl, T.EX_NotRising.o, T.tk_NotRising_used, .inr ⟨dx, _, upd_same, by rw [upd_ne ne]; exact upd_same, by show 1 ≤ 900; decide, ?_⟩⟩
    exact q dx _ n ne (by rw [upd_ne ne.symm]; exact upd_same) upd_same fun b n1 n2 => by rw [upd_ne n2, upd_ne n1, upd_ne n2]
theorem ok_NotConsistentx_initx (T : Txt K mg A) : FnOk P w K mg base CX0 1 A.f_NotConsistentx_initx A.d_NotConsistentx_initx ["self", "user", "used"] (spI A.c_NotConsistent ["user", "used"]) := by
  refine T.F_NotConsistentx_initx.ok sc_NotConsistentx_initx (fun vs H Q E h => ?_) (fun cdv Ar outer s H vs Q E hr h => ?_)
  · obtain ⟨_, ws, rfl, hl, _⟩ := h; simp [hl]
  · obtain ⟨a, ws, rfl, hl, e, q⟩ := h
    obtain ⟨v, u, rfl⟩ := len2 hl
    refine ⟨_, (pss_cons (ps_expr (pe_binit (by rfl) T.gX_Refused baseR T.IB_Refused (pa_cons (pv 0) (pa_cons (pv 1) (pa_cons (pv 2) pa_nil)))))
(pss_cons (ps_stB (newId := "RuntimeError.__new__") (initId := "RuntimeError.__init__") (bmB := tailOf "RuntimeError") (pv 0) (pv 1))
(pss_one (ps_stB (newId := "RuntimeError.__new__") (initId := "RuntimeError.__init__") (bmB := tailOf "RuntimeError") (pv 0) (pv 2))))), ?_⟩
    repeat (walk_at "st")
    refine ⟨a, _, [v, u], rfl, by show 2 ≤ 1000; decide, T.EX_NotConsistent.o, e, ?_⟩
    repeat (walk_at "st")
    refine ⟨a, _, rfl, T.EX_NotConsistent.o, T.tk_NotConsistent_user, .inl ⟨e, fun dx n ne => ?_⟩⟩
    repeat (walk_at "st")
    refine ⟨a, _, rfl, T.EX_NotConsistent.o, T.tk_NotConsistent_used, .inr ⟨dx, _, upd_same, by rw [upd_ne ne]; exact upd_same, by show 1 ≤ 900; decide, ?_⟩⟩
    exact q dx _ n ne (by rw [upd_ne ne.symm]; exact upd_same) upd_same fun b n1 n2 => by rw [upd_ne n2, upd_ne n1, upd_ne n2]
theorem ok_NotBelowx_initx (T : Txt K mg A) : FnOk P w K mg base CX0 1 A.f_NotBelowx_initx A.d_NotBelowx_initx ["self", "module"] (spI A.c_NotBelow ["module"]) := by
  refine T.F_NotBelowx_initx.ok sc_NotBelowx_initx (fun vs H Q E h => ?_) (fun cdv Ar outer s H vs Q E hr h => ?_)
  · obtain ⟨_, ws, rfl, hl, _⟩ := h; simp [hl]
  · obtain ⟨a, ws, rfl, hl, e, q⟩ := h
    obtain ⟨v, rfl⟩ := List.length_eq_one_iff.mp hl
    refine ⟨_, (pss_cons (ps_expr (pe_binit (by rfl) T.gX_Refused baseR T.IB_Refused (pa_cons (pv 0) (pa_cons (pv 1) pa_nil))))
(pss_one (ps_stB (newId := "RuntimeError.__new__") (initId := "RuntimeError.__init__") (bmB := tailOf "RuntimeError") (pv 0) (pv 1)))), ?_⟩
    repeat (walk_at "st")
    refine ⟨a, _, [v], rfl, by show 1 ≤ 1000; decide, T.EX_NotBelow.o, e, ?_⟩
    repeat (walk_at "st")
    refine ⟨a, _, rfl, T.EX_NotBelow.o, T.tk_NotBelow_module, .inl ⟨e, fun dx n ne => ?_⟩⟩
    exact q dx _ n ne upd_same (by rw [upd_ne ne]; exact upd_same) fun b n1 n2 => by rw [upd_ne n1, upd_ne n2]
theorem ok_CannotMeetx_initx (T : Txt K mg A) : FnOk P w K mg base CX0 1 A.f_CannotMeetx_initx A.d_CannotMeetx_initx ["self", "module", "version"] (spI A.c_CannotMeet ["module", "version"]) := by
  refine T.F_CannotMeetx_initx.ok sc_CannotMeetx_initx (fun vs H Q E h => ?_) (fun cdv Ar outer s H vs Q E hr h => ?_)
  · obtain ⟨_, ws, rfl, hl, _⟩ := h; simp [hl]
  · obtain ⟨a, ws, rfl, hl, e, q⟩ := h
    obtain ⟨v, u, rfl⟩ := len2 hl
    refine ⟨_, (pss_cons (ps_expr (pe_binit (by rfl) T.gX_Refused baseR T.IB_Refused (pa_cons (pv 0) (pa_cons (pv 1) (pa_cons (pv 2) pa_nil)))))
(pss_cons (ps_stB (newId := "RuntimeError.__new__") (initId := "RuntimeError.__init__") (bmB := tailOf "RuntimeError") (pv 0) (pv 1))
(pss_one (ps_stB (newId := "RuntimeError.__new__") (initId := "RuntimeError.__init__") (bmB := tailOf "RuntimeError") (pv 0) (pv 2))))), ?_⟩
    repeat (walk_at "st")
    refine ⟨a, _, [v, u], rfl, by show 2 ≤ 1000; decide, T.EX_CannotMeet.o, e, ?_⟩
    repeat (walk_at "st")
    refine ⟨a, _, rfl, T.EX_CannotMeet.o, T.tk_CannotMeet_module, .inl ⟨e, fun dx n ne => ?_⟩⟩
    repeat (walk_at "st")
    refine ⟨a, _, rfl, T.EX_CannotMeet.o, T.tk_CannotMeet_version, .inr ⟨dx, _, upd_same, by rw [upd_ne ne]; exact upd_same, by show 1 ≤ 900; decide, ?_⟩⟩
    exact q dx _ n ne (by rw [upd_ne ne.symm]; exact upd_same) upd_same fun b n1 n2 => by rw [upd_ne n2, upd_ne n1, upd_ne n2]
theorem ok_NoStepx_initx (T : Txt K mg A) : FnOk P w K mg base CX0 1 A.f_NoStepx_initx A.d_NoStepx_initx ["self", "module", "version"] (spI A.c_NoStep ["module", "version"]) := by
  refine T.F_NoStepx_initx.ok sc_NoStepx_initx (fun vs H Q E h => ?_) (fun cdv Ar outer s H vs Q E hr h => ?_)
  · obtain ⟨_, ws, rfl, hl, _⟩ := h; simp [hl]
  · obtain ⟨a, ws, rfl, hl, e, q⟩ := h
    obtain ⟨v, u, rfl⟩ := len2 hl
    refine ⟨_, (pss_cons (ps_expr (pe_binit (by rfl) T.gX_Refused baseR T.IB_Refused (pa_cons (pv 0) (pa_cons (pv 1) (pa_cons (pv 2) pa_nil)))))
(pss_cons (ps_stB (newId := "RuntimeError.__new__") (initId := "RuntimeError.__init__") (bmB := tailOf "RuntimeError") (pv 0) (pv 1))
(pss_one (ps_stB (newId := "RuntimeError.__new__") (initId := "RuntimeError.__init__") (bmB := tailOf "RuntimeError") (pv 0) (pv 2))))), ?_⟩
    repeat (walk_at "st")
    refine ⟨a, _, [v, u], rfl, by show 2 ≤ 1000; decide, T.EX_NoStep.o, e, ?_⟩
    repeat (walk_at "st")
    refine ⟨a, _, rfl, T.EX_NoStep.o, T.tk_NoStep_module, .inl ⟨e, fun dx n ne => ?_⟩⟩
    repeat (walk_at "st")
    refine ⟨a, _, rfl, T.EX_NoStep.o, T.tk_NoStep_version, .inr ⟨dx, _, upd_same, by rw [upd_ne ne]; exact upd_same, by show 1 ≤ 900; decide, ?_⟩⟩
    exact q dx _ n ne (by rw [upd_ne ne.symm]; exact upd_same) upd_same fun b n1 n2 => by rw [upd_ne n2, upd_ne n1, upd_ne n2]
theorem ok_MissingNeedx_initx (T : Txt K mg A) : FnOk P w K mg base CX0 1 A.f_MissingNeedx_initx A.d_MissingNeedx_initx ["self", "step"] (spI A.c_MissingNeed ["step"]) := by
  refine T.F_MissingNeedx_initx.ok sc_MissingNeedx_initx (fun vs H Q E h => ?_) (fun cdv Ar outer s H vs Q E hr h => ?_)
  · obtain ⟨_, ws, rfl, hl, _⟩ := h; simp [hl]
  · obtain ⟨a, ws, rfl, hl, e, q⟩ := h
    obtain ⟨v, rfl⟩ := List.length_eq_one_iff.mp hl
    refine ⟨_, (pss_cons (ps_expr (pe_binit (by rfl) T.gX_Refused baseR T.IB_Refused (pa_cons (pv 0) (pa_cons (pv 1) pa_nil))))
(pss_one (ps_stB (newId := "RuntimeError.__new__") (initId := "RuntimeError.__init__") (bmB := tailOf "RuntimeError") (pv 0) (pv 1)))), ?_⟩
    repeat (walk_at "st")
    refine ⟨a, _, [v], rfl, by show 1 ≤ 1000; decide, T.EX_MissingNeed.o, e, ?_⟩
    repeat (walk_at "st")
    refine ⟨a, _, rfl, T.EX_MissingNeed.o, T.tk_MissingNeed_step, .inl ⟨e, fun dx n ne => ?_⟩⟩
    exact q dx _ n ne upd_same (by rw [upd_ne ne]; exact upd_same) fun b n1 n2 => by rw [upd_ne n1, upd_ne n2]
theorem ok_NotAvailablex_initx (T : Txt K mg A) : FnOk P w K mg base CX0 1 A.f_NotAvailablex_initx A.d_NotAvailablex_initx ["self", "step"] (spI A.c_NotAvailable ["step"]) := by
  refine T.F_NotAvailablex_initx.ok sc_NotAvailablex_initx (fun vs H Q E h => ?_) (fun cdv Ar outer s H vs Q E hr h => ?_)
  · obtain ⟨_, ws, rfl, hl, _⟩ := h; simp [hl]
  · obtain ⟨a, ws, rfl, hl, e, q⟩ := h
    obtain ⟨v, rfl⟩ := List.length_eq_one_iff.mp hl
    refine ⟨_, (pss_cons (ps_expr (pe_binit (by rfl) T.gX_Refused baseR T.IB_Refused (pa_cons (pv 0) (pa_cons (pv 1) pa_nil))))
(pss_one (ps_stB (newId := "RuntimeError.__new__") (initId := "RuntimeError.__init__") (bmB := tailOf "RuntimeError") (pv 0) (pv 1)))), ?_⟩
    repeat (walk_at "st")
    refine ⟨a, _, [v], rfl, by show 1 ≤ 1000; decide, T.EX_NotAvailable.o, e, ?_⟩
    repeat (walk_at "st")
    refine ⟨a, _, rfl, T.EX_NotAvailable.o, T.tk_NotAvailable_step, .inl ⟨e, fun dx n ne => ?_⟩⟩
    exact q dx _ n ne upd_same (by rw [upd_ne ne]; exact upd_same) fun b n1 n2 => by rw [upd_ne n1, upd_ne n2]
theorem ok_Pinnedx_initx (T : Txt K mg A) : FnOk P w K mg base CX0 1 A.f_Pinnedx_initx A.d_Pinnedx_initx ["self", "module", "version"] (spI A.c_Pinned ["module", "version"]) := by
  refine T.F_Pinnedx_initx.ok sc_Pinnedx_initx (fun vs H Q E h => ?_) (fun cdv Ar outer s H vs Q E hr h => ?_)
  · obtain ⟨_, ws, rfl, hl, _⟩ := h; simp [hl]
  · obtain ⟨a, ws, rfl, hl, e, q⟩ := h
    obtain ⟨v, u, rfl⟩ := len2 hl
    refine ⟨_, (pss_cons (ps_expr (pe_binit (by rfl) T.gX_Refused baseR T.IB_Refused (pa_cons (pv 0) (pa_cons (pv 1) (pa_cons (pv 2) pa_nil)))))
(pss_cons (ps_stB (newId := "RuntimeError.__new__") (initId := "RuntimeError.__init__") (bmB := tailOf "RuntimeError") (pv 0) (pv 1))
(pss_one (ps_stB (newId := "RuntimeError.__new__") (initId := "RuntimeError.__init__") (bmB := tailOf "RuntimeError") (pv 0) (pv 2))))), ?_⟩
    repeat (walk_at "st")
    refine ⟨a, _, [v, u], rfl, by show 2 ≤ 1000; decide, T.EX_Pinned.o, e, ?_⟩
    repeat (walk_at "st")
    refine ⟨a, _, rfl, T.EX_Pinned.o, T.tk_Pinned_module, .inl ⟨e, fun dx n ne => ?_⟩⟩
    repeat (walk_at "st")
    refine ⟨a, _, rfl, T.EX_Pinned.o, T.tk_Pinned_version, .inr ⟨dx, _, upd_same, by rw [upd_ne ne]; exact upd_same, by show 1 ≤ 900; decide, ?_⟩⟩
    exact q dx _ n ne (by rw [upd_ne ne.symm]; exact upd_same) upd_same fun b n1 n2 => by rw [upd_ne n2, upd_ne n1, upd_ne n2]
theorem ok_InUsex_initx (T : Txt K mg A) : FnOk P w K mg base CX0 1 A.f_InUsex_initx A.d_InUsex_initx ["self", "module", "version"] (spI A.c_InUse ["module", "version"]) := by
  refine T.F_InUsex_initx.ok sc_InUsex_initx (fun vs H Q E h => ?_) (fun cdv Ar outer s H vs Q E hr h => ?_)
  · obtain ⟨_, ws, rfl, hl, _⟩ := h; simp [hl]
  · obtain ⟨a, ws, rfl, hl, e, q⟩ := h
    obtain ⟨v, u, rfl⟩ := len2 hl
    refine ⟨_, (pss_cons (ps_expr (pe_binit (by rfl) T.gX_Refused baseR T.IB_Refused (pa_cons (pv 0) (pa_cons (pv 1) (pa_cons (pv 2) pa_nil)))))
(pss_cons (ps_stB (newId := "RuntimeError.__new__") (initId := "RuntimeError.__init__") (bmB := tailOf "RuntimeError") (pv 0) (pv 1))
(pss_one (ps_stB (newId := "RuntimeError.__new__") (initId := "RuntimeError.__init__") (bmB := tailOf "RuntimeError") (pv 0) (pv 2))))), ?_⟩
    repeat (walk_at "st")
    refine ⟨a, _, [v, u], rfl, by show 2 ≤ 1000; decide, T.EX_InUse.o, e, ?_⟩
    repeat (walk_at "st")
    refine ⟨a, _, rfl, T.EX_InUse.o, T.tk_InUse_module, .inl ⟨e, fun dx n ne => ?_⟩⟩
    repeat (walk_at "st")
    refine ⟨a, _, rfl, T.EX_InUse.o, T.tk_InUse_version, .inr ⟨dx, _, upd_same, by rw [upd_ne ne]; exact upd_same, by show 1 ≤ 900; decide, ?_⟩⟩
    exact q dx _ n ne (by rw [upd_ne ne.symm]; exact upd_same) upd_same fun b n1 n2 => by rw [upd_ne n2, upd_ne n1, upd_ne n2]
theorem ok_NameTakenx_initx (T : Txt K mg A) : FnOk P w K mg base CX0 1 A.f_NameTakenx_initx A.d_NameTakenx_initx ["self", "value"] (spI A.c_NameTaken ["value"]) := by
  refine T.F_NameTakenx_initx.ok sc_NameTakenx_initx (fun vs H Q E h => ?_) (fun cdv Ar outer s H vs Q E hr h => ?_)
  · obtain ⟨_, ws, rfl, hl, _⟩ := h; simp [hl]
  · obtain ⟨a, ws, rfl, hl, e, q⟩ := h
    obtain ⟨v, rfl⟩ := List.length_eq_one_iff.mp hl
    refine ⟨_, (pss_cons (ps_expr (pe_binit (by rfl) T.gX_Refused baseR T.IB_Refused (pa_cons (pv 0) (pa_cons (pv 1) pa_nil))))
(pss_one (ps_stB (newId := "RuntimeError.__new__") (initId := "RuntimeError.__init__") (bmB := tailOf "RuntimeError") (pv 0) (pv 1)))), ?_⟩
    repeat (walk_at "st")
    refine ⟨a, _, [v], rfl, by show 1 ≤ 1000; decide, T.EX_NameTaken.o, e, ?_⟩
    repeat (walk_at "st")
    refine ⟨a, _, rfl, T.EX_NameTaken.o, T.tk_NameTaken_value, .inl ⟨e, fun dx n ne => ?_⟩⟩
    exact q dx _ n ne upd_same (by rw [upd_ne ne]; exact upd_same) fun b n1 n2 => by rw [upd_ne n1, upd_ne n2]
theorem ok_TooManyx_initx (T : Txt K mg A) : FnOk P w K mg base CX0 1 A.f_TooManyx_initx A.d_TooManyx_initx ["self", "kind", "limit"] (spI A.c_TooMany ["kind", "limit"]) := by
  refine T.F_TooManyx_initx.ok sc_TooManyx_initx (fun vs H Q E h => ?_) (fun cdv Ar outer s H vs Q E hr h => ?_)
  · obtain ⟨_, ws, rfl, hl, _⟩ := h; simp [hl]
  · obtain ⟨a, ws, rfl, hl, e, q⟩ := h
    obtain ⟨v, u, rfl⟩ := len2 hl
    refine ⟨_, (pss_cons (ps_expr (pe_binit (by rfl) T.gX_LimitReached baseA T.IB_LimitReached (pa_cons (pv 0) (pa_cons (pv 1) (pa_cons (pv 2) pa_nil)))))
(pss_cons (ps_stB (newId := "ArithmeticError.__new__") (initId := "ArithmeticError.__init__") (bmB := tailOf "ArithmeticError") (pv 0) (pv 1))
(pss_one (ps_stB (newId := "ArithmeticError.__new__") (initId := "ArithmeticError.__init__") (bmB := tailOf "ArithmeticError") (pv 0) (pv 2))))), ?_⟩
    repeat (walk_at "st")
    refine ⟨a, _, [v, u], rfl, by show 2 ≤ 1000; decide, T.EX_TooMany.o, e, ?_⟩
    repeat (walk_at "st")
    refine ⟨a, _, rfl, T.EX_TooMany.o, T.tk_TooMany_kind, .inl ⟨e, fun dx n ne => ?_⟩⟩
    repeat (walk_at "st")
    refine ⟨a, _, rfl, T.EX_TooMany.o, T.tk_TooMany_limit, .inr ⟨dx, _, upd_same, by rw [upd_ne ne]; exact upd_same, by show 1 ≤ 900; decide, ?_⟩⟩
    exact q dx _ n ne (by rw [upd_ne ne.symm]; exact upd_same) upd_same fun b n1 n2 => by rw [upd_ne n2, upd_ne n1, upd_ne n2]
theorem ok_NoStatex_initx (T : Txt K mg A) : FnOk P w K mg base CX0 1 A.f_NoStatex_initx A.d_NoStatex_initx ["self", "chain"] (spI A.c_NoState ["chain"]) := by
  refine T.F_NoStatex_initx.ok sc_NoStatex_initx (fun vs H Q E h => ?_) (fun cdv Ar outer s H vs Q E hr h => ?_)
  · obtain ⟨_, ws, rfl, hl, _⟩ := h; simp [hl]
  · obtain ⟨a, ws, rfl, hl, e, q⟩ := h
    obtain ⟨v, rfl⟩ := List.length_eq_one_iff.mp hl
    refine ⟨_, (pss_cons (ps_expr (pe_binit (by rfl) T.gX_LimitReached baseA T.IB_LimitReached (pa_cons (pv 0) (pa_cons (pv 1) pa_nil))))
(pss_one (ps_stB (newId := "ArithmeticError.__new__") (initId := "ArithmeticError.__init__") (bmB := tailOf "ArithmeticError") (pv 0) (pv 1)))), ?_⟩
    repeat (walk_at "st")
    refine ⟨a, _, [v], rfl, by show 1 ≤ 1000; decide, T.EX_NoState.o, e, ?_⟩
    repeat (walk_at "st")
    refine ⟨a, _, rfl, T.EX_NoState.o, T.tk_NoState_chain, .inl ⟨e, fun dx n ne => ?_⟩⟩
    exact q dx _ n ne upd_same (by rw [upd_ne ne]; exact upd_same) fun b n1 n2 => by rw [upd_ne n1, upd_ne n2]
theorem ok_Unreachablex_initx (T : Txt K mg A) : FnOk P w K mg base CX0 1 A.f_Unreachablex_initx A.d_Unreachablex_initx ["self", "chain"] (spI A.c_Unreachable ["chain"]) := by
  refine T.F_Unreachablex_initx.ok sc_Unreachablex_initx (fun vs H Q E h => ?_) (fun cdv Ar outer s H vs Q E hr h => ?_)
  · obtain ⟨_, ws, rfl, hl, _⟩ := h; simp [hl]
  · obtain ⟨a, ws, rfl, hl, e, q⟩ := h
    obtain ⟨v, rfl⟩ := List.length_eq_one_iff.mp hl
    refine ⟨_, (pss_cons (ps_expr (pe_binit (by rfl) T.gX_LimitReached baseA T.IB_LimitReached (pa_cons (pv 0) (pa_cons (pv 1) pa_nil))))
(pss_one (ps_stB (newId := "ArithmeticError.__new__") (initId := "ArithmeticError.__init__") (bmB := tailOf "ArithmeticError") (pv 0) (pv 1)))), ?_⟩
    repeat (walk_at "st")
    refine ⟨a, _, [v], rfl, by show 1 ≤ 1000; decide, T.EX_Unreachable.o, e, ?_⟩
    repeat (walk_at "st")
    refine ⟨a, _, rfl, T.EX_Unreachable.o, T.tk_Unreachable_chain, .inl ⟨e, fun dx n ne => ?_⟩⟩
    exact q dx _ n ne upd_same (by rw [upd_ne ne]; exact upd_same) fun b n1 n2 => by rw [upd_ne n1, upd_ne n2]

end
end KX

namespace KX
open PySem PySem.Spec PyProof.Rows L2

local macro_rules | `(tactic| walk_at "xi") => `(tactic| first
  | assumption
  | with_reducible exact XI.same (by assumption) (by walk_at "xi")
  | fail)
local macro_rules | `(tactic| walk_at "px") => `(tactic| first
  | assumption
  | with_reducible exact PX.same (by assumption) (by walk_at "px")
  | fail)

local macro_rules | `(tactic| walk_at "kp") => `(tactic| first
  | with_reducible exact Kp.refl
  | with_reducible exact Kp.thenS (by assumption) (by walk_at "kp")
  | with_reducible exact Kp.thenO (by assumption) (by walk_at "ne") (by walk_at "kp")
  | fail)
local macro_rules | `(tactic| walk_at "hq") => `(tactic| first
  | assumption
  | with_reducible exact Kp.get (by assumption) (by walk_at "kp")
  | fail)
local macro_rules | `(tactic| walk_at "hg") => `(tactic| first
  | walk_at "hq"
  | exact upd_same
  | with_reducible exact (upd_ne (by walk_at "ne")).trans (by walk_at "hg")
  | with_reducible exact Same.get (by assumption) (by walk_at "hg")
  | with_reducible exact Off.get (by assumption) (by walk_at "ne") (by walk_at "hg")
  | fail)
local macro_rules | `(tactic| walk_at "ne") => `(tactic| first
  | assumption
  | (apply Ne.symm; assumption)
  | exact Rok.ne' (by assumption) (by walk_at "rok")
  | exact (Rok.ne' (by assumption) (by walk_at "rok")).symm
  | exact ne_some (by assumption) (by walk_at "hg")
  | exact (ne_some (by assumption) (by walk_at "hg")).symm
  | fail)
local macro_rules | `(tactic| walk_at "rok") => `(tactic| first
  | assumption
  | with_reducible exact Rok.kp (by assumption) (by walk_at "kp")
  | with_reducible exact Rok.same (by assumption) (by walk_at "rok")
  | fail)
local macro_rules | `(tactic| walk_at "sq") => `(tactic| first
  | assumption
  | exact Same.seq (by assumption) (by assumption)
  | (with_reducible show SqL _ _ _ _; with_reducible exact SqL.of (by walk_at "hg"))
  | (with_reducible show SqT _ _ _ _; with_reducible exact SqT.of (by walk_at "hg"))
  | fail)
local macro_rules | `(tactic| walk_at "dac") => `(tactic| first
  | assumption
  | exact DaF.same (by assumption) (by walk_at "dac")
  | fail)
local macro_rules | `(tactic| walk_at "da") => `(tactic| first
  | exact (DaF.non : DaS _ _ _ _)
  | exact (DaF.bl _ : DaS _ _ _ _)
  | exact (DaF.int _ : DaS _ _ _ _)
  | exact (DaF.str _ : DaS _ _ _ _)
  | exact DaF.non
  | exact DaF.bl _
  | exact DaF.int _
  | exact DaF.str _
  | walk_at "dac"
  | with_reducible exact DaF.lst (SqL.of (by walk_at "hq")) (fun _ => by assumption) (by walk_at "das")
  | with_reducible exact Da.lst (SqL.of (by walk_at "hq")) (by walk_at "das")
  | with_reducible exact DaF.tup (SqT.of (by walk_at "hq")) (by walk_at "das")
  | with_reducible exact DaF.dic (Rd.of (by walk_at "hq")) (by walk_at "dak")
  | fail)
local macro_rules | `(tactic| walk_at "das") => `(tactic| first
  | assumption
  | exact DaAllF.nil
  | exact DaAllF.cons (by walk_at "da") (by walk_at "das")
  | fail)
local macro_rules | `(tactic| walk_at "dak") => `(tactic| first
  | assumption
  | exact DaKvF.nil
  | exact DaKvF.cons (by walk_at "da") (by walk_at "dak")
  | fail)
local macro_rules | `(tactic| walk_at "shw") => `(tactic| first
  | assumption
  | exact shw_b2 _ _
  | exact ⟨by decide +kernel, by decide +kernel, by decide +kernel⟩
  | fail)
local macro_rules | `(tactic| walk_at "nod") => `(tactic| first
  | exact .inl rfl
  | exact .inr rfl
  | assumption
  | exact .inr (by assumption)
  | fail)
local macro_rules | `(tactic| walk_at "okd") => `(tactic| first
  | assumption
  | exact okd_of (by decide +kernel)
  | fail)
local macro_rules | `(tactic| walk_at "off") => `(tactic| first
  | assumption
  | exact Off.refl _ _
  | exact Same.refl _
  | with_reducible exact Same.thenS (by assumption) (by walk_at "off")
  | with_reducible exact Off.thenS (by assumption) (by walk_at "off")
  | with_reducible exact Off.thenO (by assumption) (by walk_at "off")
  | with_reducible exact Same.thenF (by assumption) (by assumption) (by walk_at "off") (by walk_at "off")
  | with_reducible exact Off.thenF (by assumption) (by assumption) (by walk_at "off") (by walk_at "off")
  | fail)
local macro_rules | `(tactic| walk_at "side") => `(tactic| first
  | assumption
  | omega
  | decide
  | (simp only [List.length_append, List.length_cons, List.length_nil]; decide)
  | exact ⟨by omega, by omega⟩
  | exact ⟨by omega, PyProof.noPylong_of_log2 (by first | assumption | decide)⟩
  | exact .inl ⟨by omega, by omega⟩
  | exact .inr ⟨by omega, by omega⟩
  | exact ⟨by decide, by decide, by decide⟩
  | exact ⟨by decide, by decide, by omega⟩
  | fail)
local macro_rules | `(tactic| walk_at "st") => `(tactic| first
  | with_reducible refine i_seq ?_
  | with_reducible refine i_bi ?_
  | with_reducible refine i_raise ?_
  | with_reducible refine i_callX ?_
  | with_reducible refine i_tryN ?_
  | with_reducible refine i_isNon ?_
  | with_reducible refine i_isNotNon ?_
  | ((with_reducible refine' i_split ?h ?z ?_); (case h => rfl); (case z => walk_at "side"))
  | with_reducible refine i_find ?_
  | ((with_reducible refine i_strI ?h ?_); (case h => walk_at "side"))
  | with_reducible refine i_fmt ?_
  | ((with_reducible refine i_fmS ?h ?_); (case h => walk_at "side"))
  | ((with_reducible refine i_fmI ?h ?_); (case h => walk_at "side"))
  | with_reducible refine i_jn ?_
  | with_reducible refine i_js0 ?_
  | with_reducible refine i_js1 ?_
  | ((with_reducible refine i_jsR ?h ?_); (case h => walk_at "side"))
  | with_reducible refine i_revS ?_
  | ((with_reducible refine i_exrev ?h ?_); (case h => walk_at "side"))
  | with_reducible refine i_revL ?_
  | ((with_reducible refine' i_exrevL ?h ?_); (case h => walk_at "sq"))
  | with_reducible refine i_par3 ?_
  | with_reducible refine i_ex3 ?_
  | with_reducible refine i_stB ?_
  | with_reducible refine i_mk0 ?_
  | with_reducible refine i_asg ?_
  | with_reducible refine i_c ?_
  | ((with_reducible refine' i_var ?h ?_); (case h => rfl))
  | with_reducible refine i_op ?_
  | with_reducible refine i_cons ?_
  | with_reducible refine i_nil ?_
  | ((with_reducible refine' i_gName ?h ?_); (case h => rfl))
  | with_reducible refine i_rI0 ?_
  | ((with_reducible refine i_rI ?h ?_); (case h => walk_at "side"))
  | with_reducible refine i_test ?_
  | with_reducible refine i_exbl ?_
  | with_reducible refine i_exint ?_
  | with_reducible refine i_exs ?_
  | with_reducible refine i_ret ?_
  | with_reducible refine i_next ?_
  | with_reducible refine i_ifS ?_
  | ((with_reducible refine' i_rIxL ?h ?e ?_); (case h => walk_at "sq"); (case e => first | assumption | rfl))
  | ((with_reducible refine' i_rIxT ?h ?e ?_); (case h => walk_at "sq"); (case e => first | assumption | rfl))
  | ((with_reducible refine' i_rIxS ?h ?e ?_); (case h => walk_at "side"); (case e => first | assumption | rfl))
  | with_reducible refine i_un ?_
  | with_reducible refine i_rU ?_
  | ((with_reducible refine i_rEqSame ?h ?_); (case h => rfl))
  | ((with_reducible refine i_rNeSame ?h ?_); (case h => rfl))
  | ((with_reducible refine i_rEq ?h ?_); (case h => rfl))
  | ((with_reducible refine i_rNe ?h ?_); (case h => rfl))
  | with_reducible refine i_tB ?_
  | with_reducible refine i_and ?_
  | with_reducible refine i_or ?_
  | with_reducible refine i_not ?_
  | with_reducible refine i_andV ?_
  | with_reducible refine i_orV ?_
  | with_reducible refine i_notV ?_
  | with_reducible refine i_if ?_
  | with_reducible refine i_chain ?_
  | with_reducible refine i_drop ?_
  | with_reducible refine i_retN ?_
  | with_reducible refine i_par ?_
  | with_reducible refine i_ex2 ?_
  | ((with_reducible refine' i_aug ?h ?_); (case h => rfl))
  | with_reducible refine i_gNil ?_
  | with_reducible refine i_gCons ?_
  | ((with_reducible refine' i_gTup ?h ?e ?_); (case h => walk_at "sq"); (case e => rfl))
  | with_reducible refine i_gSub ?_
  | ((with_reducible refine' i_rSetL ?h ?e ?_); (case h => walk_at "hg"); (case e => first | assumption | rfl))
  | with_reducible refine i_tup ?_
  | with_reducible refine i_lst ?_
  | with_reducible refine i_lstN ?_
  | with_reducible refine i_newDK ?_
  | with_reducible refine i_disp ?_
  | with_reducible refine i_pairs0 ?_
  | with_reducible refine i_pairs1 ?_
  | with_reducible refine i_call ?_
  | with_reducible refine i_mkV0 ?_
  | with_reducible refine i_mkW0 ?_
  | with_reducible refine i_mkX0 ?_
  | with_reducible refine i_mkY0 ?_
  | with_reducible refine i_xv0 ?_
  | with_reducible refine i_mk00 ?_
  | ((with_reducible refine' i_mkX ?h ?f ?l ?_); (case h => rfl); (case f => decide); (case l => rfl); intro _ _)
  | ((with_reducible refine' i_xvQ ?T ?n ?a ?d ?l ?_); (case a => walk_at "hg"); (case d => walk_at "hg"); (case T => assumption); (case n => assumption); (case l => rfl))
  | ((with_reducible refine' i_isVr ?T ?G ?h ?k ?_); (case h => walk_at "xi"); (case T => assumption); (case G => assumption); (case k => assumption))
  | ((with_reducible refine' i_isVt ?T ?G ?h ?k ?_); (case h => walk_at "xi"); (case T => assumption); (case G => assumption); (case k => assumption))
  | ((with_reducible refine' i_gLst ?h ?e ?_); (case h => walk_at "sq"); (case e => rfl))
  | ((with_reducible refine' i_rCatN ?h ?e ?z ?_); (case h => walk_at "hg"); (case e => walk_at "hg"); (case z => walk_at "side"))
  | ((with_reducible refine' i_rRepN ?h ?e ?z ?_); (case h => walk_at "hg"); (case e => decide); (case z => walk_at "side"))
  | with_reducible refine i_cb ?_
  | with_reducible refine i_bm ?_
  | with_reducible refine i_m1 ?_
  | with_reducible refine i_m0 ?_
  | ((with_reducible refine' i_rAppend ?h ?e ?_); (case h => walk_at "hg"); (case e => walk_at "side"))
  | ((with_reducible refine i_rSlS ?h ?_); (case h => walk_at "side"))
  | ((with_reducible refine' i_rSlL ?h ?_); (case h => walk_at "sq"))
  | with_reducible refine i_sl ?_
  | with_reducible refine i_noPart ?_
  | with_reducible refine i_part ?_
  | with_reducible refine i_rng1 ?_
  | with_reducible refine i_iList ?_
  | with_reducible refine i_iStr ?_
  | with_reducible refine i_iEnum ?_
  | with_reducible refine i_iZip ?_
  | with_reducible refine i_ez ?_
  | ((with_reducible refine' i_exen ?h ?_); (case h => walk_at "sq"))
  | ((with_reducible refine' i_exz ?h ?k ?_); (case h => walk_at "sq"); (case k => walk_at "sq"))
  | ((with_reducible refine' i_listN ?h ?_); (case h => walk_at "sq"))
  | with_reducible refine i_intB ?_
  | ((with_reducible refine' i_tyL ?h ?_); (case h => walk_at "sq"))
  | with_reducible refine i_isBl ?_
  | ((with_reducible refine i_callW ?_))
  | ((with_reducible refine i_exrng ?h1 ?h2 ?_); (case h1 => walk_at "side"); (case h2 => walk_at "side"))
  | ((with_reducible refine' i_exl ?h ?_); (case h => walk_at "sq"))
  | with_reducible refine i_for ?_
  | with_reducible refine i_lc ?_
  | with_reducible refine i_yes ?_
  | with_reducible refine i_iteT ?_
  | with_reducible refine i_iteF ?_
  | ((with_reducible refine i_divmod ?h ?_); (case h => walk_at "side"))
  | ((with_reducible refine' i_isi ?h ?e ?_); (case h => walk_at "da"); (case e => decide))
  | ((with_reducible refine i_lenS ?h ?_); (case h => walk_at "side"))
  | ((with_reducible refine' i_lenL ?h ?_); (case h => walk_at "sq"))
  | ((with_reducible refine' i_lenT ?h ?_); (case h => walk_at "sq"))
  | ((with_reducible refine' i_repr ?h ?n ?e ?_); (case h => walk_at "da"); (case n => walk_at "nod"); (case e => walk_at "shw"))
  | ((with_reducible refine' i_rCat ?h ?e ?z ?_); (case h => walk_at "hg"); (case e => walk_at "hg"); (case z => walk_at "side"))
  | ((with_reducible refine i_rCatS ?h ?_); (case h => walk_at "side"))
  | with_reducible refine i_exstr ?_
  | ((with_reducible refine' i_join ?h ?z ?_); (case h => walk_at "sq"); (case z => walk_at "side"))
  | with_reducible refine i_abs ?_
  | with_reducible refine i_max ?_
  | with_reducible refine i_min ?_
  | ((with_reducible refine' i_rAll ?h ?_); (case h => walk_at "sq"))
  | ((with_reducible refine' i_lcEl ?h ?e ?_); (case h => walk_at "hg"); (case e => walk_at "side"))
  | with_reducible refine ⟨_, _, rfl, rfl, ?_⟩
  | with_reducible refine ⟨_, _, rfl, ?_⟩
  | with_reducible refine ⟨_, rfl, ?_⟩
  | with_reducible refine And.intro rfl ?_
  | ((with_reducible refine And.intro ?h ?_); (case h => walk_at "side"))
  | fail)

section
variable {P : Program} {w : World} {K : PySem.W.Frag} {mg : Str → Option Value} {base : Heap} {A : Ad}
def sp_l_choice : Sp := fun vs H Q _ => ∃ r o xs, vs = [.ref r, .ref o] ∧ H o = some (.lst xs) ∧ o ≠ r ∧ 0 < xs.length ∧ xs.length < 1000 ∧ Rok H r ∧
  ∀ v H', v ∈ xs → Rok H' r → Off r H H' → Q v H'
theorem ok_l_choice (T : Txt K mg A) (G_l_draw : Fg P w K mg base CX0 1 A.f_l_draw A.d_l_draw ["_law_rng_here", "_law_many"] sp_l_draw) : Fg P w K mg base CX0 2 A.f_l_choice A.d_l_choice ["_law_rng_here", "_law_options"] sp_l_choice := by
  refine ok_g T.F_l_choice sc_l_choice (fun vs H Q E h => ?_) (fun cdv Ar outer s H vs Q E hr h => ?_)
  · obtain ⟨_, _, _, rfl, _⟩ := h; rfl
  · obtain ⟨r, o, xs, rfl, hO, hne, l0, l1, hR, q⟩ := h
    have lb : (xs.length : Int).natAbs.log2 < 9000 := Nat.lt_of_le_of_lt (Nat.log2_le_self _) (by omega)
    refine ⟨_, (pss_one (ps_ret (pe_ix ix_list (pv 1) (pe_call G_l_draw (hr.mono (by decide)) (by rfl) T.g_l_draw T.F_l_draw.kp T.b_l_draw .nil pass0 (pa_cons (pv 0) (pa_cons (pe_callB call_lenN (by rfl) T.m_len (by decide +kernel) (pa_cons (pv 1) pa_nil)) pa_nil))) (fun _ _ => rfl)))), ?_⟩
    repeat (walk_at "st")
    refine ⟨_, _, rfl, (by walk_at "side"), (by first | decide | decide +kernel | assumption), (by walk_at "rok"), fun d1 G1 dl1 dh1 r1 o1 => ?_⟩
    obtain ⟨v, hv, ev⟩ := atI_lt (xs := xs) dl1 dh1
    repeat (walk_at "st")
    exact q _ _ hv r1 o1

def oddB15 (d : PyData) : Bool := d.showable && (decide (d.depth ≤ 10) && decide (d.shown.length ≤ 1000))
structure Odd (d : PyData) : Prop where
  ok : Sh d 1000 10
theorem odd_of {d : PyData} (h : oddB15 d = true) : Odd d := by
  unfold oddB15 at h
  simp only [Bool.and_eq_true, decide_eq_true_eq] at h
  exact ⟨⟨h.1, h.2.1, h.2.2⟩⟩
def sp_l_odd (K : PySem.W.Frag) : Sp := fun vs H Q _ => ∃ r, vs = [.ref r] ∧ Rok H r ∧ ∀ v d H', DaS K (wo r H') v d → Odd d → Rok H' r → Off r H H' → Q v H'
theorem ok_l_odd (T : Txt K mg A) (G_l_choice : Fg P w K mg base CX0 2 A.f_l_choice A.d_l_choice ["_law_rng_here", "_law_options"] sp_l_choice) : Fg P w K mg base CX0 3 A.f_l_odd A.d_l_odd ["_law_rng_here"] (sp_l_odd K) := by
  refine ok_g T.F_l_odd sc_l_odd (fun vs H Q E h => ?_) (fun cdv Ar outer s H vs Q E hr h => ?_)
  · obtain ⟨_, rfl, _⟩ := h; rfl
  · obtain ⟨r, rfl, hR, q⟩ := h
    refine ⟨_, (pss_cons (ps_set (i := 1) sc_l_odd.nd rfl (.inl rfl) (pe_litL (LitAll.cons Lit.non (LitAll.cons Lit.bl (LitAll.cons Lit.bl (LitAll.cons Lit.int (LitAll.cons Lit.int (LitAll.cons Lit.neg (LitAll.cons Lit.int (LitAll.cons (Lit.pow Lit.int Lit.int (by decide) (by decide) (by decide)) (LitAll.cons Lit.str (LitAll.cons Lit.str (LitAll.cons Lit.str (LitAll.cons Lit.str (LitAll.cons (Lit.tup LitAll.nil (by decide)) (LitAll.cons (Lit.tup (LitAll.cons Lit.str LitAll.nil) (by decide)) (LitAll.cons (Lit.tup (LitAll.cons Lit.str (LitAll.cons Lit.int LitAll.nil)) (by decide)) (LitAll.cons (Lit.lst LitAll.nil (by decide)) (LitAll.cons (Lit.lst (LitAll.cons Lit.str LitAll.nil) (by decide)) (LitAll.cons Lit.dic0 LitAll.nil)))))))))))))))))) (by decide)))
(pss_one (ps_ret (pe_call G_l_choice (hr.mono (by decide)) (by rfl) T.g_l_choice T.F_l_choice.kp T.b_l_choice .nil pass0 (pa_cons (pv 0) (pa_cons (pe_op op_cat (pv 1) (pe_litL (LitAll.cons (Lit.dicS Lit.int) (LitAll.cons (Lit.lst (LitAll.cons (Lit.lst LitAll.nil (by decide)) LitAll.nil) (by decide)) (LitAll.cons (Lit.tup (LitAll.cons (Lit.tup (LitAll.cons Lit.str (LitAll.cons Lit.int (LitAll.cons Lit.int LitAll.nil))) (by decide)) LitAll.nil) (by decide)) (LitAll.cons (Lit.lst (LitAll.cons (Lit.tup (LitAll.cons Lit.str (LitAll.cons Lit.int LitAll.nil)) (by decide)) LitAll.nil) (by decide)) (LitAll.cons (Lit.negE (Lit.pow Lit.int Lit.int (by decide) (by decide) (by decide))) (LitAll.cons Lit.str (LitAll.cons Lit.str LitAll.nil))))))) (by decide))) pa_nil)))))), ?_⟩
    repeat (walk_at "st")
    refine i_litL fun p1 xs1 G1 n1 z1 s1 e1 d1 => ?_
    repeat (walk_at "st")
    refine i_litL fun p2 xs2 G2 n2 z2 s2 e2 d2 => ?_
    repeat (walk_at "st")
    have l1 : xs1.length = 18 := d1.len
    have l2 : xs2.length = 7 := d2.len
    have e1' := s2 _ _ e1
    have hz : xs1.length + xs2.length ≤ sizeLine := by rw [sizeLine_eq]; omega
    repeat (walk_at "st")
    refine i_new fun p3 G3 n3 s3 e3 => ?_
    repeat (walk_at "st")
    obtain ⟨a, b, hr0, hb⟩ := hR
    have hne : p3 ≠ r := fun z => by rw [← z] at hr0; have := (s1.trans s2) _ _ hr0; rw [n3] at this; cases this
    refine ⟨_, _, _, rfl, e3, hne, by rw [List.length_append]; omega, by rw [List.length_append]; omega, ⟨a, b, s3 _ _ (s2 _ _ (s1 _ _ hr0)), hb⟩, fun v G4 hv r4 o4 => ?_⟩
    have dd := (d1.same (newP_mono (s2.trans s3))).app (d2.same ((newP_mono s3).trans (newP_back s1)))
    obtain ⟨d, hd, hda⟩ := dd.mem v hv
    refine q v d _ (hda.same ((newP_wo hr0).trans o4.wo)) (odd_of (List.all_eq_true.mp (?_ : List.all _ oddB15 = true) d hd)) r4 (by walk_at "off")
    decide +kernel
/-- what the law reads off the exceptions that it makes -/
def sp_l_single : Sp := fun vs H Q _ => ∃ v, vs = [v] ∧ ∀ p H', p ≠ sysModules → Same H H' → H' p = some (.lst (List.replicate 23 v)) → Q (.ref p) H'
theorem ok_l_single (T : Txt K mg A) : Fg P w K mg base CX0 3 A.f_l_single A.d_l_single ["_law_a"] sp_l_single := by
  have G_InvalidNamex_initx := ok_InvalidNamex_initx (P := P) (w := w) (base := base) T
  have G_InvalidVersionx_initx := ok_InvalidVersionx_initx (P := P) (w := w) (base := base) T
  have G_InvalidWindowx_initx := ok_InvalidWindowx_initx (P := P) (w := w) (base := base) T
  have G_InvalidWindowsx_initx := ok_InvalidWindowsx_initx (P := P) (w := w) (base := base) T
  have G_InvalidUsesx_initx := ok_InvalidUsesx_initx (P := P) (w := w) (base := base) T
  have G_InvalidRowsx_initx := ok_InvalidRowsx_initx (P := P) (w := w) (base := base) T
  have G_InvalidStatex_initx := ok_InvalidStatex_initx (P := P) (w := w) (base := base) T
  have G_InvalidDemandx_initx := ok_InvalidDemandx_initx (P := P) (w := w) (base := base) T
  have G_InvalidGoalsx_initx := ok_InvalidGoalsx_initx (P := P) (w := w) (base := base) T
  have G_InvalidStepx_initx := ok_InvalidStepx_initx (P := P) (w := w) (base := base) T
  have G_InvalidStepsx_initx := ok_InvalidStepsx_initx (P := P) (w := w) (base := base) T
  have G_InvalidCountx_initx := ok_InvalidCountx_initx (P := P) (w := w) (base := base) T
  have G_InvalidTextx_initx := ok_InvalidTextx_initx (P := P) (w := w) (base := base) T
  have G_InvalidEntryx_initx := ok_InvalidEntryx_initx (P := P) (w := w) (base := base) T
  have G_UnknownModulex_initx := ok_UnknownModulex_initx (P := P) (w := w) (base := base) T
  have G_UnknownUsex_initx := ok_UnknownUsex_initx (P := P) (w := w) (base := base) T
  have G_UnknownVersionx_initx := ok_UnknownVersionx_initx (P := P) (w := w) (base := base) T
  have G_UnknownOperatorx_initx := ok_UnknownOperatorx_initx (P := P) (w := w) (base := base) T
  have G_UnknownSessionx_initx := ok_UnknownSessionx_initx (P := P) (w := w) (base := base) T
  have G_NotRisingx_initx := ok_NotRisingx_initx (P := P) (w := w) (base := base) T
  have G_NotConsistentx_initx := ok_NotConsistentx_initx (P := P) (w := w) (base := base) T
  have G_NotBelowx_initx := ok_NotBelowx_initx (P := P) (w := w) (base := base) T
  have G_CannotMeetx_initx := ok_CannotMeetx_initx (P := P) (w := w) (base := base) T
  have G_NoStepx_initx := ok_NoStepx_initx (P := P) (w := w) (base := base) T
  have G_MissingNeedx_initx := ok_MissingNeedx_initx (P := P) (w := w) (base := base) T
  have G_NotAvailablex_initx := ok_NotAvailablex_initx (P := P) (w := w) (base := base) T
  have G_Pinnedx_initx := ok_Pinnedx_initx (P := P) (w := w) (base := base) T
  have G_InUsex_initx := ok_InUsex_initx (P := P) (w := w) (base := base) T
  have G_NameTakenx_initx := ok_NameTakenx_initx (P := P) (w := w) (base := base) T
  have G_TooManyx_initx := ok_TooManyx_initx (P := P) (w := w) (base := base) T
  have G_NoStatex_initx := ok_NoStatex_initx (P := P) (w := w) (base := base) T
  have G_Unreachablex_initx := ok_Unreachablex_initx (P := P) (w := w) (base := base) T
  refine ok_g T.F_l_single sc_l_single (fun vs H Q E h => ?_) (fun cdv Ar outer s H vs Q E hr h => ?_)
  · obtain ⟨_, rfl, _⟩ := h; rfl
  · obtain ⟨v, rfl, q⟩ := h
    refine ⟨_, (pss_cons (ps_set (i := 1) sc_l_single.nd rfl (.inl rfl) (pe_lstN (pa_cons (pe_mkx T.EX_InvalidName T.nf_InvalidName_value (pe_mkV T.EX_InvalidName.o T.iC_InvalidName T.tI_InvalidName G_InvalidNamex_initx (hr.room.mono (by decide)) T.b_InvalidNamex_initx pass0 (by rfl) T.gX_InvalidName (pa_cons (pv 0) pa_nil))) (pa_cons (pe_mkx T.EX_InvalidVersion T.nf_InvalidVersion_value (pe_mkV T.EX_InvalidVersion.o T.iC_InvalidVersion T.tI_InvalidVersion G_InvalidVersionx_initx (hr.room.mono (by decide)) T.b_InvalidVersionx_initx pass0 (by rfl) T.gX_InvalidVersion (pa_cons (pv 0) pa_nil))) (pa_cons (pe_mkx T.EX_InvalidWindow T.nf_InvalidWindow_value (pe_mkV T.EX_InvalidWindow.o T.iC_InvalidWindow T.tI_InvalidWindow G_InvalidWindowx_initx (hr.room.mono (by decide)) T.b_InvalidWindowx_initx pass0 (by rfl) T.gX_InvalidWindow (pa_cons (pv 0) pa_nil))) (pa_cons (pe_mkx T.EX_InvalidWindows T.nf_InvalidWindows_position (pe_mkV T.EX_InvalidWindows.o T.iC_InvalidWindows T.tI_InvalidWindows G_InvalidWindowsx_initx (hr.room.mono (by decide)) T.b_InvalidWindowsx_initx pass0 (by rfl) T.gX_InvalidWindows (pa_cons (pv 0) pa_nil))) pa_nil))))))
(pss_cons (ps_set (i := 1) sc_l_single.nd rfl (.inl rfl) (pe_op op_catN (pv 1) (pe_lstN (pa_cons (pe_mkx T.EX_InvalidUses T.nf_InvalidUses_module (pe_mkV T.EX_InvalidUses.o T.iC_InvalidUses T.tI_InvalidUses G_InvalidUsesx_initx (hr.room.mono (by decide)) T.b_InvalidUsesx_initx pass0 (by rfl) T.gX_InvalidUses (pa_cons (pv 0) pa_nil))) (pa_cons (pe_mkx T.EX_InvalidRows T.nf_InvalidRows_position (pe_mkV T.EX_InvalidRows.o T.iC_InvalidRows T.tI_InvalidRows G_InvalidRowsx_initx (hr.room.mono (by decide)) T.b_InvalidRowsx_initx pass0 (by rfl) T.gX_InvalidRows (pa_cons (pv 0) pa_nil))) (pa_cons (pe_mkx T.EX_InvalidState T.nf_InvalidState_module (pe_mkV T.EX_InvalidState.o T.iC_InvalidState T.tI_InvalidState G_InvalidStatex_initx (hr.room.mono (by decide)) T.b_InvalidStatex_initx pass0 (by rfl) T.gX_InvalidState (pa_cons (pv 0) pa_nil))) (pa_cons (pe_mkx T.EX_InvalidDemand T.nf_InvalidDemand_value (pe_mkV T.EX_InvalidDemand.o T.iC_InvalidDemand T.tI_InvalidDemand G_InvalidDemandx_initx (hr.room.mono (by decide)) T.b_InvalidDemandx_initx pass0 (by rfl) T.gX_InvalidDemand (pa_cons (pv 0) pa_nil))) pa_nil)))))))
(pss_cons (ps_set (i := 1) sc_l_single.nd rfl (.inl rfl) (pe_op op_catN (pv 1) (pe_lstN (pa_cons (pe_mkx T.EX_InvalidGoals T.nf_InvalidGoals_position (pe_mkV T.EX_InvalidGoals.o T.iC_InvalidGoals T.tI_InvalidGoals G_InvalidGoalsx_initx (hr.room.mono (by decide)) T.b_InvalidGoalsx_initx pass0 (by rfl) T.gX_InvalidGoals (pa_cons (pv 0) pa_nil))) (pa_cons (pe_mkx T.EX_InvalidStep T.nf_InvalidStep_value (pe_mkV T.EX_InvalidStep.o T.iC_InvalidStep T.tI_InvalidStep G_InvalidStepx_initx (hr.room.mono (by decide)) T.b_InvalidStepx_initx pass0 (by rfl) T.gX_InvalidStep (pa_cons (pv 0) pa_nil))) (pa_cons (pe_mkx T.EX_InvalidSteps T.nf_InvalidSteps_position (pe_mkV T.EX_InvalidSteps.o T.iC_InvalidSteps T.tI_InvalidSteps G_InvalidStepsx_initx (hr.room.mono (by decide)) T.b_InvalidStepsx_initx pass0 (by rfl) T.gX_InvalidSteps (pa_cons (pv 0) pa_nil))) (pa_cons (pe_mkx T.EX_InvalidCount T.nf_InvalidCount_value (pe_mkV T.EX_InvalidCount.o T.iC_InvalidCount T.tI_InvalidCount G_InvalidCountx_initx (hr.room.mono (by decide)) T.b_InvalidCountx_initx pass0 (by rfl) T.gX_InvalidCount (pa_cons (pv 0) pa_nil))) pa_nil)))))))
(pss_cons (ps_set (i := 1) sc_l_single.nd rfl (.inl rfl) (pe_op op_catN (pv 1) (pe_lstN (pa_cons (pe_mkx T.EX_InvalidText T.nf_InvalidText_line (pe_mkV T.EX_InvalidText.o T.iC_InvalidText T.tI_InvalidText G_InvalidTextx_initx (hr.room.mono (by decide)) T.b_InvalidTextx_initx pass0 (by rfl) T.gX_InvalidText (pa_cons (pv 0) pa_nil))) (pa_cons (pe_mkx T.EX_UnknownModule T.nf_UnknownModule_value (pe_mkV T.EX_UnknownModule.o T.iC_UnknownModule T.tI_UnknownModule G_UnknownModulex_initx (hr.room.mono (by decide)) T.b_UnknownModulex_initx pass0 (by rfl) T.gX_UnknownModule (pa_cons (pv 0) pa_nil))) (pa_cons (pe_mkx T.EX_UnknownOperator T.nf_UnknownOperator_value (pe_mkV T.EX_UnknownOperator.o T.iC_UnknownOperator T.tI_UnknownOperator G_UnknownOperatorx_initx (hr.room.mono (by decide)) T.b_UnknownOperatorx_initx pass0 (by rfl) T.gX_UnknownOperator (pa_cons (pv 0) pa_nil))) (pa_cons (pe_mkx T.EX_UnknownSession T.nf_UnknownSession_value (pe_mkV T.EX_UnknownSession.o T.iC_UnknownSession T.tI_UnknownSession G_UnknownSessionx_initx (hr.room.mono (by decide)) T.b_UnknownSessionx_initx pass0 (by rfl) T.gX_UnknownSession (pa_cons (pv 0) pa_nil))) pa_nil)))))))
(pss_cons (ps_set (i := 1) sc_l_single.nd rfl (.inl rfl) (pe_op op_catN (pv 1) (pe_lstN (pa_cons (pe_mkx T.EX_NotBelow T.nf_NotBelow_module (pe_mkV T.EX_NotBelow.o T.iC_NotBelow T.tI_NotBelow G_NotBelowx_initx (hr.room.mono (by decide)) T.b_NotBelowx_initx pass0 (by rfl) T.gX_NotBelow (pa_cons (pv 0) pa_nil))) (pa_cons (pe_mkx T.EX_MissingNeed T.nf_MissingNeed_step (pe_mkV T.EX_MissingNeed.o T.iC_MissingNeed T.tI_MissingNeed G_MissingNeedx_initx (hr.room.mono (by decide)) T.b_MissingNeedx_initx pass0 (by rfl) T.gX_MissingNeed (pa_cons (pv 0) pa_nil))) (pa_cons (pe_mkx T.EX_NotAvailable T.nf_NotAvailable_step (pe_mkV T.EX_NotAvailable.o T.iC_NotAvailable T.tI_NotAvailable G_NotAvailablex_initx (hr.room.mono (by decide)) T.b_NotAvailablex_initx pass0 (by rfl) T.gX_NotAvailable (pa_cons (pv 0) pa_nil))) (pa_cons (pe_mkx T.EX_NameTaken T.nf_NameTaken_value (pe_mkV T.EX_NameTaken.o T.iC_NameTaken T.tI_NameTaken G_NameTakenx_initx (hr.room.mono (by decide)) T.b_NameTakenx_initx pass0 (by rfl) T.gX_NameTaken (pa_cons (pv 0) pa_nil))) pa_nil)))))))
(pss_one (ps_ret (pe_op op_catN (pv 1) (pe_lstN (pa_cons (pe_mkx T.EX_NoState T.nf_NoState_chain (pe_mkV T.EX_NoState.o T.iC_NoState T.tI_NoState G_NoStatex_initx (hr.room.mono (by decide)) T.b_NoStatex_initx pass0 (by rfl) T.gX_NoState (pa_cons (pv 0) pa_nil))) (pa_cons (pe_mkx T.EX_Unreachable T.nf_Unreachable_chain (pe_mkV T.EX_Unreachable.o T.iC_Unreachable T.tI_Unreachable G_Unreachablex_initx (hr.room.mono (by decide)) T.b_Unreachablex_initx pass0 (by rfl) T.gX_Unreachable (pa_cons (pv 0) pa_nil))) (pa_cons (pe_mkx T.EX_InvalidEntry T.nf_InvalidEntry_value (pe_mkV T.EX_InvalidEntry.o T.iC_InvalidEntry T.tI_InvalidEntry G_InvalidEntryx_initx (hr.room.mono (by decide)) T.b_InvalidEntryx_initx pass0 (by rfl) T.gX_InvalidEntry (pa_cons (pv 0) pa_nil))) pa_nil)))))))))))), ?_⟩
    repeat (walk_at "st")
    refine i_newN fun p1 G1 n1 z1 s1 e1 => ?_
    repeat (walk_at "st")
    refine i_newN fun p2 G2 n2 z2 s2 e2 => ?_
    repeat (walk_at "st")
    refine i_newN fun p3 G3 n3 z3 s3 e3 => ?_
    repeat (walk_at "st")
    refine i_newN fun p4 G4 n4 z4 s4 e4 => ?_
    repeat (walk_at "st")
    refine i_newN fun p5 G5 n5 z5 s5 e5 => ?_
    repeat (walk_at "st")
    refine i_newN fun p6 G6 n6 z6 s6 e6 => ?_
    repeat (walk_at "st")
    refine i_newN fun p7 G7 n7 z7 s7 e7 => ?_
    repeat (walk_at "st")
    refine i_newN fun p8 G8 n8 z8 s8 e8 => ?_
    repeat (walk_at "st")
    refine i_newN fun p9 G9 n9 z9 s9 e9 => ?_
    repeat (walk_at "st")
    refine i_newN fun p10 G10 n10 z10 s10 e10 => ?_
    repeat (walk_at "st")
    refine i_newN fun p11 G11 n11 z11 s11 e11 => ?_
    exact q _ _ z11 (by walk_at "off") e11
theorem ok_l_single_named (T : Txt K mg A) : Fg P w K mg base CX0 3 A.f_l_single_named A.d_l_single_named ["_law_a"] sp_l_single := by
  have G_InvalidNamex_initx := ok_InvalidNamex_initx (P := P) (w := w) (base := base) T
  have G_InvalidVersionx_initx := ok_InvalidVersionx_initx (P := P) (w := w) (base := base) T
  have G_InvalidWindowx_initx := ok_InvalidWindowx_initx (P := P) (w := w) (base := base) T
  have G_InvalidWindowsx_initx := ok_InvalidWindowsx_initx (P := P) (w := w) (base := base) T
  have G_InvalidUsesx_initx := ok_InvalidUsesx_initx (P := P) (w := w) (base := base) T
  have G_InvalidRowsx_initx := ok_InvalidRowsx_initx (P := P) (w := w) (base := base) T
  have G_InvalidStatex_initx := ok_InvalidStatex_initx (P := P) (w := w) (base := base) T
  have G_InvalidDemandx_initx := ok_InvalidDemandx_initx (P := P) (w := w) (base := base) T
  have G_InvalidGoalsx_initx := ok_InvalidGoalsx_initx (P := P) (w := w) (base := base) T
  have G_InvalidStepx_initx := ok_InvalidStepx_initx (P := P) (w := w) (base := base) T
  have G_InvalidStepsx_initx := ok_InvalidStepsx_initx (P := P) (w := w) (base := base) T
  have G_InvalidCountx_initx := ok_InvalidCountx_initx (P := P) (w := w) (base := base) T
  have G_InvalidTextx_initx := ok_InvalidTextx_initx (P := P) (w := w) (base := base) T
  have G_InvalidEntryx_initx := ok_InvalidEntryx_initx (P := P) (w := w) (base := base) T
  have G_UnknownModulex_initx := ok_UnknownModulex_initx (P := P) (w := w) (base := base) T
  have G_UnknownUsex_initx := ok_UnknownUsex_initx (P := P) (w := w) (base := base) T
  have G_UnknownVersionx_initx := ok_UnknownVersionx_initx (P := P) (w := w) (base := base) T
  have G_UnknownOperatorx_initx := ok_UnknownOperatorx_initx (P := P) (w := w) (base := base) T
  have G_UnknownSessionx_initx := ok_UnknownSessionx_initx (P := P) (w := w) (base := base) T
  have G_NotRisingx_initx := ok_NotRisingx_initx (P := P) (w := w) (base := base) T
  have G_NotConsistentx_initx := ok_NotConsistentx_initx (P := P) (w := w) (base := base) T
  have G_NotBelowx_initx := ok_NotBelowx_initx (P := P) (w := w) (base := base) T
  have G_CannotMeetx_initx := ok_CannotMeetx_initx (P := P) (w := w) (base := base) T
  have G_NoStepx_initx := ok_NoStepx_initx (P := P) (w := w) (base := base) T
  have G_MissingNeedx_initx := ok_MissingNeedx_initx (P := P) (w := w) (base := base) T
  have G_NotAvailablex_initx := ok_NotAvailablex_initx (P := P) (w := w) (base := base) T
  have G_Pinnedx_initx := ok_Pinnedx_initx (P := P) (w := w) (base := base) T
  have G_InUsex_initx := ok_InUsex_initx (P := P) (w := w) (base := base) T
  have G_NameTakenx_initx := ok_NameTakenx_initx (P := P) (w := w) (base := base) T
  have G_TooManyx_initx := ok_TooManyx_initx (P := P) (w := w) (base := base) T
  have G_NoStatex_initx := ok_NoStatex_initx (P := P) (w := w) (base := base) T
  have G_Unreachablex_initx := ok_Unreachablex_initx (P := P) (w := w) (base := base) T
  refine ok_g T.F_l_single_named sc_l_single_named (fun vs H Q E h => ?_) (fun cdv Ar outer s H vs Q E hr h => ?_)
  · obtain ⟨_, rfl, _⟩ := h; rfl
  · obtain ⟨v, rfl, q⟩ := h
    refine ⟨_, (pss_cons (ps_set (i := 1) sc_l_single_named.nd rfl (.inl rfl) (pe_lstN (pa_cons (pe_mky T.EX_InvalidName T.nf_InvalidName_value (pe_mkW T.EX_InvalidName.o T.iC_InvalidName T.tI_InvalidName G_InvalidNamex_initx (hr.room.mono (by decide)) T.kbi_InvalidNamex_initx_value pass0 (by rfl) T.gX_InvalidName (pk_cons (pv 0) pk_nil))) (pa_cons (pe_mky T.EX_InvalidVersion T.nf_InvalidVersion_value (pe_mkW T.EX_InvalidVersion.o T.iC_InvalidVersion T.tI_InvalidVersion G_InvalidVersionx_initx (hr.room.mono (by decide)) T.kbi_InvalidVersionx_initx_value pass0 (by rfl) T.gX_InvalidVersion (pk_cons (pv 0) pk_nil))) (pa_cons (pe_mky T.EX_InvalidWindow T.nf_InvalidWindow_value (pe_mkW T.EX_InvalidWindow.o T.iC_InvalidWindow T.tI_InvalidWindow G_InvalidWindowx_initx (hr.room.mono (by decide)) T.kbi_InvalidWindowx_initx_value pass0 (by rfl) T.gX_InvalidWindow (pk_cons (pv 0) pk_nil))) pa_nil)))))
(pss_cons (ps_set (i := 1) sc_l_single_named.nd rfl (.inl rfl) (pe_op op_catN (pv 1) (pe_lstN (pa_cons (pe_mky T.EX_InvalidWindows T.nf_InvalidWindows_position (pe_mkW T.EX_InvalidWindows.o T.iC_InvalidWindows T.tI_InvalidWindows G_InvalidWindowsx_initx (hr.room.mono (by decide)) T.kbi_InvalidWindowsx_initx_position pass0 (by rfl) T.gX_InvalidWindows (pk_cons (pv 0) pk_nil))) (pa_cons (pe_mky T.EX_InvalidUses T.nf_InvalidUses_module (pe_mkW T.EX_InvalidUses.o T.iC_InvalidUses T.tI_InvalidUses G_InvalidUsesx_initx (hr.room.mono (by decide)) T.kbi_InvalidUsesx_initx_module pass0 (by rfl) T.gX_InvalidUses (pk_cons (pv 0) pk_nil))) pa_nil)))))
(pss_cons (ps_set (i := 1) sc_l_single_named.nd rfl (.inl rfl) (pe_op op_catN (pv 1) (pe_lstN (pa_cons (pe_mky T.EX_InvalidRows T.nf_InvalidRows_position (pe_mkW T.EX_InvalidRows.o T.iC_InvalidRows T.tI_InvalidRows G_InvalidRowsx_initx (hr.room.mono (by decide)) T.kbi_InvalidRowsx_initx_position pass0 (by rfl) T.gX_InvalidRows (pk_cons (pv 0) pk_nil))) (pa_cons (pe_mky T.EX_InvalidState T.nf_InvalidState_module (pe_mkW T.EX_InvalidState.o T.iC_InvalidState T.tI_InvalidState G_InvalidStatex_initx (hr.room.mono (by decide)) T.kbi_InvalidStatex_initx_module pass0 (by rfl) T.gX_InvalidState (pk_cons (pv 0) pk_nil))) pa_nil)))))
(pss_cons (ps_set (i := 1) sc_l_single_named.nd rfl (.inl rfl) (pe_op op_catN (pv 1) (pe_lstN (pa_cons (pe_mky T.EX_InvalidDemand T.nf_InvalidDemand_value (pe_mkW T.EX_InvalidDemand.o T.iC_InvalidDemand T.tI_InvalidDemand G_InvalidDemandx_initx (hr.room.mono (by decide)) T.kbi_InvalidDemandx_initx_value pass0 (by rfl) T.gX_InvalidDemand (pk_cons (pv 0) pk_nil))) (pa_cons (pe_mky T.EX_InvalidGoals T.nf_InvalidGoals_position (pe_mkW T.EX_InvalidGoals.o T.iC_InvalidGoals T.tI_InvalidGoals G_InvalidGoalsx_initx (hr.room.mono (by decide)) T.kbi_InvalidGoalsx_initx_position pass0 (by rfl) T.gX_InvalidGoals (pk_cons (pv 0) pk_nil))) pa_nil)))))
(pss_cons (ps_set (i := 1) sc_l_single_named.nd rfl (.inl rfl) (pe_op op_catN (pv 1) (pe_lstN (pa_cons (pe_mky T.EX_InvalidStep T.nf_InvalidStep_value (pe_mkW T.EX_InvalidStep.o T.iC_InvalidStep T.tI_InvalidStep G_InvalidStepx_initx (hr.room.mono (by decide)) T.kbi_InvalidStepx_initx_value pass0 (by rfl) T.gX_InvalidStep (pk_cons (pv 0) pk_nil))) (pa_cons (pe_mky T.EX_InvalidSteps T.nf_InvalidSteps_position (pe_mkW T.EX_InvalidSteps.o T.iC_InvalidSteps T.tI_InvalidSteps G_InvalidStepsx_initx (hr.room.mono (by decide)) T.kbi_InvalidStepsx_initx_position pass0 (by rfl) T.gX_InvalidSteps (pk_cons (pv 0) pk_nil))) (pa_cons (pe_mky T.EX_InvalidCount T.nf_InvalidCount_value (pe_mkW T.EX_InvalidCount.o T.iC_InvalidCount T.tI_InvalidCount G_InvalidCountx_initx (hr.room.mono (by decide)) T.kbi_InvalidCountx_initx_value pass0 (by rfl) T.gX_InvalidCount (pk_cons (pv 0) pk_nil))) pa_nil))))))
(pss_cons (ps_set (i := 1) sc_l_single_named.nd rfl (.inl rfl) (pe_op op_catN (pv 1) (pe_lstN (pa_cons (pe_mky T.EX_InvalidText T.nf_InvalidText_line (pe_mkW T.EX_InvalidText.o T.iC_InvalidText T.tI_InvalidText G_InvalidTextx_initx (hr.room.mono (by decide)) T.kbi_InvalidTextx_initx_line pass0 (by rfl) T.gX_InvalidText (pk_cons (pv 0) pk_nil))) (pa_cons (pe_mky T.EX_UnknownModule T.nf_UnknownModule_value (pe_mkW T.EX_UnknownModule.o T.iC_UnknownModule T.tI_UnknownModule G_UnknownModulex_initx (hr.room.mono (by decide)) T.kbi_UnknownModulex_initx_value pass0 (by rfl) T.gX_UnknownModule (pk_cons (pv 0) pk_nil))) (pa_cons (pe_mky T.EX_UnknownOperator T.nf_UnknownOperator_value (pe_mkW T.EX_UnknownOperator.o T.iC_UnknownOperator T.tI_UnknownOperator G_UnknownOperatorx_initx (hr.room.mono (by decide)) T.kbi_UnknownOperatorx_initx_value pass0 (by rfl) T.gX_UnknownOperator (pk_cons (pv 0) pk_nil))) pa_nil))))))
(pss_cons (ps_set (i := 1) sc_l_single_named.nd rfl (.inl rfl) (pe_op op_catN (pv 1) (pe_lstN (pa_cons (pe_mky T.EX_UnknownSession T.nf_UnknownSession_value (pe_mkW T.EX_UnknownSession.o T.iC_UnknownSession T.tI_UnknownSession G_UnknownSessionx_initx (hr.room.mono (by decide)) T.kbi_UnknownSessionx_initx_value pass0 (by rfl) T.gX_UnknownSession (pk_cons (pv 0) pk_nil))) (pa_cons (pe_mky T.EX_NotBelow T.nf_NotBelow_module (pe_mkW T.EX_NotBelow.o T.iC_NotBelow T.tI_NotBelow G_NotBelowx_initx (hr.room.mono (by decide)) T.kbi_NotBelowx_initx_module pass0 (by rfl) T.gX_NotBelow (pk_cons (pv 0) pk_nil))) (pa_cons (pe_mky T.EX_MissingNeed T.nf_MissingNeed_step (pe_mkW T.EX_MissingNeed.o T.iC_MissingNeed T.tI_MissingNeed G_MissingNeedx_initx (hr.room.mono (by decide)) T.kbi_MissingNeedx_initx_step pass0 (by rfl) T.gX_MissingNeed (pk_cons (pv 0) pk_nil))) pa_nil))))))
(pss_cons (ps_set (i := 1) sc_l_single_named.nd rfl (.inl rfl) (pe_op op_catN (pv 1) (pe_lstN (pa_cons (pe_mky T.EX_NotAvailable T.nf_NotAvailable_step (pe_mkW T.EX_NotAvailable.o T.iC_NotAvailable T.tI_NotAvailable G_NotAvailablex_initx (hr.room.mono (by decide)) T.kbi_NotAvailablex_initx_step pass0 (by rfl) T.gX_NotAvailable (pk_cons (pv 0) pk_nil))) (pa_cons (pe_mky T.EX_NameTaken T.nf_NameTaken_value (pe_mkW T.EX_NameTaken.o T.iC_NameTaken T.tI_NameTaken G_NameTakenx_initx (hr.room.mono (by decide)) T.kbi_NameTakenx_initx_value pass0 (by rfl) T.gX_NameTaken (pk_cons (pv 0) pk_nil))) (pa_cons (pe_mky T.EX_NoState T.nf_NoState_chain (pe_mkW T.EX_NoState.o T.iC_NoState T.tI_NoState G_NoStatex_initx (hr.room.mono (by decide)) T.kbi_NoStatex_initx_chain pass0 (by rfl) T.gX_NoState (pk_cons (pv 0) pk_nil))) pa_nil))))))
(pss_one (ps_ret (pe_op op_catN (pv 1) (pe_lstN (pa_cons (pe_mky T.EX_Unreachable T.nf_Unreachable_chain (pe_mkW T.EX_Unreachable.o T.iC_Unreachable T.tI_Unreachable G_Unreachablex_initx (hr.room.mono (by decide)) T.kbi_Unreachablex_initx_chain pass0 (by rfl) T.gX_Unreachable (pk_cons (pv 0) pk_nil))) (pa_cons (pe_mky T.EX_InvalidEntry T.nf_InvalidEntry_value (pe_mkW T.EX_InvalidEntry.o T.iC_InvalidEntry T.tI_InvalidEntry G_InvalidEntryx_initx (hr.room.mono (by decide)) T.kbi_InvalidEntryx_initx_value pass0 (by rfl) T.gX_InvalidEntry (pk_cons (pv 0) pk_nil))) pa_nil)))))))))))))), ?_⟩
    repeat (walk_at "st")
    refine i_newN fun p1 G1 n1 z1 s1 e1 => ?_
    repeat (walk_at "st")
    refine i_newN fun p2 G2 n2 z2 s2 e2 => ?_
    repeat (walk_at "st")
    refine i_newN fun p3 G3 n3 z3 s3 e3 => ?_
    repeat (walk_at "st")
    refine i_newN fun p4 G4 n4 z4 s4 e4 => ?_
    repeat (walk_at "st")
    refine i_newN fun p5 G5 n5 z5 s5 e5 => ?_
    repeat (walk_at "st")
    refine i_newN fun p6 G6 n6 z6 s6 e6 => ?_
    repeat (walk_at "st")
    refine i_newN fun p7 G7 n7 z7 s7 e7 => ?_
    repeat (walk_at "st")
    refine i_newN fun p8 G8 n8 z8 s8 e8 => ?_
    repeat (walk_at "st")
    refine i_newN fun p9 G9 n9 z9 s9 e9 => ?_
    repeat (walk_at "st")
    refine i_newN fun p10 G10 n10 z10 s10 e10 => ?_
    repeat (walk_at "st")
    refine i_newN fun p11 G11 n11 z11 s11 e11 => ?_
    repeat (walk_at "st")
    refine i_newN fun p12 G12 n12 z12 s12 e12 => ?_
    repeat (walk_at "st")
    refine i_newN fun p13 G13 n13 z13 s13 e13 => ?_
    repeat (walk_at "st")
    refine i_newN fun p14 G14 n14 z14 s14 e14 => ?_
    repeat (walk_at "st")
    refine i_newN fun p15 G15 n15 z15 s15 e15 => ?_
    repeat (walk_at "st")
    refine i_newN fun p16 G16 n16 z16 s16 e16 => ?_
    repeat (walk_at "st")
    refine i_newN fun p17 G17 n17 z17 s17 e17 => ?_
    exact q _ _ z17 (by walk_at "off") e17
end
end KX

namespace KX
open PySem PySem.Spec PyProof.Rows L2

local macro_rules | `(tactic| walk_at "xi") => `(tactic| first
  | assumption
  | with_reducible exact XI.same (by assumption) (by walk_at "xi")
  | fail)
local macro_rules | `(tactic| walk_at "px") => `(tactic| first
  | assumption
  | with_reducible exact PX.same (by assumption) (by walk_at "px")
  | fail)

local macro_rules | `(tactic| walk_at "kp") => `(tactic| first
  | with_reducible exact Kp.refl
  | with_reducible exact Kp.thenS (by assumption) (by walk_at "kp")
  | with_reducible exact Kp.thenO (by assumption) (by walk_at "ne") (by walk_at "kp")
  | fail)
local macro_rules | `(tactic| walk_at "hq") => `(tactic| first
  | assumption
  | with_reducible exact Kp.get (by assumption) (by walk_at "kp")
  | fail)
local macro_rules | `(tactic| walk_at "hg") => `(tactic| first
  | walk_at "hq"
  | exact upd_same
  | with_reducible exact (upd_ne (by walk_at "ne")).trans (by walk_at "hg")
  | with_reducible exact Same.get (by assumption) (by walk_at "hg")
  | with_reducible exact Off.get (by assumption) (by walk_at "ne") (by walk_at "hg")
  | fail)
local macro_rules | `(tactic| walk_at "ne") => `(tactic| first
  | assumption
  | (apply Ne.symm; assumption)
  | exact Rok.ne' (by assumption) (by walk_at "rok")
  | exact (Rok.ne' (by assumption) (by walk_at "rok")).symm
  | exact ne_some (by assumption) (by walk_at "hg")
  | exact (ne_some (by assumption) (by walk_at "hg")).symm
  | fail)
local macro_rules | `(tactic| walk_at "rok") => `(tactic| first
  | assumption
  | with_reducible exact Rok.kp (by assumption) (by walk_at "kp")
  | with_reducible exact Rok.same (by assumption) (by walk_at "rok")
  | fail)
local macro_rules | `(tactic| walk_at "sq") => `(tactic| first
  | assumption
  | exact Same.seq (by assumption) (by assumption)
  | (with_reducible show SqL _ _ _ _; with_reducible exact SqL.of (by walk_at "hg"))
  | (with_reducible show SqT _ _ _ _; with_reducible exact SqT.of (by walk_at "hg"))
  | fail)
local macro_rules | `(tactic| walk_at "dac") => `(tactic| first
  | assumption
  | exact DaF.same (by assumption) (by walk_at "dac")
  | fail)
local macro_rules | `(tactic| walk_at "da") => `(tactic| first
  | exact (DaF.non : DaS _ _ _ _)
  | exact (DaF.bl _ : DaS _ _ _ _)
  | exact (DaF.int _ : DaS _ _ _ _)
  | exact (DaF.str _ : DaS _ _ _ _)
  | exact DaF.non
  | exact DaF.bl _
  | exact DaF.int _
  | exact DaF.str _
  | walk_at "dac"
  | with_reducible exact DaF.lst (SqL.of (by walk_at "hq")) (fun _ => by assumption) (by walk_at "das")
  | with_reducible exact Da.lst (SqL.of (by walk_at "hq")) (by walk_at "das")
  | with_reducible exact DaF.tup (SqT.of (by walk_at "hq")) (by walk_at "das")
  | with_reducible exact DaF.dic (Rd.of (by walk_at "hq")) (by walk_at "dak")
  | fail)
local macro_rules | `(tactic| walk_at "das") => `(tactic| first
  | assumption
  | exact DaAllF.nil
  | exact DaAllF.cons (by walk_at "da") (by walk_at "das")
  | fail)
local macro_rules | `(tactic| walk_at "dak") => `(tactic| first
  | assumption
  | exact DaKvF.nil
  | exact DaKvF.cons (by walk_at "da") (by walk_at "dak")
  | fail)
local macro_rules | `(tactic| walk_at "shw") => `(tactic| first
  | assumption
  | exact shw_b2 _ _
  | exact ⟨by decide +kernel, by decide +kernel, by decide +kernel⟩
  | fail)
local macro_rules | `(tactic| walk_at "nod") => `(tactic| first
  | exact .inl rfl
  | exact .inr rfl
  | assumption
  | exact .inr (by assumption)
  | fail)
local macro_rules | `(tactic| walk_at "okd") => `(tactic| first
  | assumption
  | exact okd_of (by decide +kernel)
  | fail)
local macro_rules | `(tactic| walk_at "off") => `(tactic| first
  | assumption
  | exact Off.refl _ _
  | exact Same.refl _
  | with_reducible exact Same.thenS (by assumption) (by walk_at "off")
  | with_reducible exact Off.thenS (by assumption) (by walk_at "off")
  | with_reducible exact Off.thenO (by assumption) (by walk_at "off")
  | with_reducible exact Same.thenF (by assumption) (by assumption) (by walk_at "off") (by walk_at "off")
  | with_reducible exact Off.thenF (by assumption) (by assumption) (by walk_at "off") (by walk_at "off")
  | fail)
local macro_rules | `(tactic| walk_at "side") => `(tactic| first
  | assumption
  | omega
  | decide
  | (simp only [List.length_append, List.length_cons, List.length_nil]; decide)
  | exact ⟨by omega, by omega⟩
  | exact ⟨by omega, PyProof.noPylong_of_log2 (by first | assumption | decide)⟩
  | exact .inl ⟨by omega, by omega⟩
  | exact .inr ⟨by omega, by omega⟩
  | exact ⟨by decide, by decide, by decide⟩
  | exact ⟨by decide, by decide, by omega⟩
  | fail)
local macro_rules | `(tactic| walk_at "st") => `(tactic| first
  | with_reducible refine i_seq ?_
  | with_reducible refine i_bi ?_
  | with_reducible refine i_raise ?_
  | with_reducible refine i_callX ?_
  | with_reducible refine i_tryN ?_
  | with_reducible refine i_isNon ?_
  | with_reducible refine i_isNotNon ?_
  | ((with_reducible refine' i_split ?h ?z ?_); (case h => rfl); (case z => walk_at "side"))
  | with_reducible refine i_find ?_
  | ((with_reducible refine i_strI ?h ?_); (case h => walk_at "side"))
  | with_reducible refine i_fmt ?_
  | ((with_reducible refine i_fmS ?h ?_); (case h => walk_at "side"))
  | ((with_reducible refine i_fmI ?h ?_); (case h => walk_at "side"))
  | with_reducible refine i_jn ?_
  | with_reducible refine i_js0 ?_
  | with_reducible refine i_js1 ?_
  | ((with_reducible refine i_jsR ?h ?_); (case h => walk_at "side"))
  | with_reducible refine i_revS ?_
  | ((with_reducible refine i_exrev ?h ?_); (case h => walk_at "side"))
  | with_reducible refine i_revL ?_
  | ((with_reducible refine' i_exrevL ?h ?_); (case h => walk_at "sq"))
  | with_reducible refine i_par3 ?_
  | with_reducible refine i_ex3 ?_
  | with_reducible refine i_stB ?_
  | with_reducible refine i_mk0 ?_
  | with_reducible refine i_asg ?_
  | with_reducible refine i_c ?_
  | ((with_reducible refine' i_var ?h ?_); (case h => rfl))
  | with_reducible refine i_op ?_
  | with_reducible refine i_cons ?_
  | with_reducible refine i_nil ?_
  | ((with_reducible refine' i_gName ?h ?_); (case h => rfl))
  | with_reducible refine i_rI0 ?_
  | ((with_reducible refine i_rI ?h ?_); (case h => walk_at "side"))
  | with_reducible refine i_test ?_
  | with_reducible refine i_exbl ?_
  | with_reducible refine i_exint ?_
  | with_reducible refine i_exs ?_
  | with_reducible refine i_ret ?_
  | with_reducible refine i_next ?_
  | with_reducible refine i_ifS ?_
  | ((with_reducible refine' i_rIxL ?h ?e ?_); (case h => walk_at "sq"); (case e => first | assumption | rfl))
  | ((with_reducible refine' i_rIxT ?h ?e ?_); (case h => walk_at "sq"); (case e => first | assumption | rfl))
  | ((with_reducible refine' i_rIxS ?h ?e ?_); (case h => walk_at "side"); (case e => first | assumption | rfl))
  | with_reducible refine i_un ?_
  | with_reducible refine i_rU ?_
  | ((with_reducible refine i_rEqSame ?h ?_); (case h => rfl))
  | ((with_reducible refine i_rNeSame ?h ?_); (case h => rfl))
  | ((with_reducible refine i_rEq ?h ?_); (case h => rfl))
  | ((with_reducible refine i_rNe ?h ?_); (case h => rfl))
  | with_reducible refine i_tB ?_
  | with_reducible refine i_and ?_
  | with_reducible refine i_or ?_
  | with_reducible refine i_not ?_
  | with_reducible refine i_andV ?_
  | with_reducible refine i_orV ?_
  | with_reducible refine i_notV ?_
  | with_reducible refine i_if ?_
  | with_reducible refine i_chain ?_
  | with_reducible refine i_drop ?_
  | with_reducible refine i_retN ?_
  | with_reducible refine i_par ?_
  | with_reducible refine i_ex2 ?_
  | ((with_reducible refine' i_aug ?h ?_); (case h => rfl))
  | with_reducible refine i_gNil ?_
  | with_reducible refine i_gCons ?_
  | ((with_reducible refine' i_gTup ?h ?e ?_); (case h => walk_at "sq"); (case e => rfl))
  | with_reducible refine i_gSub ?_
  | ((with_reducible refine' i_rSetL ?h ?e ?_); (case h => walk_at "hg"); (case e => first | assumption | rfl))
  | with_reducible refine i_tup ?_
  | with_reducible refine i_lst ?_
  | with_reducible refine i_lstN ?_
  | with_reducible refine i_newDK ?_
  | with_reducible refine i_disp ?_
  | with_reducible refine i_pairs0 ?_
  | with_reducible refine i_pairs1 ?_
  | with_reducible refine i_call ?_
  | with_reducible refine i_mkV0 ?_
  | with_reducible refine i_mkW0 ?_
  | with_reducible refine i_mkX0 ?_
  | with_reducible refine i_mkY0 ?_
  | with_reducible refine i_xv0 ?_
  | with_reducible refine i_mk00 ?_
  | ((with_reducible refine' i_mkX ?h ?f ?l ?_); (case h => rfl); (case f => decide); (case l => rfl); intro _ _)
  | ((with_reducible refine' i_xvQ ?T ?n ?a ?d ?l ?_); (case a => walk_at "hg"); (case d => walk_at "hg"); (case T => assumption); (case n => assumption); (case l => rfl))
  | ((with_reducible refine' i_isVr ?T ?G ?h ?k ?_); (case h => walk_at "xi"); (case T => assumption); (case G => assumption); (case k => assumption))
  | ((with_reducible refine' i_isVt ?T ?G ?h ?k ?_); (case h => walk_at "xi"); (case T => assumption); (case G => assumption); (case k => assumption))
  | ((with_reducible refine' i_gLst ?h ?e ?_); (case h => walk_at "sq"); (case e => rfl))
  | ((with_reducible refine' i_rCatN ?h ?e ?z ?_); (case h => walk_at "hg"); (case e => walk_at "hg"); (case z => walk_at "side"))
  | ((with_reducible refine' i_rRepN ?h ?e ?z ?_); (case h => walk_at "hg"); (case e => decide); (case z => walk_at "side"))
  | with_reducible refine i_cb ?_
  | with_reducible refine i_bm ?_
  | with_reducible refine i_m1 ?_
  | with_reducible refine i_m0 ?_
  | ((with_reducible refine' i_rAppend ?h ?e ?_); (case h => walk_at "hg"); (case e => walk_at "side"))
  | ((with_reducible refine i_rSlS ?h ?_); (case h => walk_at "side"))
  | ((with_reducible refine' i_rSlL ?h ?_); (case h => walk_at "sq"))
  | with_reducible refine i_sl ?_
  | with_reducible refine i_noPart ?_
  | with_reducible refine i_part ?_
  | with_reducible refine i_rng1 ?_
  | with_reducible refine i_iList ?_
  | with_reducible refine i_iStr ?_
  | with_reducible refine i_iEnum ?_
  | with_reducible refine i_iZip ?_
  | with_reducible refine i_ez ?_
  | ((with_reducible refine' i_exen ?h ?_); (case h => walk_at "sq"))
  | ((with_reducible refine' i_exz ?h ?k ?_); (case h => walk_at "sq"); (case k => walk_at "sq"))
  | ((with_reducible refine' i_listN ?h ?_); (case h => walk_at "sq"))
  | with_reducible refine i_intB ?_
  | ((with_reducible refine' i_tyL ?h ?_); (case h => walk_at "sq"))
  | with_reducible refine i_isBl ?_
  | ((with_reducible refine i_callW ?_))
  | ((with_reducible refine i_exrng ?h1 ?h2 ?_); (case h1 => walk_at "side"); (case h2 => walk_at "side"))
  | ((with_reducible refine' i_exl ?h ?_); (case h => walk_at "sq"))
  | with_reducible refine i_for ?_
  | with_reducible refine i_lc ?_
  | with_reducible refine i_yes ?_
  | with_reducible refine i_iteT ?_
  | with_reducible refine i_iteF ?_
  | ((with_reducible refine i_divmod ?h ?_); (case h => walk_at "side"))
  | ((with_reducible refine' i_isi ?h ?e ?_); (case h => walk_at "da"); (case e => decide))
  | ((with_reducible refine i_lenS ?h ?_); (case h => walk_at "side"))
  | ((with_reducible refine' i_lenL ?h ?_); (case h => walk_at "sq"))
  | ((with_reducible refine' i_lenT ?h ?_); (case h => walk_at "sq"))
  | ((with_reducible refine' i_repr ?h ?n ?e ?_); (case h => walk_at "da"); (case n => walk_at "nod"); (case e => walk_at "shw"))
  | ((with_reducible refine' i_rCat ?h ?e ?z ?_); (case h => walk_at "hg"); (case e => walk_at "hg"); (case z => walk_at "side"))
  | ((with_reducible refine i_rCatS ?h ?_); (case h => walk_at "side"))
  | with_reducible refine i_exstr ?_
  | ((with_reducible refine' i_join ?h ?z ?_); (case h => walk_at "sq"); (case z => walk_at "side"))
  | with_reducible refine i_abs ?_
  | with_reducible refine i_max ?_
  | with_reducible refine i_min ?_
  | ((with_reducible refine' i_rAll ?h ?_); (case h => walk_at "sq"))
  | ((with_reducible refine' i_lcEl ?h ?e ?_); (case h => walk_at "hg"); (case e => walk_at "side"))
  | with_reducible refine ⟨_, _, rfl, rfl, ?_⟩
  | with_reducible refine ⟨_, _, rfl, ?_⟩
  | with_reducible refine ⟨_, rfl, ?_⟩
  | with_reducible refine And.intro rfl ?_
  | ((with_reducible refine And.intro ?h ?_); (case h => walk_at "side"))
  | fail)

section
variable {P : Program} {w : World} {K : PySem.W.Frag} {mg : Str → Option Value} {base : Heap} {A : Ad}
def sp_l_pairs (K : PySem.W.Frag) (A : Ad) : Sp := fun vs H Q _ => ∃ (l e1 e2 e3 e4 e5 e6 e7 e8 e9 : Addr) (a b : V), vs = [.ref l] ∧ SqL K H l [.ref e1, .ref e2, .ref e3, .ref e4, .ref e5, .ref e6, .ref e7, .ref e8, .ref e9] ∧ PX H e1 A.c_UnknownUse ["user", "used"] a b ∧ PX H e2 A.c_NotRising ["user", "used"] a b ∧ PX H e3 A.c_NotConsistent ["user", "used"] a b ∧ PX H e4 A.c_UnknownVersion ["module", "version"] a b ∧ PX H e5 A.c_CannotMeet ["module", "version"] a b ∧ PX H e6 A.c_NoStep ["module", "version"] a b ∧ PX H e7 A.c_Pinned ["module", "version"] a b ∧ PX H e8 A.c_InUse ["module", "version"] a b ∧ PX H e9 A.c_TooMany ["kind", "limit"] a b ∧
  ∀ p ts H', p ≠ sysModules → Same H H' → H' p = some (.lst ts) → ts.length = 9 → (∀ t ∈ ts, ∃ c, t = .ref c ∧ H' c = some (.tup [a, b])) → Q (.ref p) H'
theorem ok_l_pairs (T : Txt K mg A) : Fg P w K mg base CX0 1 A.f_l_pairs A.d_l_pairs ["_law_made"] (sp_l_pairs K A) := by
  refine ok_g T.F_l_pairs sc_l_pairs (fun vs H Q E h => ?_) (fun cdv Ar outer s H vs Q E hr h => ?_)
  · obtain ⟨_, _, _, _, _, _, _, _, _, _, _, _, rfl, _⟩ := h; rfl
  · obtain ⟨l, e1, e2, e3, e4, e5, e6, e7, e8, e9, a, b, rfl, hq, ⟨x1, y1, w1⟩, ⟨x2, y2, w2⟩, ⟨x3, y3, w3⟩, ⟨x4, y4, w4⟩, ⟨x5, y5, w5⟩, ⟨x6, y6, w6⟩, ⟨x7, y7, w7⟩, ⟨x8, y8, w8⟩, ⟨x9, y9, w9⟩, q⟩ := h
    refine ⟨_, (pss_cons (ps_asg (pv 0) (pg_lst rfl (pgs_cons (pg_name (i := 1) sc_l_pairs.nd rfl (.inl rfl)) (pgs_cons (pg_name (i := 2) sc_l_pairs.nd rfl (.inl rfl)) (pgs_cons (pg_name (i := 3) sc_l_pairs.nd rfl (.inl rfl)) (pgs_cons (pg_name (i := 4) sc_l_pairs.nd rfl (.inl rfl)) (pgs_cons (pg_name (i := 5) sc_l_pairs.nd rfl (.inl rfl)) (pgs_cons (pg_name (i := 6) sc_l_pairs.nd rfl (.inl rfl)) (pgs_cons (pg_name (i := 7) sc_l_pairs.nd rfl (.inl rfl)) (pgs_cons (pg_name (i := 8) sc_l_pairs.nd rfl (.inl rfl)) (pgs_cons (pg_name (i := 9) sc_l_pairs.nd rfl (.inl rfl)) pgs_nil)))))))))))
(pss_cons (ps_set (i := 10) sc_l_pairs.nd rfl (.inl rfl) (pe_lstN (pa_cons (pe_tup (pa_cons (pe_xv (pv 1)) (pa_cons (pe_xv (pv 1)) pa_nil))) (pa_cons (pe_tup (pa_cons (pe_xv (pv 2)) (pa_cons (pe_xv (pv 2)) pa_nil))) (pa_cons (pe_tup (pa_cons (pe_xv (pv 3)) (pa_cons (pe_xv (pv 3)) pa_nil))) pa_nil)))))
(pss_cons (ps_set (i := 10) sc_l_pairs.nd rfl (.inl rfl) (pe_op op_catN (pv 10) (pe_lstN (pa_cons (pe_tup (pa_cons (pe_xv (pv 4)) (pa_cons (pe_xv (pv 4)) pa_nil))) (pa_cons (pe_tup (pa_cons (pe_xv (pv 5)) (pa_cons (pe_xv (pv 5)) pa_nil))) (pa_cons (pe_tup (pa_cons (pe_xv (pv 6)) (pa_cons (pe_xv (pv 6)) pa_nil))) pa_nil))))))
(pss_one (ps_ret (pe_op op_catN (pv 10) (pe_lstN (pa_cons (pe_tup (pa_cons (pe_xv (pv 7)) (pa_cons (pe_xv (pv 7)) pa_nil))) (pa_cons (pe_tup (pa_cons (pe_xv (pv 8)) (pa_cons (pe_xv (pv 8)) pa_nil))) (pa_cons (pe_tup (pa_cons (pe_xv (pv 9)) (pa_cons (pe_xv (pv 9)) pa_nil))) pa_nil)))))))))), ?_⟩
    have T0 := T.EX_UnknownUse
    have U0 := T.nf_UnknownUse_user
    have V0 := T.nf_UnknownUse_used
    have T1 := T.EX_NotRising
    have U1 := T.nf_NotRising_user
    have V1 := T.nf_NotRising_used
    have T2 := T.EX_NotConsistent
    have U2 := T.nf_NotConsistent_user
    have V2 := T.nf_NotConsistent_used
    have T3 := T.EX_UnknownVersion
    have U3 := T.nf_UnknownVersion_module
    have V3 := T.nf_UnknownVersion_version
    have T4 := T.EX_CannotMeet
    have U4 := T.nf_CannotMeet_module
    have V4 := T.nf_CannotMeet_version
    have T5 := T.EX_NoStep
    have U5 := T.nf_NoStep_module
    have V5 := T.nf_NoStep_version
    have T6 := T.EX_Pinned
    have U6 := T.nf_Pinned_module
    have V6 := T.nf_Pinned_version
    have T7 := T.EX_InUse
    have U7 := T.nf_InUse_module
    have V7 := T.nf_InUse_version
    have T8 := T.EX_TooMany
    have U8 := T.nf_TooMany_kind
    have V8 := T.nf_TooMany_limit
    repeat (walk_at "st")
    refine i_new fun p11 G11 n11 s11 e11 => ?_
    repeat (walk_at "st")
    refine i_new fun p12 G12 n12 s12 e12 => ?_
    repeat (walk_at "st")
    refine i_new fun p13 G13 n13 s13 e13 => ?_
    repeat (walk_at "st")
    refine i_newN fun p14 G14 n14 z14 s14 e14 => ?_
    repeat (walk_at "st")
    refine i_new fun p15 G15 n15 s15 e15 => ?_
    repeat (walk_at "st")
    refine i_new fun p16 G16 n16 s16 e16 => ?_
    repeat (walk_at "st")
    refine i_new fun p17 G17 n17 s17 e17 => ?_
    repeat (walk_at "st")
    refine i_newN fun p18 G18 n18 z18 s18 e18 => ?_
    repeat (walk_at "st")
    refine i_newN fun p19 G19 n19 z19 s19 e19 => ?_
    repeat (walk_at "st")
    refine i_new fun p20 G20 n20 s20 e20 => ?_
    repeat (walk_at "st")
    refine i_new fun p21 G21 n21 s21 e21 => ?_
    repeat (walk_at "st")
    refine i_new fun p22 G22 n22 s22 e22 => ?_
    repeat (walk_at "st")
    refine i_newN fun p23 G23 n23 z23 s23 e23 => ?_
    repeat (walk_at "st")
    refine i_newN fun p24 G24 n24 z24 s24 e24 => ?_
    refine q _ _ _ z24 (by walk_at "off") e24 rfl fun t ht => ?_
    simp only [List.mem_append, List.mem_cons, List.not_mem_nil, or_false] at ht
    rcases ht with ((rfl | rfl | rfl) | rfl | rfl | rfl) | rfl | rfl | rfl <;> exact ⟨_, rfl, by walk_at "hg"⟩
def sp_l_double (K : PySem.W.Frag) : Sp := fun vs H Q _ => ∃ (a b : V) (da db : PyData), vs = [a, b] ∧ DaS K H a da ∧ DaS K H b db ∧ Odd da ∧ Odd db ∧ ∀ H', Same H H' → Q (.bl true) H'
theorem ok_l_double_right (T : Txt K mg A) (G_l_pairs : Fg P w K mg base CX0 1 A.f_l_pairs A.d_l_pairs ["_law_made"] (sp_l_pairs K A)) : Fg P w K mg base CX0 3 A.f_l_double_right A.d_l_double_right ["_law_a", "_law_b"] (sp_l_double K) := by
  have G_InvalidNamex_initx := ok_InvalidNamex_initx (P := P) (w := w) (base := base) T
  have G_InvalidVersionx_initx := ok_InvalidVersionx_initx (P := P) (w := w) (base := base) T
  have G_InvalidWindowx_initx := ok_InvalidWindowx_initx (P := P) (w := w) (base := base) T
  have G_InvalidWindowsx_initx := ok_InvalidWindowsx_initx (P := P) (w := w) (base := base) T
  have G_InvalidUsesx_initx := ok_InvalidUsesx_initx (P := P) (w := w) (base := base) T
  have G_InvalidRowsx_initx := ok_InvalidRowsx_initx (P := P) (w := w) (base := base) T
  have G_InvalidStatex_initx := ok_InvalidStatex_initx (P := P) (w := w) (base := base) T
  have G_InvalidDemandx_initx := ok_InvalidDemandx_initx (P := P) (w := w) (base := base) T
  have G_InvalidGoalsx_initx := ok_InvalidGoalsx_initx (P := P) (w := w) (base := base) T
  have G_InvalidStepx_initx := ok_InvalidStepx_initx (P := P) (w := w) (base := base) T
  have G_InvalidStepsx_initx := ok_InvalidStepsx_initx (P := P) (w := w) (base := base) T
  have G_InvalidCountx_initx := ok_InvalidCountx_initx (P := P) (w := w) (base := base) T
  have G_InvalidTextx_initx := ok_InvalidTextx_initx (P := P) (w := w) (base := base) T
  have G_InvalidEntryx_initx := ok_InvalidEntryx_initx (P := P) (w := w) (base := base) T
  have G_UnknownModulex_initx := ok_UnknownModulex_initx (P := P) (w := w) (base := base) T
  have G_UnknownUsex_initx := ok_UnknownUsex_initx (P := P) (w := w) (base := base) T
  have G_UnknownVersionx_initx := ok_UnknownVersionx_initx (P := P) (w := w) (base := base) T
  have G_UnknownOperatorx_initx := ok_UnknownOperatorx_initx (P := P) (w := w) (base := base) T
  have G_UnknownSessionx_initx := ok_UnknownSessionx_initx (P := P) (w := w) (base := base) T
  have G_NotRisingx_initx := ok_NotRisingx_initx (P := P) (w := w) (base := base) T
  have G_NotConsistentx_initx := ok_NotConsistentx_initx (P := P) (w := w) (base := base) T
  have G_NotBelowx_initx := ok_NotBelowx_initx (P := P) (w := w) (base := base) T
  have G_CannotMeetx_initx := ok_CannotMeetx_initx (P := P) (w := w) (base := base) T
  have G_NoStepx_initx := ok_NoStepx_initx (P := P) (w := w) (base := base) T
  have G_MissingNeedx_initx := ok_MissingNeedx_initx (P := P) (w := w) (base := base) T
  have G_NotAvailablex_initx := ok_NotAvailablex_initx (P := P) (w := w) (base := base) T
  have G_Pinnedx_initx := ok_Pinnedx_initx (P := P) (w := w) (base := base) T
  have G_InUsex_initx := ok_InUsex_initx (P := P) (w := w) (base := base) T
  have G_NameTakenx_initx := ok_NameTakenx_initx (P := P) (w := w) (base := base) T
  have G_TooManyx_initx := ok_TooManyx_initx (P := P) (w := w) (base := base) T
  have G_NoStatex_initx := ok_NoStatex_initx (P := P) (w := w) (base := base) T
  have G_Unreachablex_initx := ok_Unreachablex_initx (P := P) (w := w) (base := base) T
  refine ok_g T.F_l_double_right sc_l_double_right (fun vs H Q E h => ?_) (fun cdv Ar outer s H vs Q E hr h => ?_)
  · obtain ⟨_, _, _, _, rfl, _⟩ := h; rfl
  · obtain ⟨a, b, da, db, rfl, ha, hb, oa, ob, q⟩ := h
    refine ⟨_, (pss_cons (ps_set (i := 2) sc_l_double_right.nd rfl (.inl rfl) (pe_lstN (pa_cons (pe_mkV T.EX_UnknownUse.o T.iC_UnknownUse T.tI_UnknownUse G_UnknownUsex_initx (hr.room.mono (by decide)) T.b_UnknownUsex_initx pass0 (by rfl) T.gX_UnknownUse (pa_cons (pv 0) (pa_cons (pv 1) pa_nil))) (pa_cons (pe_mkV T.EX_NotRising.o T.iC_NotRising T.tI_NotRising G_NotRisingx_initx (hr.room.mono (by decide)) T.b_NotRisingx_initx pass0 (by rfl) T.gX_NotRising (pa_cons (pv 0) (pa_cons (pv 1) pa_nil))) (pa_cons (pe_mkV T.EX_NotConsistent.o T.iC_NotConsistent T.tI_NotConsistent G_NotConsistentx_initx (hr.room.mono (by decide)) T.b_NotConsistentx_initx pass0 (by rfl) T.gX_NotConsistent (pa_cons (pv 0) (pa_cons (pv 1) pa_nil))) (pa_cons (pe_mkV T.EX_UnknownVersion.o T.iC_UnknownVersion T.tI_UnknownVersion G_UnknownVersionx_initx (hr.room.mono (by decide)) T.b_UnknownVersionx_initx pass0 (by rfl) T.gX_UnknownVersion (pa_cons (pv 0) (pa_cons (pv 1) pa_nil))) (pa_cons (pe_mkV T.EX_CannotMeet.o T.iC_CannotMeet T.tI_CannotMeet G_CannotMeetx_initx (hr.room.mono (by decide)) T.b_CannotMeetx_initx pass0 (by rfl) T.gX_CannotMeet (pa_cons (pv 0) (pa_cons (pv 1) pa_nil))) pa_nil)))))))
(pss_cons (ps_set (i := 2) sc_l_double_right.nd rfl (.inl rfl) (pe_op op_catN (pv 2) (pe_lstN (pa_cons (pe_mkV T.EX_NoStep.o T.iC_NoStep T.tI_NoStep G_NoStepx_initx (hr.room.mono (by decide)) T.b_NoStepx_initx pass0 (by rfl) T.gX_NoStep (pa_cons (pv 0) (pa_cons (pv 1) pa_nil))) (pa_cons (pe_mkV T.EX_Pinned.o T.iC_Pinned T.tI_Pinned G_Pinnedx_initx (hr.room.mono (by decide)) T.b_Pinnedx_initx pass0 (by rfl) T.gX_Pinned (pa_cons (pv 0) (pa_cons (pv 1) pa_nil))) (pa_cons (pe_mkV T.EX_InUse.o T.iC_InUse T.tI_InUse G_InUsex_initx (hr.room.mono (by decide)) T.b_InUsex_initx pass0 (by rfl) T.gX_InUse (pa_cons (pv 0) (pa_cons (pv 1) pa_nil))) (pa_cons (pe_mkV T.EX_TooMany.o T.iC_TooMany T.tI_TooMany G_TooManyx_initx (hr.room.mono (by decide)) T.b_TooManyx_initx pass0 (by rfl) T.gX_TooMany (pa_cons (pv 0) (pa_cons (pv 1) pa_nil))) pa_nil)))))))
(pss_cons (ps_set (i := 3) sc_l_double_right.nd rfl (.inl rfl) (pe_lstN (pa_cons (pe_mkW T.EX_UnknownUse.o T.iC_UnknownUse T.tI_UnknownUse G_UnknownUsex_initx (hr.room.mono (by decide)) T.kbi_UnknownUsex_initx_used_user pass0 (by rfl) T.gX_UnknownUse (pk_cons (pv 1) (pk_cons (pv 0) pk_nil))) (pa_cons (pe_mkW T.EX_NotRising.o T.iC_NotRising T.tI_NotRising G_NotRisingx_initx (hr.room.mono (by decide)) T.kbi_NotRisingx_initx_used_user pass0 (by rfl) T.gX_NotRising (pk_cons (pv 1) (pk_cons (pv 0) pk_nil))) (pa_cons (pe_mkW T.EX_NotConsistent.o T.iC_NotConsistent T.tI_NotConsistent G_NotConsistentx_initx (hr.room.mono (by decide)) T.kbi_NotConsistentx_initx_used_user pass0 (by rfl) T.gX_NotConsistent (pk_cons (pv 1) (pk_cons (pv 0) pk_nil))) pa_nil)))))
(pss_cons (ps_set (i := 3) sc_l_double_right.nd rfl (.inl rfl) (pe_op op_catN (pv 3) (pe_lstN (pa_cons (pe_mkW T.EX_UnknownVersion.o T.iC_UnknownVersion T.tI_UnknownVersion G_UnknownVersionx_initx (hr.room.mono (by decide)) T.kbi_UnknownVersionx_initx_version_module pass0 (by rfl) T.gX_UnknownVersion (pk_cons (pv 1) (pk_cons (pv 0) pk_nil))) (pa_cons (pe_mkW T.EX_CannotMeet.o T.iC_CannotMeet T.tI_CannotMeet G_CannotMeetx_initx (hr.room.mono (by decide)) T.kbi_CannotMeetx_initx_version_module pass0 (by rfl) T.gX_CannotMeet (pk_cons (pv 1) (pk_cons (pv 0) pk_nil))) (pa_cons (pe_mkW T.EX_NoStep.o T.iC_NoStep T.tI_NoStep G_NoStepx_initx (hr.room.mono (by decide)) T.kbi_NoStepx_initx_version_module pass0 (by rfl) T.gX_NoStep (pk_cons (pv 1) (pk_cons (pv 0) pk_nil))) pa_nil))))))
(pss_cons (ps_set (i := 3) sc_l_double_right.nd rfl (.inl rfl) (pe_op op_catN (pv 3) (pe_lstN (pa_cons (pe_mkW T.EX_Pinned.o T.iC_Pinned T.tI_Pinned G_Pinnedx_initx (hr.room.mono (by decide)) T.kbi_Pinnedx_initx_version_module pass0 (by rfl) T.gX_Pinned (pk_cons (pv 1) (pk_cons (pv 0) pk_nil))) (pa_cons (pe_mkW T.EX_InUse.o T.iC_InUse T.tI_InUse G_InUsex_initx (hr.room.mono (by decide)) T.kbi_InUsex_initx_version_module pass0 (by rfl) T.gX_InUse (pk_cons (pv 1) (pk_cons (pv 0) pk_nil))) (pa_cons (pe_mkW T.EX_TooMany.o T.iC_TooMany T.tI_TooMany G_TooManyx_initx (hr.room.mono (by decide)) T.kbi_TooManyx_initx_limit_kind pass0 (by rfl) T.gX_TooMany (pk_cons (pv 1) (pk_cons (pv 0) pk_nil))) pa_nil))))))
(pss_cons (ps_set (i := 4) sc_l_double_right.nd rfl (.inl rfl) (pe_callB (call_reprN (hr.mono (by decide))) (by rfl) T.m_repr (by decide +kernel) (pa_cons (pe_op op_repN (pe_lstN (pa_cons (pe_tup (pa_cons (pv 0) (pa_cons (pv 1) pa_nil))) pa_nil)) pe_int) pa_nil)))
(pss_one (ps_ret (pe_and (pe_cmpR op_eq (pe_callB (call_reprN (hr.mono (by decide))) (by rfl) T.m_repr (by decide +kernel) (pa_cons (pe_call G_l_pairs (hr.mono (by decide)) (by rfl) T.g_l_pairs T.F_l_pairs.kp T.b_l_pairs .nil pass0 (pa_cons (pv 2) pa_nil)) pa_nil)) (pv 4) (nomark _)) (pe_one (pe_cmpR op_eq (pe_callB (call_reprN (hr.mono (by decide))) (by rfl) T.m_repr (by decide +kernel) (pa_cons (pe_call G_l_pairs (hr.mono (by decide)) (by rfl) T.g_l_pairs T.F_l_pairs.kp T.b_l_pairs .nil pass0 (pa_cons (pv 3) pa_nil)) pa_nil)) (pv 4) (nomark _)))))))))))), ?_⟩
    repeat (walk_at "st")
    refine i_mkV (by rfl) (by decide) fun a1 d1 G1 s1 ea1 ed1 => ?_
    have x1 : PX G1 a1 A.c_UnknownUse ["user", "used"] a b := ⟨d1, ea1, ed1⟩
    repeat (walk_at "st")
    refine i_mkV (by rfl) (by decide) fun a2 d2 G2 s2 ea2 ed2 => ?_
    have x2 : PX G2 a2 A.c_NotRising ["user", "used"] a b := ⟨d2, ea2, ed2⟩
    repeat (walk_at "st")
    refine i_mkV (by rfl) (by decide) fun a3 d3 G3 s3 ea3 ed3 => ?_
    have x3 : PX G3 a3 A.c_NotConsistent ["user", "used"] a b := ⟨d3, ea3, ed3⟩
    repeat (walk_at "st")
    refine i_mkV (by rfl) (by decide) fun a4 d4 G4 s4 ea4 ed4 => ?_
    have x4 : PX G4 a4 A.c_UnknownVersion ["module", "version"] a b := ⟨d4, ea4, ed4⟩
    repeat (walk_at "st")
    refine i_mkV (by rfl) (by decide) fun a5 d5 G5 s5 ea5 ed5 => ?_
    have x5 : PX G5 a5 A.c_CannotMeet ["module", "version"] a b := ⟨d5, ea5, ed5⟩
    repeat (walk_at "st")
    refine i_newN fun p11 G11 n11 z11 s11 e11 => ?_
    repeat (walk_at "st")
    refine i_mkV (by rfl) (by decide) fun a6 d6 G6 s6 ea6 ed6 => ?_
    have x6 : PX G6 a6 A.c_NoStep ["module", "version"] a b := ⟨d6, ea6, ed6⟩
    repeat (walk_at "st")
    refine i_mkV (by rfl) (by decide) fun a7 d7 G7 s7 ea7 ed7 => ?_
    have x7 : PX G7 a7 A.c_Pinned ["module", "version"] a b := ⟨d7, ea7, ed7⟩
    repeat (walk_at "st")
    refine i_mkV (by rfl) (by decide) fun a8 d8 G8 s8 ea8 ed8 => ?_
    have x8 : PX G8 a8 A.c_InUse ["module", "version"] a b := ⟨d8, ea8, ed8⟩
    repeat (walk_at "st")
    refine i_mkV (by rfl) (by decide) fun a9 d9 G9 s9 ea9 ed9 => ?_
    have x9 : PX G9 a9 A.c_TooMany ["kind", "limit"] a b := ⟨d9, ea9, ed9⟩
    repeat (walk_at "st")
    refine i_newN fun p12 G12 n12 z12 s12 e12 => ?_
    repeat (walk_at "st")
    refine i_newN fun p13 G13 n13 z13 s13 e13 => ?_
    have e13r : G13 p13 = some (.lst [.ref a1, .ref a2, .ref a3, .ref a4, .ref a5, .ref a6, .ref a7, .ref a8, .ref a9]) := e13
    repeat (walk_at "st")
    refine i_mkV (by rfl) (by decide) fun a21 d21 G21 s21 ea21 ed21 => ?_
    have x21 : PX G21 a21 A.c_UnknownUse ["user", "used"] a b := ⟨d21, ea21, ed21⟩
    repeat (walk_at "st")
    refine i_mkV (by rfl) (by decide) fun a22 d22 G22 s22 ea22 ed22 => ?_
    have x22 : PX G22 a22 A.c_NotRising ["user", "used"] a b := ⟨d22, ea22, ed22⟩
    repeat (walk_at "st")
    refine i_mkV (by rfl) (by decide) fun a23 d23 G23 s23 ea23 ed23 => ?_
    have x23 : PX G23 a23 A.c_NotConsistent ["user", "used"] a b := ⟨d23, ea23, ed23⟩
    repeat (walk_at "st")
    refine i_newN fun p31 G31 n31 z31 s31 e31 => ?_
    repeat (walk_at "st")
    refine i_mkV (by rfl) (by decide) fun a24 d24 G24 s24 ea24 ed24 => ?_
    have x24 : PX G24 a24 A.c_UnknownVersion ["module", "version"] a b := ⟨d24, ea24, ed24⟩
    repeat (walk_at "st")
    refine i_mkV (by rfl) (by decide) fun a25 d25 G25 s25 ea25 ed25 => ?_
    have x25 : PX G25 a25 A.c_CannotMeet ["module", "version"] a b := ⟨d25, ea25, ed25⟩
    repeat (walk_at "st")
    refine i_mkV (by rfl) (by decide) fun a26 d26 G26 s26 ea26 ed26 => ?_
    have x26 : PX G26 a26 A.c_NoStep ["module", "version"] a b := ⟨d26, ea26, ed26⟩
    repeat (walk_at "st")
    refine i_newN fun p32 G32 n32 z32 s32 e32 => ?_
    repeat (walk_at "st")
    refine i_newN fun p33 G33 n33 z33 s33 e33 => ?_
    repeat (walk_at "st")
    refine i_mkV (by rfl) (by decide) fun a27 d27 G27 s27 ea27 ed27 => ?_
    have x27 : PX G27 a27 A.c_Pinned ["module", "version"] a b := ⟨d27, ea27, ed27⟩
    repeat (walk_at "st")
    refine i_mkV (by rfl) (by decide) fun a28 d28 G28 s28 ea28 ed28 => ?_
    have x28 : PX G28 a28 A.c_InUse ["module", "version"] a b := ⟨d28, ea28, ed28⟩
    repeat (walk_at "st")
    refine i_mkV (by rfl) (by decide) fun a29 d29 G29 s29 ea29 ed29 => ?_
    have x29 : PX G29 a29 A.c_TooMany ["kind", "limit"] a b := ⟨d29, ea29, ed29⟩
    repeat (walk_at "st")
    refine i_newN fun p34 G34 n34 z34 s34 e34 => ?_
    repeat (walk_at "st")
    refine i_newN fun p35 G35 n35 z35 s35 e35 => ?_
    have e35r : G35 p35 = some (.lst [.ref a21, .ref a22, .ref a23, .ref a24, .ref a25, .ref a26, .ref a27, .ref a28, .ref a29]) := e35
    repeat (walk_at "st")
    refine i_new fun p41 G41 n41 s41 e41 => ?_
    repeat (walk_at "st")
    refine i_newN fun p42 G42 n42 z42 s42 e42 => ?_
    repeat (walk_at "st")
    refine i_newN fun p43 G43 n43 z43 s43 e43 => ?_
    have sh : Shw (.list (List.replicate 9 (.tuple [da, db]))) := (Sh.lst (n := 2007) (k := 11) fun d hd => by
      obtain ⟨_, rfl⟩ := List.mem_replicate.mp hd
      exact (Sh.tup (n := 1000) (k := 10) fun d hd => by
        simp only [List.mem_cons, List.not_mem_nil, or_false] at hd
        rcases hd with rfl | rfl
        · exact oa.ok
        · exact ob.ok)).shw (by simp) (by decide)
    have da43 : DaS K G43 (.ref p43) (.list (List.replicate 9 (.tuple [da, db]))) := DaF.lst (SqL.of e43) (fun _ => z43) (da_rep (DaF.tup (SqT.of (by walk_at "hg")) (.cons (by walk_at "dac") (.cons (by walk_at "dac") .nil))) 9)
    repeat (walk_at "st")
    have q44 : SqL K G43 p13 [.ref a1, .ref a2, .ref a3, .ref a4, .ref a5, .ref a6, .ref a7, .ref a8, .ref a9] := SqL.of (by walk_at "hg")
    refine ⟨_, _, _, _, _, _, _, _, _, _, a, b, rfl, q44, by walk_at "px", by walk_at "px", by walk_at "px", by walk_at "px", by walk_at "px", by walk_at "px", by walk_at "px", by walk_at "px", by walk_at "px", fun p44 ts44 G44 z44 s44 e44 l44 m44 => ?_⟩
    have da44 : DaS K G44 (.ref p44) (.list (List.replicate 9 (.tuple [da, db]))) := DaF.lst (SqL.of e44) (fun _ => z44) (by
      have := da_same (b := true) (K := K) (H := G44) (d := .tuple [da, db]) (ts := ts44) fun t ht => by
        obtain ⟨c, rfl, hc⟩ := m44 t ht
        exact DaF.tup (SqT.of hc) (.cons (by walk_at "dac") (.cons (by walk_at "dac") .nil))
      rwa [l44] at this)
    repeat (walk_at "st")
    have q45 : SqL K G44 p35 [.ref a21, .ref a22, .ref a23, .ref a24, .ref a25, .ref a26, .ref a27, .ref a28, .ref a29] := SqL.of (by walk_at "hg")
    refine ⟨_, _, _, _, _, _, _, _, _, _, a, b, rfl, q45, by walk_at "px", by walk_at "px", by walk_at "px", by walk_at "px", by walk_at "px", by walk_at "px", by walk_at "px", by walk_at "px", by walk_at "px", fun p45 ts45 G45 z45 s45 e45 l45 m45 => ?_⟩
    have da45 : DaS K G45 (.ref p45) (.list (List.replicate 9 (.tuple [da, db]))) := DaF.lst (SqL.of e45) (fun _ => z45) (by
      have := da_same (b := true) (K := K) (H := G45) (d := .tuple [da, db]) (ts := ts45) fun t ht => by
        obtain ⟨c, rfl, hc⟩ := m45 t ht
        exact DaF.tup (SqT.of hc) (.cons (by walk_at "dac") (.cons (by walk_at "dac") .nil))
      rwa [l45] at this)
    repeat (walk_at "st")
    exact q _ (by walk_at "off")
end
end KX

namespace KX
open PySem PySem.Spec PyProof.Rows L2

local macro_rules | `(tactic| walk_at "xi") => `(tactic| first
  | assumption
  | with_reducible exact XI.same (by assumption) (by walk_at "xi")
  | fail)
local macro_rules | `(tactic| walk_at "px") => `(tactic| first
  | assumption
  | with_reducible exact PX.same (by assumption) (by walk_at "px")
  | fail)

local macro_rules | `(tactic| walk_at "kp") => `(tactic| first
  | with_reducible exact Kp.refl
  | with_reducible exact Kp.thenS (by assumption) (by walk_at "kp")
  | with_reducible exact Kp.thenO (by assumption) (by walk_at "ne") (by walk_at "kp")
  | fail)
local macro_rules | `(tactic| walk_at "hq") => `(tactic| first
  | assumption
  | with_reducible exact Kp.get (by assumption) (by walk_at "kp")
  | fail)
local macro_rules | `(tactic| walk_at "hg") => `(tactic| first
  | walk_at "hq"
  | exact upd_same
  | with_reducible exact (upd_ne (by walk_at "ne")).trans (by walk_at "hg")
  | with_reducible exact Same.get (by assumption) (by walk_at "hg")
  | with_reducible exact Off.get (by assumption) (by walk_at "ne") (by walk_at "hg")
  | fail)
local macro_rules | `(tactic| walk_at "ne") => `(tactic| first
  | assumption
  | (apply Ne.symm; assumption)
  | exact Rok.ne' (by assumption) (by walk_at "rok")
  | exact (Rok.ne' (by assumption) (by walk_at "rok")).symm
  | exact ne_some (by assumption) (by walk_at "hg")
  | exact (ne_some (by assumption) (by walk_at "hg")).symm
  | fail)
local macro_rules | `(tactic| walk_at "rok") => `(tactic| first
  | assumption
  | with_reducible exact Rok.kp (by assumption) (by walk_at "kp")
  | with_reducible exact Rok.same (by assumption) (by walk_at "rok")
  | fail)
local macro_rules | `(tactic| walk_at "sq") => `(tactic| first
  | assumption
  | exact Same.seq (by assumption) (by assumption)
  | (with_reducible show SqL _ _ _ _; with_reducible exact SqL.of (by walk_at "hg"))
  | (with_reducible show SqT _ _ _ _; with_reducible exact SqT.of (by walk_at "hg"))
  | fail)
local macro_rules | `(tactic| walk_at "dac") => `(tactic| first
  | assumption
  | exact DaF.same (by assumption) (by walk_at "dac")
  | fail)
local macro_rules | `(tactic| walk_at "da") => `(tactic| first
  | exact (DaF.non : DaS _ _ _ _)
  | exact (DaF.bl _ : DaS _ _ _ _)
  | exact (DaF.int _ : DaS _ _ _ _)
  | exact (DaF.str _ : DaS _ _ _ _)
  | exact DaF.non
  | exact DaF.bl _
  | exact DaF.int _
  | exact DaF.str _
  | walk_at "dac"
  | with_reducible exact DaF.lst (SqL.of (by walk_at "hq")) (fun _ => by assumption) (by walk_at "das")
  | with_reducible exact Da.lst (SqL.of (by walk_at "hq")) (by walk_at "das")
  | with_reducible exact DaF.tup (SqT.of (by walk_at "hq")) (by walk_at "das")
  | with_reducible exact DaF.dic (Rd.of (by walk_at "hq")) (by walk_at "dak")
  | fail)
local macro_rules | `(tactic| walk_at "das") => `(tactic| first
  | assumption
  | exact DaAllF.nil
  | exact DaAllF.cons (by walk_at "da") (by walk_at "das")
  | fail)
local macro_rules | `(tactic| walk_at "dak") => `(tactic| first
  | assumption
  | exact DaKvF.nil
  | exact DaKvF.cons (by walk_at "da") (by walk_at "dak")
  | fail)
local macro_rules | `(tactic| walk_at "shw") => `(tactic| first
  | assumption
  | exact shw_b2 _ _
  | exact ⟨by decide +kernel, by decide +kernel, by decide +kernel⟩
  | fail)
local macro_rules | `(tactic| walk_at "nod") => `(tactic| first
  | exact .inl rfl
  | exact .inr rfl
  | assumption
  | exact .inr (by assumption)
  | fail)
local macro_rules | `(tactic| walk_at "okd") => `(tactic| first
  | assumption
  | exact okd_of (by decide +kernel)
  | fail)
local macro_rules | `(tactic| walk_at "off") => `(tactic| first
  | assumption
  | exact Off.refl _ _
  | exact Same.refl _
  | with_reducible exact Same.thenS (by assumption) (by walk_at "off")
  | with_reducible exact Off.thenS (by assumption) (by walk_at "off")
  | with_reducible exact Off.thenO (by assumption) (by walk_at "off")
  | with_reducible exact Same.thenF (by assumption) (by assumption) (by walk_at "off") (by walk_at "off")
  | with_reducible exact Off.thenF (by assumption) (by assumption) (by walk_at "off") (by walk_at "off")
  | fail)
local macro_rules | `(tactic| walk_at "side") => `(tactic| first
  | assumption
  | omega
  | decide
  | (simp only [List.length_append, List.length_cons, List.length_nil]; decide)
  | exact ⟨by omega, by omega⟩
  | exact ⟨by omega, PyProof.noPylong_of_log2 (by first | assumption | decide)⟩
  | exact .inl ⟨by omega, by omega⟩
  | exact .inr ⟨by omega, by omega⟩
  | exact ⟨by decide, by decide, by decide⟩
  | exact ⟨by decide, by decide, by omega⟩
  | fail)
local macro_rules | `(tactic| walk_at "st") => `(tactic| first
  | with_reducible refine i_seq ?_
  | with_reducible refine i_bi ?_
  | with_reducible refine i_raise ?_
  | with_reducible refine i_callX ?_
  | with_reducible refine i_tryN ?_
  | with_reducible refine i_isNon ?_
  | with_reducible refine i_isNotNon ?_
  | ((with_reducible refine' i_split ?h ?z ?_); (case h => rfl); (case z => walk_at "side"))
  | with_reducible refine i_find ?_
  | ((with_reducible refine i_strI ?h ?_); (case h => walk_at "side"))
  | with_reducible refine i_fmt ?_
  | ((with_reducible refine i_fmS ?h ?_); (case h => walk_at "side"))
  | ((with_reducible refine i_fmI ?h ?_); (case h => walk_at "side"))
  | with_reducible refine i_jn ?_
  | with_reducible refine i_js0 ?_
  | with_reducible refine i_js1 ?_
  | ((with_reducible refine i_jsR ?h ?_); (case h => walk_at "side"))
  | with_reducible refine i_revS ?_
  | ((with_reducible refine i_exrev ?h ?_); (case h => walk_at "side"))
  | with_reducible refine i_revL ?_
  | ((with_reducible refine' i_exrevL ?h ?_); (case h => walk_at "sq"))
  | with_reducible refine i_par3 ?_
  | with_reducible refine i_ex3 ?_
  | with_reducible refine i_stB ?_
  | with_reducible refine i_mk0 ?_
  | with_reducible refine i_asg ?_
  | with_reducible refine i_c ?_
  | ((with_reducible refine' i_var ?h ?_); (case h => rfl))
  | with_reducible refine i_op ?_
  | with_reducible refine i_cons ?_
  | with_reducible refine i_nil ?_
  | ((with_reducible refine' i_gName ?h ?_); (case h => rfl))
  | with_reducible refine i_rI0 ?_
  | ((with_reducible refine i_rI ?h ?_); (case h => walk_at "side"))
  | with_reducible refine i_test ?_
  | with_reducible refine i_exbl ?_
  | with_reducible refine i_exint ?_
  | with_reducible refine i_exs ?_
  | with_reducible refine i_ret ?_
  | with_reducible refine i_next ?_
  | with_reducible refine i_ifS ?_
  | ((with_reducible refine' i_rIxL ?h ?e ?_); (case h => walk_at "sq"); (case e => first | assumption | rfl))
  | ((with_reducible refine' i_rIxT ?h ?e ?_); (case h => walk_at "sq"); (case e => first | assumption | rfl))
  | ((with_reducible refine' i_rIxS ?h ?e ?_); (case h => walk_at "side"); (case e => first | assumption | rfl))
  | with_reducible refine i_un ?_
  | with_reducible refine i_rU ?_
  | ((with_reducible refine i_rEqSame ?h ?_); (case h => rfl))
  | ((with_reducible refine i_rNeSame ?h ?_); (case h => rfl))
  | ((with_reducible refine i_rEq ?h ?_); (case h => rfl))
  | ((with_reducible refine i_rNe ?h ?_); (case h => rfl))
  | with_reducible refine i_tB ?_
  | with_reducible refine i_and ?_
  | with_reducible refine i_or ?_
  | with_reducible refine i_not ?_
  | with_reducible refine i_andV ?_
  | with_reducible refine i_orV ?_
  | with_reducible refine i_notV ?_
  | with_reducible refine i_if ?_
  | with_reducible refine i_chain ?_
  | with_reducible refine i_drop ?_
  | with_reducible refine i_retN ?_
  | with_reducible refine i_par ?_
  | with_reducible refine i_ex2 ?_
  | ((with_reducible refine' i_aug ?h ?_); (case h => rfl))
  | with_reducible refine i_gNil ?_
  | with_reducible refine i_gCons ?_
  | ((with_reducible refine' i_gTup ?h ?e ?_); (case h => walk_at "sq"); (case e => rfl))
  | with_reducible refine i_gSub ?_
  | ((with_reducible refine' i_rSetL ?h ?e ?_); (case h => walk_at "hg"); (case e => first | assumption | rfl))
  | with_reducible refine i_tup ?_
  | with_reducible refine i_lst ?_
  | with_reducible refine i_lstN ?_
  | with_reducible refine i_newDK ?_
  | with_reducible refine i_disp ?_
  | with_reducible refine i_pairs0 ?_
  | with_reducible refine i_pairs1 ?_
  | with_reducible refine i_call ?_
  | with_reducible refine i_mkV0 ?_
  | with_reducible refine i_mkW0 ?_
  | with_reducible refine i_mkX0 ?_
  | with_reducible refine i_mkY0 ?_
  | with_reducible refine i_xv0 ?_
  | with_reducible refine i_mk00 ?_
  | ((with_reducible refine' i_mkX ?h ?f ?l ?_); (case h => rfl); (case f => decide); (case l => rfl); intro _ _)
  | ((with_reducible refine' i_xvQ ?T ?n ?a ?d ?l ?_); (case a => walk_at "hg"); (case d => walk_at "hg"); (case T => assumption); (case n => assumption); (case l => rfl))
  | ((with_reducible refine' i_isVr ?T ?G ?h ?k ?_); (case h => walk_at "xi"); (case T => assumption); (case G => assumption); (case k => assumption))
  | ((with_reducible refine' i_isVt ?T ?G ?h ?k ?_); (case h => walk_at "xi"); (case T => assumption); (case G => assumption); (case k => assumption))
  | ((with_reducible refine' i_gLst ?h ?e ?_); (case h => walk_at "sq"); (case e => rfl))
  | ((with_reducible refine' i_rCatN ?h ?e ?z ?_); (case h => walk_at "hg"); (case e => walk_at "hg"); (case z => walk_at "side"))
  | ((with_reducible refine' i_rRepN ?h ?e ?z ?_); (case h => walk_at "hg"); (case e => decide); (case z => walk_at "side"))
  | with_reducible refine i_cb ?_
  | with_reducible refine i_bm ?_
  | with_reducible refine i_m1 ?_
  | with_reducible refine i_m0 ?_
  | ((with_reducible refine' i_rAppend ?h ?e ?_); (case h => walk_at "hg"); (case e => walk_at "side"))
  | ((with_reducible refine i_rSlS ?h ?_); (case h => walk_at "side"))
  | ((with_reducible refine' i_rSlL ?h ?_); (case h => walk_at "sq"))
  | with_reducible refine i_sl ?_
  | with_reducible refine i_noPart ?_
  | with_reducible refine i_part ?_
  | with_reducible refine i_rng1 ?_
  | with_reducible refine i_iList ?_
  | with_reducible refine i_iStr ?_
  | with_reducible refine i_iEnum ?_
  | with_reducible refine i_iZip ?_
  | with_reducible refine i_ez ?_
  | ((with_reducible refine' i_exen ?h ?_); (case h => walk_at "sq"))
  | ((with_reducible refine' i_exz ?h ?k ?_); (case h => walk_at "sq"); (case k => walk_at "sq"))
  | ((with_reducible refine' i_listN ?h ?_); (case h => walk_at "sq"))
  | with_reducible refine i_intB ?_
  | ((with_reducible refine' i_tyL ?h ?_); (case h => walk_at "sq"))
  | with_reducible refine i_isBl ?_
  | ((with_reducible refine i_callW ?_))
  | ((with_reducible refine i_exrng ?h1 ?h2 ?_); (case h1 => walk_at "side"); (case h2 => walk_at "side"))
  | ((with_reducible refine' i_exl ?h ?_); (case h => walk_at "sq"))
  | with_reducible refine i_for ?_
  | with_reducible refine i_lc ?_
  | with_reducible refine i_yes ?_
  | with_reducible refine i_iteT ?_
  | with_reducible refine i_iteF ?_
  | ((with_reducible refine i_divmod ?h ?_); (case h => walk_at "side"))
  | ((with_reducible refine' i_isi ?h ?e ?_); (case h => walk_at "da"); (case e => decide))
  | ((with_reducible refine i_lenS ?h ?_); (case h => walk_at "side"))
  | ((with_reducible refine' i_lenL ?h ?_); (case h => walk_at "sq"))
  | ((with_reducible refine' i_lenT ?h ?_); (case h => walk_at "sq"))
  | ((with_reducible refine' i_repr ?h ?n ?e ?_); (case h => walk_at "da"); (case n => walk_at "nod"); (case e => walk_at "shw"))
  | ((with_reducible refine' i_rCat ?h ?e ?z ?_); (case h => walk_at "hg"); (case e => walk_at "hg"); (case z => walk_at "side"))
  | ((with_reducible refine i_rCatS ?h ?_); (case h => walk_at "side"))
  | with_reducible refine i_exstr ?_
  | ((with_reducible refine' i_join ?h ?z ?_); (case h => walk_at "sq"); (case z => walk_at "side"))
  | with_reducible refine i_abs ?_
  | with_reducible refine i_max ?_
  | with_reducible refine i_min ?_
  | ((with_reducible refine' i_rAll ?h ?_); (case h => walk_at "sq"))
  | ((with_reducible refine' i_lcEl ?h ?e ?_); (case h => walk_at "hg"); (case e => walk_at "side"))
  | with_reducible refine ⟨_, _, rfl, rfl, ?_⟩
  | with_reducible refine ⟨_, _, rfl, ?_⟩
  | with_reducible refine ⟨_, rfl, ?_⟩
  | with_reducible refine And.intro rfl ?_
  | ((with_reducible refine And.intro ?h ?_); (case h => walk_at "side"))
  | fail)

section
variable {P : Program} {w : World} {K : PySem.W.Frag} {mg : Str → Option Value} {base : Heap} {A : Ad}
def kiL (A : Ad) : List Value := [.ref A.c_InvalidName, .ref A.c_InvalidVersion, .ref A.c_InvalidWindow, .ref A.c_InvalidWindows, .ref A.c_InvalidUses, .ref A.c_InvalidRows, .ref A.c_InvalidState, .ref A.c_InvalidDemand, .ref A.c_InvalidGoals, .ref A.c_InvalidStep, .ref A.c_InvalidSteps, .ref A.c_InvalidChange, .ref A.c_InvalidCount, .ref A.c_InvalidText, .ref A.c_InvalidEntry, .ref A.c_InvalidCommand, .ref A.c_UnknownModule, .ref A.c_UnknownUse, .ref A.c_UnknownVersion, .ref A.c_UnknownOperator, .ref A.c_UnknownSession, .ref A.c_NotRising, .ref A.c_NotConsistent, .ref A.c_NotBelow, .ref A.c_CannotMeet, .ref A.c_NoStep, .ref A.c_MissingNeed, .ref A.c_NotAvailable, .ref A.c_Pinned, .ref A.c_InUse, .ref A.c_NameTaken, .ref A.c_NothingToUndo, .ref A.c_TooMany, .ref A.c_NoState, .ref A.c_Unreachable, .ref A.c_GroupError, .ref A.c_Missing, .ref A.c_Refused, .ref A.c_LimitReached, .type "ValueError", .type "LookupError", .type "RuntimeError", .type "ArithmeticError", .type "KeyError", .type "IndexError", .type "OverflowError", .type "TypeError"]
/-- an exception, its class told by what isinstance answers -/
structure EK (K : PySem.W.Frag) (A : Ad) (H : Hp) (e C : Addr) (bs : List Bool) : Prop where
  xi : XI H e C
  ex : ∃ n i m, ExT K n i m C
  kr : KR K (.ref C) (kiL A) bs
theorem EK.same {H H' : Hp} {e C : Addr} {bs : List Bool} (s : Same H H') (h : EK K A H e C bs) : EK K A H' e C bs := ⟨h.xi.same s, h.ex, h.kr⟩
def sp_l_fc (K : PySem.W.Frag) (A : Ad) : Sp := fun vs H Q _ => ∃ e C bs, vs = [.ref e] ∧ EK K A H e C bs ∧ ∀ p H', H p = none → Same H H' → H' p = some (.lst ((bs.take 21).map V.bl)) → Q (.ref p) H'
theorem ok_l_first_classes (T : Txt K mg A) : Fg P w K mg base CX0 1 A.f_l_first_classes A.d_l_first_classes ["_law_e"] (sp_l_fc K A) := by
  refine ok_g T.F_l_first_classes sc_l_first_classes (fun vs H Q E h => ?_) (fun cdv Ar outer s H vs Q E hr h => ?_)
  · obtain ⟨_, _, _, rfl, _⟩ := h; rfl
  · obtain ⟨e, C, bs, rfl, ⟨xi, ⟨n, i, m, ex⟩, kr⟩, q⟩ := h
    refine ⟨_, (pss_cons (ps_set (i := 1) sc_l_first_classes.nd rfl (.inl rfl) (pe_lst (pa_cons (pe_callB call_isV (by rfl) T.m_isinstance (by decide +kernel) (pa_cons (pv 0) (pa_cons (pe_glob (v := .ref A.c_InvalidName) rfl T.gX_InvalidName rfl) pa_nil))) (pa_cons (pe_callB call_isV (by rfl) T.m_isinstance (by decide +kernel) (pa_cons (pv 0) (pa_cons (pe_glob (v := .ref A.c_InvalidVersion) rfl T.gX_InvalidVersion rfl) pa_nil))) (pa_cons (pe_callB call_isV (by rfl) T.m_isinstance (by decide +kernel) (pa_cons (pv 0) (pa_cons (pe_glob (v := .ref A.c_InvalidWindow) rfl T.gX_InvalidWindow rfl) pa_nil))) pa_nil)))))
(pss_cons (ps_set (i := 1) sc_l_first_classes.nd rfl (.inl rfl) (pe_op op_cat (pv 1) (pe_lst (pa_cons (pe_callB call_isV (by rfl) T.m_isinstance (by decide +kernel) (pa_cons (pv 0) (pa_cons (pe_glob (v := .ref A.c_InvalidWindows) rfl T.gX_InvalidWindows rfl) pa_nil))) (pa_cons (pe_callB call_isV (by rfl) T.m_isinstance (by decide +kernel) (pa_cons (pv 0) (pa_cons (pe_glob (v := .ref A.c_InvalidUses) rfl T.gX_InvalidUses rfl) pa_nil))) (pa_cons (pe_callB call_isV (by rfl) T.m_isinstance (by decide +kernel) (pa_cons (pv 0) (pa_cons (pe_glob (v := .ref A.c_InvalidRows) rfl T.gX_InvalidRows rfl) pa_nil))) pa_nil))))))
(pss_cons (ps_set (i := 1) sc_l_first_classes.nd rfl (.inl rfl) (pe_op op_cat (pv 1) (pe_lst (pa_cons (pe_callB call_isV (by rfl) T.m_isinstance (by decide +kernel) (pa_cons (pv 0) (pa_cons (pe_glob (v := .ref A.c_InvalidState) rfl T.gX_InvalidState rfl) pa_nil))) (pa_cons (pe_callB call_isV (by rfl) T.m_isinstance (by decide +kernel) (pa_cons (pv 0) (pa_cons (pe_glob (v := .ref A.c_InvalidDemand) rfl T.gX_InvalidDemand rfl) pa_nil))) (pa_cons (pe_callB call_isV (by rfl) T.m_isinstance (by decide +kernel) (pa_cons (pv 0) (pa_cons (pe_glob (v := .ref A.c_InvalidGoals) rfl T.gX_InvalidGoals rfl) pa_nil))) pa_nil))))))
(pss_cons (ps_set (i := 1) sc_l_first_classes.nd rfl (.inl rfl) (pe_op op_cat (pv 1) (pe_lst (pa_cons (pe_callB call_isV (by rfl) T.m_isinstance (by decide +kernel) (pa_cons (pv 0) (pa_cons (pe_glob (v := .ref A.c_InvalidStep) rfl T.gX_InvalidStep rfl) pa_nil))) (pa_cons (pe_callB call_isV (by rfl) T.m_isinstance (by decide +kernel) (pa_cons (pv 0) (pa_cons (pe_glob (v := .ref A.c_InvalidSteps) rfl T.gX_InvalidSteps rfl) pa_nil))) (pa_cons (pe_callB call_isV (by rfl) T.m_isinstance (by decide +kernel) (pa_cons (pv 0) (pa_cons (pe_glob (v := .ref A.c_InvalidChange) rfl T.gX_InvalidChange rfl) pa_nil))) pa_nil))))))
(pss_cons (ps_set (i := 1) sc_l_first_classes.nd rfl (.inl rfl) (pe_op op_cat (pv 1) (pe_lst (pa_cons (pe_callB call_isV (by rfl) T.m_isinstance (by decide +kernel) (pa_cons (pv 0) (pa_cons (pe_glob (v := .ref A.c_InvalidCount) rfl T.gX_InvalidCount rfl) pa_nil))) (pa_cons (pe_callB call_isV (by rfl) T.m_isinstance (by decide +kernel) (pa_cons (pv 0) (pa_cons (pe_glob (v := .ref A.c_InvalidText) rfl T.gX_InvalidText rfl) pa_nil))) (pa_cons (pe_callB call_isV (by rfl) T.m_isinstance (by decide +kernel) (pa_cons (pv 0) (pa_cons (pe_glob (v := .ref A.c_InvalidEntry) rfl T.gX_InvalidEntry rfl) pa_nil))) pa_nil))))))
(pss_cons (ps_set (i := 1) sc_l_first_classes.nd rfl (.inl rfl) (pe_op op_cat (pv 1) (pe_lst (pa_cons (pe_callB call_isV (by rfl) T.m_isinstance (by decide +kernel) (pa_cons (pv 0) (pa_cons (pe_glob (v := .ref A.c_InvalidCommand) rfl T.gX_InvalidCommand rfl) pa_nil))) pa_nil))))
(pss_cons (ps_set (i := 1) sc_l_first_classes.nd rfl (.inl rfl) (pe_op op_cat (pv 1) (pe_lst (pa_cons (pe_callB call_isV (by rfl) T.m_isinstance (by decide +kernel) (pa_cons (pv 0) (pa_cons (pe_glob (v := .ref A.c_UnknownModule) rfl T.gX_UnknownModule rfl) pa_nil))) (pa_cons (pe_callB call_isV (by rfl) T.m_isinstance (by decide +kernel) (pa_cons (pv 0) (pa_cons (pe_glob (v := .ref A.c_UnknownUse) rfl T.gX_UnknownUse rfl) pa_nil))) (pa_cons (pe_callB call_isV (by rfl) T.m_isinstance (by decide +kernel) (pa_cons (pv 0) (pa_cons (pe_glob (v := .ref A.c_UnknownVersion) rfl T.gX_UnknownVersion rfl) pa_nil))) pa_nil))))))
(pss_one (ps_ret (pe_op op_cat (pv 1) (pe_lst (pa_cons (pe_callB call_isV (by rfl) T.m_isinstance (by decide +kernel) (pa_cons (pv 0) (pa_cons (pe_glob (v := .ref A.c_UnknownOperator) rfl T.gX_UnknownOperator rfl) pa_nil))) (pa_cons (pe_callB call_isV (by rfl) T.m_isinstance (by decide +kernel) (pa_cons (pv 0) (pa_cons (pe_glob (v := .ref A.c_UnknownSession) rfl T.gX_UnknownSession rfl) pa_nil))) pa_nil))))))))))))), ?_⟩
    have cg := T.cg
    unfold kiL at kr
    iterate 21 (have kz := KR.head kr; clear kr; obtain ⟨_, _, rfl, _, kr⟩ := kz)
    clear kr
    repeat (walk_at "st")
    refine i_new fun p1 G1 n1 s1 e1 => ?_
    repeat (walk_at "st")
    refine i_new fun p2 G2 n2 s2 e2 => ?_
    repeat (walk_at "st")
    refine i_new fun p3 G3 n3 s3 e3 => ?_
    repeat (walk_at "st")
    refine i_new fun p4 G4 n4 s4 e4 => ?_
    repeat (walk_at "st")
    refine i_new fun p5 G5 n5 s5 e5 => ?_
    repeat (walk_at "st")
    refine i_new fun p6 G6 n6 s6 e6 => ?_
    repeat (walk_at "st")
    refine i_new fun p7 G7 n7 s7 e7 => ?_
    repeat (walk_at "st")
    refine i_new fun p8 G8 n8 s8 e8 => ?_
    repeat (walk_at "st")
    refine i_new fun p9 G9 n9 s9 e9 => ?_
    repeat (walk_at "st")
    refine i_new fun p10 G10 n10 s10 e10 => ?_
    repeat (walk_at "st")
    refine i_new fun p11 G11 n11 s11 e11 => ?_
    repeat (walk_at "st")
    refine i_new fun p12 G12 n12 s12 e12 => ?_
    repeat (walk_at "st")
    refine i_new fun p13 G13 n13 s13 e13 => ?_
    repeat (walk_at "st")
    refine i_new fun p14 G14 n14 s14 e14 => ?_
    repeat (walk_at "st")
    refine i_new fun p15 G15 n15 s15 e15 => ?_
    exact q _ _ (none_of (by walk_at "off") n15) (by walk_at "off") e15
def sp_l_cls (K : PySem.W.Frag) (A : Ad) (f : List Bool → List Bool) : Sp := fun vs H Q _ => ∃ e C bs, vs = [.ref e] ∧ EK K A H e C bs ∧ ∀ p H', H p = none → Same H H' → H' p = some (.lst ((idx (f bs)).map fun i => V.int ((i : Nat) : Int))) → Q (.ref p) H'
theorem ok_l_classes (T : Txt K mg A) (G_l_first_classes : Fg P w K mg base CX0 1 A.f_l_first_classes A.d_l_first_classes ["_law_e"] (sp_l_fc K A)) : Fg P w K mg base CX0 2 A.f_l_classes A.d_l_classes ["_law_e"] (sp_l_cls K A fun bs => bs.take 35) := by
  refine ok_g T.F_l_classes sc_l_classes (fun vs H Q E h => ?_) (fun cdv Ar outer s H vs Q E hr h => ?_)
  · obtain ⟨_, _, _, rfl, _⟩ := h; rfl
  · obtain ⟨e, C, bs, rfl, ek, q⟩ := h
    refine ⟨_, (pss_cons (ps_set (i := 1) sc_l_classes.nd rfl (.inl rfl) (pe_call G_l_first_classes (hr.mono (by decide)) (by rfl) T.g_l_first_classes T.F_l_first_classes.kp T.b_l_first_classes .nil pass0 (pa_cons (pv 0) pa_nil)))
(pss_cons (ps_set (i := 1) sc_l_classes.nd rfl (.inl rfl) (pe_op op_cat (pv 1) (pe_lst (pa_cons (pe_callB call_isV (by rfl) T.m_isinstance (by decide +kernel) (pa_cons (pv 0) (pa_cons (pe_glob (v := .ref A.c_NotRising) rfl T.gX_NotRising rfl) pa_nil))) (pa_cons (pe_callB call_isV (by rfl) T.m_isinstance (by decide +kernel) (pa_cons (pv 0) (pa_cons (pe_glob (v := .ref A.c_NotConsistent) rfl T.gX_NotConsistent rfl) pa_nil))) (pa_cons (pe_callB call_isV (by rfl) T.m_isinstance (by decide +kernel) (pa_cons (pv 0) (pa_cons (pe_glob (v := .ref A.c_NotBelow) rfl T.gX_NotBelow rfl) pa_nil))) pa_nil))))))
(pss_cons (ps_set (i := 1) sc_l_classes.nd rfl (.inl rfl) (pe_op op_cat (pv 1) (pe_lst (pa_cons (pe_callB call_isV (by rfl) T.m_isinstance (by decide +kernel) (pa_cons (pv 0) (pa_cons (pe_glob (v := .ref A.c_CannotMeet) rfl T.gX_CannotMeet rfl) pa_nil))) (pa_cons (pe_callB call_isV (by rfl) T.m_isinstance (by decide +kernel) (pa_cons (pv 0) (pa_cons (pe_glob (v := .ref A.c_NoStep) rfl T.gX_NoStep rfl) pa_nil))) (pa_cons (pe_callB call_isV (by rfl) T.m_isinstance (by decide +kernel) (pa_cons (pv 0) (pa_cons (pe_glob (v := .ref A.c_MissingNeed) rfl T.gX_MissingNeed rfl) pa_nil))) pa_nil))))))
(pss_cons (ps_set (i := 1) sc_l_classes.nd rfl (.inl rfl) (pe_op op_cat (pv 1) (pe_lst (pa_cons (pe_callB call_isV (by rfl) T.m_isinstance (by decide +kernel) (pa_cons (pv 0) (pa_cons (pe_glob (v := .ref A.c_NotAvailable) rfl T.gX_NotAvailable rfl) pa_nil))) (pa_cons (pe_callB call_isV (by rfl) T.m_isinstance (by decide +kernel) (pa_cons (pv 0) (pa_cons (pe_glob (v := .ref A.c_Pinned) rfl T.gX_Pinned rfl) pa_nil))) (pa_cons (pe_callB call_isV (by rfl) T.m_isinstance (by decide +kernel) (pa_cons (pv 0) (pa_cons (pe_glob (v := .ref A.c_InUse) rfl T.gX_InUse rfl) pa_nil))) (pa_cons (pe_callB call_isV (by rfl) T.m_isinstance (by decide +kernel) (pa_cons (pv 0) (pa_cons (pe_glob (v := .ref A.c_NameTaken) rfl T.gX_NameTaken rfl) pa_nil))) pa_nil)))))))
(pss_cons (ps_set (i := 1) sc_l_classes.nd rfl (.inl rfl) (pe_op op_cat (pv 1) (pe_lst (pa_cons (pe_callB call_isV (by rfl) T.m_isinstance (by decide +kernel) (pa_cons (pv 0) (pa_cons (pe_glob (v := .ref A.c_NothingToUndo) rfl T.gX_NothingToUndo rfl) pa_nil))) (pa_cons (pe_callB call_isV (by rfl) T.m_isinstance (by decide +kernel) (pa_cons (pv 0) (pa_cons (pe_glob (v := .ref A.c_TooMany) rfl T.gX_TooMany rfl) pa_nil))) (pa_cons (pe_callB call_isV (by rfl) T.m_isinstance (by decide +kernel) (pa_cons (pv 0) (pa_cons (pe_glob (v := .ref A.c_NoState) rfl T.gX_NoState rfl) pa_nil))) pa_nil))))))
(pss_one (ps_ret (pe_lc (own := [("_law_k", 2), ("_law_flag", 3)]) (g := (gTup K 2 (gCons (gName 2) (gCons (gName 3) gNil)))) rfl sc_l_classes.nd (pi_enum (by rfl) T.m_enumerate (pa_cons (pe_op op_cat (pv 1) (pe_lst (pa_cons (pe_callB call_isV (by rfl) T.m_isinstance (by decide +kernel) (pa_cons (pv 0) (pa_cons (pe_glob (v := .ref A.c_Unreachable) rfl T.gX_Unreachable rfl) pa_nil))) pa_nil))) pa_nil)) (blkOk_by (own := [("_law_k", 2), ("_law_flag", 3)]) (N := ["_law_e", "_law_kinds", "_law_k", "_law_flag"]) (sc := defScope s_l_classes) (by decide +kernel)) (fun _ _ _ _ _ => (pg_tup rfl (pgs_cons (pg_name (i := 2) sc_l_classes.nd rfl (.inl rfl)) (pgs_cons (pg_name (i := 3) sc_l_classes.nd rfl (.inl rfl)) pgs_nil)))) (fun _ _ _ _ _ => (pts_one (pt_val (pv 3)))) (fun _ _ _ _ _ => (pv 2)))))))))), ?_⟩
    obtain ⟨xi, ⟨n, i, m, ex⟩, kr⟩ := id ek
    have cg := T.cg
    unfold kiL at kr
    repeat (walk_at "st")
    refine ⟨_, _, _, rfl, ek, fun p0 G0 n0 s0 e0 => ?_⟩
    obtain ⟨bs0, hbs⟩ : ∃ x, x = bs := ⟨_, rfl⟩
    rw [← hbs] at q
    iterate 35 (have kz := KR.head kr; clear kr; obtain ⟨_, _, rfl, _, kr⟩ := kz)
    clear kr ek
    simp only [List.take_succ_cons, List.take_zero, List.map_cons, List.map_nil] at e0
    repeat (walk_at "st")
    refine i_new fun p1 G1 n1 s1 e1 => ?_
    repeat (walk_at "st")
    refine i_new fun p2 G2 n2 s2 e2 => ?_
    repeat (walk_at "st")
    refine i_new fun p3 G3 n3 s3 e3 => ?_
    repeat (walk_at "st")
    refine i_new fun p4 G4 n4 s4 e4 => ?_
    repeat (walk_at "st")
    refine i_new fun p5 G5 n5 s5 e5 => ?_
    repeat (walk_at "st")
    refine i_new fun p6 G6 n6 s6 e6 => ?_
    repeat (walk_at "st")
    refine i_new fun p7 G7 n7 s7 e7 => ?_
    repeat (walk_at "st")
    refine i_new fun p8 G8 n8 s8 e8 => ?_
    repeat (walk_at "st")
    refine i_new fun p9 G9 n9 s9 e9 => ?_
    repeat (walk_at "st")
    refine i_new fun p10 G10 n10 s10 e10 => ?_
    obtain ⟨cs, hcs⟩ : ∃ x, x = List.take 35 bs0 := ⟨_, rfl⟩
    dsimp only at q
    rw [← hcs] at q
    rw [hbs] at hcs
    have lcs : cs.length = 35 := by rw [hcs]; rfl
    have sF : Same H G10 := by walk_at "off"
    repeat (walk_at "st")
    have eF : G10 p10 = some (.lst (cs.map V.bl)) := by rw [e10, hcs]; rfl
    clear e10 hcs
    refine l_fq wq_enum (fun i => cs.getD i false) (fun i => .int (i : Nat)) (by rw [List.length_map, lcs, sizeLine_eq]; decide) (fun H' s => SqL.of (s _ _ eF)) (fun i x H' S N hi hr s1 hS hN => ?_) (fun D H' n1 s1 e1 => ?_)
    · obtain ⟨p, x1, x2, rfl, eT, e1, e2⟩ := hr
      cases e1
      replace e2 : (cs.map V.bl)[i]? = some x2 := e2
      rw [List.getElem?_map] at e2
      cases hb : cs[i]? with
      | none => rw [hb] at e2; cases e2
      | some b =>
        rw [hb] at e2
        cases e2
        have hg : cs.getD i false = b := by rw [List.getD_eq_getElem?_getD, hb]; rfl
        rw [hg] at hS hN
        repeat (walk_at "st")
        refine i_ite (fun e => ?_) (fun e => ?_)
        · repeat (walk_at "st")
          exact hS e _ (Same.refl _)
        · exact hN e _ (Same.refl _)
    · rw [List.length_map] at e1
      exact q D H' (none_of sF n1) (sF.trans s1) e1
theorem ok_l_bases (T : Txt K mg A) : Fg P w K mg base CX0 1 A.f_l_bases A.d_l_bases ["_law_e"] (sp_l_cls K A fun bs => bs.drop 35) := by
  refine ok_g T.F_l_bases sc_l_bases (fun vs H Q E h => ?_) (fun cdv Ar outer s H vs Q E hr h => ?_)
  · obtain ⟨_, _, _, rfl, _⟩ := h; rfl
  · obtain ⟨e, C, bs, rfl, ek, q⟩ := h
    refine ⟨_, (pss_cons (ps_set (i := 1) sc_l_bases.nd rfl (.inl rfl) (pe_lst (pa_cons (pe_callB call_isV (by rfl) T.m_isinstance (by decide +kernel) (pa_cons (pv 0) (pa_cons (pe_glob (v := .ref A.c_GroupError) rfl T.gX_GroupError rfl) pa_nil))) (pa_cons (pe_callB call_isV (by rfl) T.m_isinstance (by decide +kernel) (pa_cons (pv 0) (pa_cons (pe_glob (v := .ref A.c_Missing) rfl T.gX_Missing rfl) pa_nil))) (pa_cons (pe_callB call_isV (by rfl) T.m_isinstance (by decide +kernel) (pa_cons (pv 0) (pa_cons (pe_glob (v := .ref A.c_Refused) rfl T.gX_Refused rfl) pa_nil))) (pa_cons (pe_callB call_isV (by rfl) T.m_isinstance (by decide +kernel) (pa_cons (pv 0) (pa_cons (pe_glob (v := .ref A.c_LimitReached) rfl T.gX_LimitReached rfl) pa_nil))) pa_nil))))))
(pss_cons (ps_set (i := 1) sc_l_bases.nd rfl (.inl rfl) (pe_op op_cat (pv 1) (pe_lst (pa_cons (pe_callB call_isV (by rfl) T.m_isinstance (by decide +kernel) (pa_cons (pv 0) (pa_cons (pe_bltn (v := .ty "ValueError") rfl T.m_ValueError (by decide +kernel) rfl) pa_nil))) (pa_cons (pe_callB call_isV (by rfl) T.m_isinstance (by decide +kernel) (pa_cons (pv 0) (pa_cons (pe_bltn (v := .ty "LookupError") rfl T.m_LookupError (by decide +kernel) rfl) pa_nil))) (pa_cons (pe_callB call_isV (by rfl) T.m_isinstance (by decide +kernel) (pa_cons (pv 0) (pa_cons (pe_bltn (v := .ty "RuntimeError") rfl T.m_RuntimeError (by decide +kernel) rfl) pa_nil))) pa_nil))))))
(pss_cons (ps_set (i := 1) sc_l_bases.nd rfl (.inl rfl) (pe_op op_cat (pv 1) (pe_lst (pa_cons (pe_callB call_isV (by rfl) T.m_isinstance (by decide +kernel) (pa_cons (pv 0) (pa_cons (pe_bltn (v := .ty "ArithmeticError") rfl T.m_ArithmeticError (by decide +kernel) rfl) pa_nil))) (pa_cons (pe_callB call_isV (by rfl) T.m_isinstance (by decide +kernel) (pa_cons (pv 0) (pa_cons (pe_bltn (v := .ty "KeyError") rfl T.m_KeyError (by decide +kernel) rfl) pa_nil))) (pa_cons (pe_callB call_isV (by rfl) T.m_isinstance (by decide +kernel) (pa_cons (pv 0) (pa_cons (pe_bltn (v := .ty "IndexError") rfl T.m_IndexError (by decide +kernel) rfl) pa_nil))) pa_nil))))))
(pss_one (ps_ret (pe_lc (own := [("_law_k", 2), ("_law_flag", 3)]) (g := (gTup K 2 (gCons (gName 2) (gCons (gName 3) gNil)))) rfl sc_l_bases.nd (pi_enum (by rfl) T.m_enumerate (pa_cons (pe_op op_cat (pv 1) (pe_lst (pa_cons (pe_callB call_isV (by rfl) T.m_isinstance (by decide +kernel) (pa_cons (pv 0) (pa_cons (pe_bltn (v := .ty "OverflowError") rfl T.m_OverflowError (by decide +kernel) rfl) pa_nil))) (pa_cons (pe_callB call_isV (by rfl) T.m_isinstance (by decide +kernel) (pa_cons (pv 0) (pa_cons (pe_bltn (v := .ty "TypeError") rfl T.m_TypeError (by decide +kernel) rfl) pa_nil))) pa_nil)))) pa_nil)) (blkOk_by (own := [("_law_k", 2), ("_law_flag", 3)]) (N := ["_law_e", "_law_kinds", "_law_k", "_law_flag"]) (sc := defScope s_l_bases) (by decide +kernel)) (fun _ _ _ _ _ => (pg_tup rfl (pgs_cons (pg_name (i := 2) sc_l_bases.nd rfl (.inl rfl)) (pgs_cons (pg_name (i := 3) sc_l_bases.nd rfl (.inl rfl)) pgs_nil)))) (fun _ _ _ _ _ => (pts_one (pt_val (pv 3)))) (fun _ _ _ _ _ => (pv 2)))))))), ?_⟩
    obtain ⟨xi, ⟨n, i, m, ex⟩, kr⟩ := id ek
    have cg := T.cg
    unfold kiL at kr
    obtain ⟨bs0, hbs⟩ : ∃ x, x = bs := ⟨_, rfl⟩
    rw [← hbs] at q
    iterate 47 (have kz := KR.head kr; clear kr; obtain ⟨_, _, rfl, _, kr⟩ := kz)
    cases KR.done kr
    clear kr ek
    repeat (walk_at "st")
    refine i_new fun p1 G1 n1 s1 e1 => ?_
    repeat (walk_at "st")
    refine i_new fun p2 G2 n2 s2 e2 => ?_
    repeat (walk_at "st")
    refine i_new fun p3 G3 n3 s3 e3 => ?_
    repeat (walk_at "st")
    refine i_new fun p4 G4 n4 s4 e4 => ?_
    repeat (walk_at "st")
    refine i_new fun p5 G5 n5 s5 e5 => ?_
    repeat (walk_at "st")
    refine i_new fun p6 G6 n6 s6 e6 => ?_
    repeat (walk_at "st")
    refine i_new fun p7 G7 n7 s7 e7 => ?_
    obtain ⟨cs, hcs⟩ : ∃ x, x = List.drop 35 bs0 := ⟨_, rfl⟩
    dsimp only at q
    rw [← hcs] at q
    rw [hbs] at hcs
    have lcs : cs.length = 12 := by rw [hcs]; rfl
    have sF : Same H G7 := by walk_at "off"
    repeat (walk_at "st")
    have eF : G7 p7 = some (.lst (cs.map V.bl)) := by rw [e7, hcs]; rfl
    clear e7 hcs
    refine l_fq wq_enum (fun i => cs.getD i false) (fun i => .int (i : Nat)) (by rw [List.length_map, lcs, sizeLine_eq]; decide) (fun H' s => SqL.of (s _ _ eF)) (fun i x H' S N hi hr s1 hS hN => ?_) (fun D H' n1 s1 e1 => ?_)
    · obtain ⟨p, x1, x2, rfl, eT, e1, e2⟩ := hr
      cases e1
      replace e2 : (cs.map V.bl)[i]? = some x2 := e2
      rw [List.getElem?_map] at e2
      cases hb : cs[i]? with
      | none => rw [hb] at e2; cases e2
      | some b =>
        rw [hb] at e2
        cases e2
        have hg : cs.getD i false = b := by rw [List.getD_eq_getElem?_getD, hb]; rfl
        rw [hg] at hS hN
        repeat (walk_at "st")
        refine i_ite (fun e => ?_) (fun e => ?_)
        · repeat (walk_at "st")
          exact hS e _ (Same.refl _)
        · exact hN e _ (Same.refl _)
    · rw [List.length_map] at e1
      exact q D H' (none_of sF n1) (sF.trans s1) e1
end
end KX

namespace KX
open PySem PySem.Spec PyProof.Rows L2

local macro_rules | `(tactic| walk_at "xi") => `(tactic| first
  | assumption
  | with_reducible exact XI.same (by assumption) (by walk_at "xi")
  | fail)
local macro_rules | `(tactic| walk_at "px") => `(tactic| first
  | assumption
  | with_reducible exact PX.same (by assumption) (by walk_at "px")
  | fail)

local macro_rules | `(tactic| walk_at "kp") => `(tactic| first
  | with_reducible exact Kp.refl
  | with_reducible exact Kp.thenS (by assumption) (by walk_at "kp")
  | with_reducible exact Kp.thenO (by assumption) (by walk_at "ne") (by walk_at "kp")
  | fail)
local macro_rules | `(tactic| walk_at "hq") => `(tactic| first
  | assumption
  | with_reducible exact Kp.get (by assumption) (by walk_at "kp")
  | fail)
local macro_rules | `(tactic| walk_at "hg") => `(tactic| first
  | walk_at "hq"
  | exact upd_same
  | with_reducible exact (upd_ne (by walk_at "ne")).trans (by walk_at "hg")
  | with_reducible exact Same.get (by assumption) (by walk_at "hg")
  | with_reducible exact Off.get (by assumption) (by walk_at "ne") (by walk_at "hg")
  | fail)
local macro_rules | `(tactic| walk_at "ne") => `(tactic| first
  | assumption
  | (apply Ne.symm; assumption)
  | exact Rok.ne' (by assumption) (by walk_at "rok")
  | exact (Rok.ne' (by assumption) (by walk_at "rok")).symm
  | exact ne_some (by assumption) (by walk_at "hg")
  | exact (ne_some (by assumption) (by walk_at "hg")).symm
  | fail)
local macro_rules | `(tactic| walk_at "rok") => `(tactic| first
  | assumption
  | with_reducible exact Rok.kp (by assumption) (by walk_at "kp")
  | with_reducible exact Rok.same (by assumption) (by walk_at "rok")
  | fail)
local macro_rules | `(tactic| walk_at "sq") => `(tactic| first
  | assumption
  | exact Same.seq (by assumption) (by assumption)
  | (with_reducible show SqL _ _ _ _; with_reducible exact SqL.of (by walk_at "hg"))
  | (with_reducible show SqT _ _ _ _; with_reducible exact SqT.of (by walk_at "hg"))
  | fail)
local macro_rules | `(tactic| walk_at "dac") => `(tactic| first
  | assumption
  | exact DaF.same (by assumption) (by walk_at "dac")
  | fail)
local macro_rules | `(tactic| walk_at "da") => `(tactic| first
  | exact (DaF.non : DaS _ _ _ _)
  | exact (DaF.bl _ : DaS _ _ _ _)
  | exact (DaF.int _ : DaS _ _ _ _)
  | exact (DaF.str _ : DaS _ _ _ _)
  | exact DaF.non
  | exact DaF.bl _
  | exact DaF.int _
  | exact DaF.str _
  | walk_at "dac"
  | with_reducible exact DaF.lst (SqL.of (by walk_at "hq")) (fun _ => by assumption) (by walk_at "das")
  | with_reducible exact Da.lst (SqL.of (by walk_at "hq")) (by walk_at "das")
  | with_reducible exact DaF.tup (SqT.of (by walk_at "hq")) (by walk_at "das")
  | with_reducible exact DaF.dic (Rd.of (by walk_at "hq")) (by walk_at "dak")
  | fail)
local macro_rules | `(tactic| walk_at "das") => `(tactic| first
  | assumption
  | exact DaAllF.nil
  | exact DaAllF.cons (by walk_at "da") (by walk_at "das")
  | fail)
local macro_rules | `(tactic| walk_at "dak") => `(tactic| first
  | assumption
  | exact DaKvF.nil
  | exact DaKvF.cons (by walk_at "da") (by walk_at "dak")
  | fail)
local macro_rules | `(tactic| walk_at "shw") => `(tactic| first
  | assumption
  | exact shw_b2 _ _
  | exact ⟨by decide +kernel, by decide +kernel, by decide +kernel⟩
  | fail)
local macro_rules | `(tactic| walk_at "nod") => `(tactic| first
  | exact .inl rfl
  | exact .inr rfl
  | assumption
  | exact .inr (by assumption)
  | fail)
local macro_rules | `(tactic| walk_at "okd") => `(tactic| first
  | assumption
  | exact okd_of (by decide +kernel)
  | fail)
local macro_rules | `(tactic| walk_at "off") => `(tactic| first
  | assumption
  | exact Off.refl _ _
  | exact Same.refl _
  | with_reducible exact Same.thenS (by assumption) (by walk_at "off")
  | with_reducible exact Off.thenS (by assumption) (by walk_at "off")
  | with_reducible exact Off.thenO (by assumption) (by walk_at "off")
  | with_reducible exact Same.thenF (by assumption) (by assumption) (by walk_at "off") (by walk_at "off")
  | with_reducible exact Off.thenF (by assumption) (by assumption) (by walk_at "off") (by walk_at "off")
  | fail)
local macro_rules | `(tactic| walk_at "side") => `(tactic| first
  | assumption
  | omega
  | decide
  | (simp only [List.length_append, List.length_cons, List.length_nil]; decide)
  | exact ⟨by omega, by omega⟩
  | exact ⟨by omega, PyProof.noPylong_of_log2 (by first | assumption | decide)⟩
  | exact .inl ⟨by omega, by omega⟩
  | exact .inr ⟨by omega, by omega⟩
  | exact ⟨by decide, by decide, by decide⟩
  | exact ⟨by decide, by decide, by omega⟩
  | fail)
local macro_rules | `(tactic| walk_at "st") => `(tactic| first
  | with_reducible refine i_seq ?_
  | with_reducible refine i_bi ?_
  | with_reducible refine i_raise ?_
  | with_reducible refine i_callX ?_
  | with_reducible refine i_tryN ?_
  | with_reducible refine i_isNon ?_
  | with_reducible refine i_isNotNon ?_
  | ((with_reducible refine' i_split ?h ?z ?_); (case h => rfl); (case z => walk_at "side"))
  | with_reducible refine i_find ?_
  | ((with_reducible refine i_strI ?h ?_); (case h => walk_at "side"))
  | with_reducible refine i_fmt ?_
  | ((with_reducible refine i_fmS ?h ?_); (case h => walk_at "side"))
  | ((with_reducible refine i_fmI ?h ?_); (case h => walk_at "side"))
  | with_reducible refine i_jn ?_
  | with_reducible refine i_js0 ?_
  | with_reducible refine i_js1 ?_
  | ((with_reducible refine i_jsR ?h ?_); (case h => walk_at "side"))
  | with_reducible refine i_revS ?_
  | ((with_reducible refine i_exrev ?h ?_); (case h => walk_at "side"))
  | with_reducible refine i_revL ?_
  | ((with_reducible refine' i_exrevL ?h ?_); (case h => walk_at "sq"))
  | with_reducible refine i_par3 ?_
  | with_reducible refine i_ex3 ?_
  | with_reducible refine i_stB ?_
  | with_reducible refine i_mk0 ?_
  | with_reducible refine i_asg ?_
  | with_reducible refine i_c ?_
  | ((with_reducible refine' i_var ?h ?_); (case h => rfl))
  | with_reducible refine i_op ?_
  | with_reducible refine i_cons ?_
  | with_reducible refine i_nil ?_
  | ((with_reducible refine' i_gName ?h ?_); (case h => rfl))
  | with_reducible refine i_rI0 ?_
  | ((with_reducible refine i_rI ?h ?_); (case h => walk_at "side"))
  | with_reducible refine i_test ?_
  | with_reducible refine i_exbl ?_
  | with_reducible refine i_exint ?_
  | with_reducible refine i_exs ?_
  | with_reducible refine i_ret ?_
  | with_reducible refine i_next ?_
  | with_reducible refine i_ifS ?_
  | ((with_reducible refine' i_rIxL ?h ?e ?_); (case h => walk_at "sq"); (case e => first | assumption | rfl))
  | ((with_reducible refine' i_rIxT ?h ?e ?_); (case h => walk_at "sq"); (case e => first | assumption | rfl))
  | ((with_reducible refine' i_rIxS ?h ?e ?_); (case h => walk_at "side"); (case e => first | assumption | rfl))
  | with_reducible refine i_un ?_
  | with_reducible refine i_rU ?_
  | ((with_reducible refine i_rEqSame ?h ?_); (case h => rfl))
  | ((with_reducible refine i_rNeSame ?h ?_); (case h => rfl))
  | ((with_reducible refine i_rEq ?h ?_); (case h => rfl))
  | ((with_reducible refine i_rNe ?h ?_); (case h => rfl))
  | with_reducible refine i_tB ?_
  | with_reducible refine i_and ?_
  | with_reducible refine i_or ?_
  | with_reducible refine i_not ?_
  | with_reducible refine i_andV ?_
  | with_reducible refine i_orV ?_
  | with_reducible refine i_notV ?_
  | with_reducible refine i_if ?_
  | with_reducible refine i_chain ?_
  | with_reducible refine i_drop ?_
  | with_reducible refine i_retN ?_
  | with_reducible refine i_par ?_
  | with_reducible refine i_ex2 ?_
  | ((with_reducible refine' i_aug ?h ?_); (case h => rfl))
  | with_reducible refine i_gNil ?_
  | with_reducible refine i_gCons ?_
  | ((with_reducible refine' i_gTup ?h ?e ?_); (case h => walk_at "sq"); (case e => rfl))
  | with_reducible refine i_gSub ?_
  | ((with_reducible refine' i_rSetL ?h ?e ?_); (case h => walk_at "hg"); (case e => first | assumption | rfl))
  | with_reducible refine i_tup ?_
  | with_reducible refine i_lst ?_
  | with_reducible refine i_lstN ?_
  | with_reducible refine i_newDK ?_
  | with_reducible refine i_disp ?_
  | with_reducible refine i_pairs0 ?_
  | with_reducible refine i_pairs1 ?_
  | with_reducible refine i_call ?_
  | with_reducible refine i_mkV0 ?_
  | with_reducible refine i_mkW0 ?_
  | with_reducible refine i_mkX0 ?_
  | with_reducible refine i_mkY0 ?_
  | with_reducible refine i_xv0 ?_
  | with_reducible refine i_mk00 ?_
  | ((with_reducible refine' i_mkX ?h ?f ?l ?_); (case h => rfl); (case f => decide); (case l => rfl); intro _ _)
  | ((with_reducible refine' i_xvQ ?T ?n ?a ?d ?l ?_); (case a => walk_at "hg"); (case d => walk_at "hg"); (case T => assumption); (case n => assumption); (case l => rfl))
  | ((with_reducible refine' i_isVr ?T ?G ?h ?k ?_); (case h => walk_at "xi"); (case T => assumption); (case G => assumption); (case k => assumption))
  | ((with_reducible refine' i_isVt ?T ?G ?h ?k ?_); (case h => walk_at "xi"); (case T => assumption); (case G => assumption); (case k => assumption))
  | ((with_reducible refine' i_gLst ?h ?e ?_); (case h => walk_at "sq"); (case e => rfl))
  | ((with_reducible refine' i_rCatN ?h ?e ?z ?_); (case h => walk_at "hg"); (case e => walk_at "hg"); (case z => walk_at "side"))
  | ((with_reducible refine' i_rRepN ?h ?e ?z ?_); (case h => walk_at "hg"); (case e => decide); (case z => walk_at "side"))
  | with_reducible refine i_cb ?_
  | with_reducible refine i_bm ?_
  | with_reducible refine i_m1 ?_
  | with_reducible refine i_m0 ?_
  | ((with_reducible refine' i_rAppend ?h ?e ?_); (case h => walk_at "hg"); (case e => walk_at "side"))
  | ((with_reducible refine i_rSlS ?h ?_); (case h => walk_at "side"))
  | ((with_reducible refine' i_rSlL ?h ?_); (case h => walk_at "sq"))
  | with_reducible refine i_sl ?_
  | with_reducible refine i_noPart ?_
  | with_reducible refine i_part ?_
  | with_reducible refine i_rng1 ?_
  | with_reducible refine i_iList ?_
  | with_reducible refine i_iStr ?_
  | with_reducible refine i_iEnum ?_
  | with_reducible refine i_iZip ?_
  | with_reducible refine i_ez ?_
  | ((with_reducible refine' i_exen ?h ?_); (case h => walk_at "sq"))
  | ((with_reducible refine' i_exz ?h ?k ?_); (case h => walk_at "sq"); (case k => walk_at "sq"))
  | ((with_reducible refine' i_listN ?h ?_); (case h => walk_at "sq"))
  | with_reducible refine i_intB ?_
  | ((with_reducible refine' i_tyL ?h ?_); (case h => walk_at "sq"))
  | with_reducible refine i_isBl ?_
  | ((with_reducible refine i_callW ?_))
  | ((with_reducible refine i_exrng ?h1 ?h2 ?_); (case h1 => walk_at "side"); (case h2 => walk_at "side"))
  | ((with_reducible refine' i_exl ?h ?_); (case h => walk_at "sq"))
  | with_reducible refine i_for ?_
  | with_reducible refine i_lc ?_
  | with_reducible refine i_yes ?_
  | with_reducible refine i_iteT ?_
  | with_reducible refine i_iteF ?_
  | ((with_reducible refine i_divmod ?h ?_); (case h => walk_at "side"))
  | ((with_reducible refine' i_isi ?h ?e ?_); (case h => walk_at "da"); (case e => decide))
  | ((with_reducible refine i_lenS ?h ?_); (case h => walk_at "side"))
  | ((with_reducible refine' i_lenL ?h ?_); (case h => walk_at "sq"))
  | ((with_reducible refine' i_lenT ?h ?_); (case h => walk_at "sq"))
  | ((with_reducible refine' i_repr ?h ?n ?e ?_); (case h => walk_at "da"); (case n => walk_at "nod"); (case e => walk_at "shw"))
  | ((with_reducible refine' i_rCat ?h ?e ?z ?_); (case h => walk_at "hg"); (case e => walk_at "hg"); (case z => walk_at "side"))
  | ((with_reducible refine i_rCatS ?h ?_); (case h => walk_at "side"))
  | with_reducible refine i_exstr ?_
  | ((with_reducible refine' i_join ?h ?z ?_); (case h => walk_at "sq"); (case z => walk_at "side"))
  | with_reducible refine i_abs ?_
  | with_reducible refine i_max ?_
  | with_reducible refine i_min ?_
  | ((with_reducible refine' i_rAll ?h ?_); (case h => walk_at "sq"))
  | ((with_reducible refine' i_lcEl ?h ?e ?_); (case h => walk_at "hg"); (case e => walk_at "side"))
  | with_reducible refine ⟨_, _, rfl, rfl, ?_⟩
  | with_reducible refine ⟨_, _, rfl, ?_⟩
  | with_reducible refine ⟨_, rfl, ?_⟩
  | with_reducible refine And.intro rfl ?_
  | ((with_reducible refine And.intro ?h ?_); (case h => walk_at "side"))
  | fail)

section
variable {P : Program} {w : World} {K : PySem.W.Frag} {mg : Str → Option Value} {base : Heap} {A : Ad}
/-- an exception, told by the classes that the law finds -/
def EV (K : PySem.W.Frag) (A : Ad) (H : Hp) (v : V) (r : List Nat × List Nat) : Prop := ∃ e C bs, v = .ref e ∧ EK K A H e C bs ∧ idx (bs.take 35) = r.1 ∧ idx (bs.drop 35) = r.2
theorem EV.same {H H' : Hp} {v : V} {r : List Nat × List Nat} (s : Same H H') (h : EV K A H v r) : EV K A H' v r := let ⟨e, C, bs, h1, h2, h3, h4⟩ := h; ⟨e, C, bs, h1, h2.same s, h3, h4⟩
theorem EV.off {H H' : Hp} {v : V} {r : List Nat × List Nat} {p : Addr} {xs : List V} (hp : H p = some (.lst xs)) (s : Off p H H') (h : EV K A H v r) : EV K A H' v r := by
  obtain ⟨e, C, bs, h1, ⟨⟨od, x1, x2⟩, h3, h4⟩, h5, h6⟩ := h
  have ne : ∀ {b : Addr} {φ : Heap → Prop}, H b = some (.ext φ) → b ≠ p := fun {b φ} hb z => by rw [z, hp] at hb; cases hb
  exact ⟨e, C, bs, h1, ⟨⟨od, s.get (ne x1) x1, fun d hd => let ⟨fs, k⟩ := x2 d hd; ⟨fs, s.get (ne k) k⟩⟩, h3, h4⟩, h5, h6⟩
local macro_rules | `(tactic| walk_at "ev") => `(tactic| first
  | assumption
  | with_reducible exact EV.same (by assumption) (by walk_at "ev")
  | fail)
def AX (K : PySem.W.Frag) (A : Ad) (H : Hp) : List V → List (List Nat × List Nat) → Prop
  | [], [] => True
  | v :: vs, r :: rs => EV K A H v r ∧ AX K A H vs rs
  | _, _ => False
theorem AX.same {H H' : Hp} (s : Same H H') : ∀ {vs : List V} {rs : List (List Nat × List Nat)}, AX K A H vs rs → AX K A H' vs rs
  | [], [], _ => trivial
  | _ :: _, _ :: _, h => ⟨h.1.same s, AX.same s h.2⟩
theorem AX.off {H H' : Hp} {p : Addr} {xs : List V} (hp : H p = some (.lst xs)) (s : Off p H H') : ∀ {vs : List V} {rs : List (List Nat × List Nat)}, AX K A H vs rs → AX K A H' vs rs
  | [], [], _ => trivial
  | _ :: _, _ :: _, h => ⟨h.1.off hp s, AX.off hp s h.2⟩
theorem AX.app {H : Hp} : ∀ {vs us : List V} {rs qs : List (List Nat × List Nat)}, AX K A H vs rs → AX K A H us qs → AX K A H (vs ++ us) (rs ++ qs)
  | [], _, [], _, _, k => k
  | _ :: _, _, _ :: _, _, h, k => ⟨h.1, AX.app h.2 k⟩
theorem AX.len {H : Hp} : ∀ {vs : List V} {rs : List (List Nat × List Nat)}, AX K A H vs rs → vs.length = rs.length
  | [], [], _ => rfl
  | _ :: _, _ :: _, h => congrArg (· + 1) (AX.len h.2)
theorem AX.get {H : Hp} : ∀ {vs : List V} {rs : List (List Nat × List Nat)}, AX K A H vs rs → ∀ {i : Nat} {x : V}, vs[i]? = some x → ∃ r, rs[i]? = some r ∧ EV K A H x r
  | [], [], _, i, x, h => by simp at h
  | _ :: _, _ :: _, h, 0, x, e => by cases e; exact ⟨_, rfl, h.1⟩
  | _ :: _, _ :: _, h, i + 1, x, e => AX.get h.2 (by simpa using e)
def llD (l : List Nat) : PyData := .list (l.map fun i => .int (i : Nat))
theorem da_ints {b : Bool} {H : Hp} : ∀ l : List Nat, DaAllF b K H (l.map fun i => V.int ((i : Nat) : Int)) (l.map fun i => PyData.int ((i : Nat) : Int))
  | [] => .nil
  | _ :: l => .cons (.int _) (da_ints l)
theorem lay_ints : ∀ l : List Nat, PyData.canLayAll0 (l.map fun i => PyData.int ((i : Nat) : Int)) = true := fun l => lay_all fun d hd => by
  obtain ⟨i, _, rfl⟩ := List.mem_map.mp hd
  rfl
theorem nd_ll (ls : List (List Nat)) : PyData.hasDict (.list (ls.map llD)) = false := nd_all fun d hd => by
  obtain ⟨l, _, rfl⟩ := List.mem_map.mp hd
  exact nd_all fun d hd => by
    obtain ⟨i, _, rfl⟩ := List.mem_map.mp hd
    rfl
theorem shaped_ll (ls : List (List Nat)) : SeqAt.shaped (.list (ls.map llD)) = true := shaped_list fun d hd => by
  obtain ⟨l, _, rfl⟩ := List.mem_map.mp hd
  refine ⟨lay_ints l, ?_⟩
  have := depthAll_le (ds := l.map fun i => PyData.int ((i : Nat) : Int)) (k := 0) fun d hd => by
    obtain ⟨i, _, rfl⟩ := List.mem_map.mp hd
    simp [PyData.depth]
  simp only [llD, PyData.depth]; omega
/-- a new list of ints, seen from the comprehension that makes it -/
theorem da_new {H H' H'' : Hp} {D p : Addr} {zs : List V} {l : List Nat} (s : Same H H') (eD : H' D = some (.lst zs)) (n : H' p = none) (e : H'' p = some (.lst (l.map fun i => V.int ((i : Nat) : Int)))) : Da K (wo D (newP H H'')) (.ref p) (llD l) := by
  have pD : p ≠ D := (ne_of_none eD n).symm
  exact Da.lst (SqL.of (by rw [wo_get pD, newP_get (none_of s n)]; exact e)) (da_ints l)
def sp_l_hier : Sp := fun vs H Q _ => ∃ (a b : V), vs = [a, b] ∧ ∀ H', Same H H' → Q (.bl true) H'
theorem ok_l_hierarchy_right (T : Txt K mg A) (G_l_classes : Fg P w K mg base CX0 2 A.f_l_classes A.d_l_classes ["_law_e"] (sp_l_cls K A fun bs => bs.take 35)) (G_l_bases : Fg P w K mg base CX0 1 A.f_l_bases A.d_l_bases ["_law_e"] (sp_l_cls K A fun bs => bs.drop 35)) : Fg P w K mg base CX0 3 A.f_l_hierarchy_right A.d_l_hierarchy_right ["_law_a", "_law_b"] sp_l_hier := by
  have G_InvalidNamex_initx := ok_InvalidNamex_initx (P := P) (w := w) (base := base) T
  have G_InvalidVersionx_initx := ok_InvalidVersionx_initx (P := P) (w := w) (base := base) T
  have G_InvalidWindowx_initx := ok_InvalidWindowx_initx (P := P) (w := w) (base := base) T
  have G_InvalidWindowsx_initx := ok_InvalidWindowsx_initx (P := P) (w := w) (base := base) T
  have G_InvalidUsesx_initx := ok_InvalidUsesx_initx (P := P) (w := w) (base := base) T
  have G_InvalidRowsx_initx := ok_InvalidRowsx_initx (P := P) (w := w) (base := base) T
  have G_InvalidStatex_initx := ok_InvalidStatex_initx (P := P) (w := w) (base := base) T
  have G_InvalidDemandx_initx := ok_InvalidDemandx_initx (P := P) (w := w) (base := base) T
  have G_InvalidGoalsx_initx := ok_InvalidGoalsx_initx (P := P) (w := w) (base := base) T
  have G_InvalidStepx_initx := ok_InvalidStepx_initx (P := P) (w := w) (base := base) T
  have G_InvalidStepsx_initx := ok_InvalidStepsx_initx (P := P) (w := w) (base := base) T
  have G_InvalidCountx_initx := ok_InvalidCountx_initx (P := P) (w := w) (base := base) T
  have G_InvalidTextx_initx := ok_InvalidTextx_initx (P := P) (w := w) (base := base) T
  have G_InvalidEntryx_initx := ok_InvalidEntryx_initx (P := P) (w := w) (base := base) T
  have G_UnknownModulex_initx := ok_UnknownModulex_initx (P := P) (w := w) (base := base) T
  have G_UnknownUsex_initx := ok_UnknownUsex_initx (P := P) (w := w) (base := base) T
  have G_UnknownVersionx_initx := ok_UnknownVersionx_initx (P := P) (w := w) (base := base) T
  have G_UnknownOperatorx_initx := ok_UnknownOperatorx_initx (P := P) (w := w) (base := base) T
  have G_UnknownSessionx_initx := ok_UnknownSessionx_initx (P := P) (w := w) (base := base) T
  have G_NotRisingx_initx := ok_NotRisingx_initx (P := P) (w := w) (base := base) T
  have G_NotConsistentx_initx := ok_NotConsistentx_initx (P := P) (w := w) (base := base) T
  have G_NotBelowx_initx := ok_NotBelowx_initx (P := P) (w := w) (base := base) T
  have G_CannotMeetx_initx := ok_CannotMeetx_initx (P := P) (w := w) (base := base) T
  have G_NoStepx_initx := ok_NoStepx_initx (P := P) (w := w) (base := base) T
  have G_MissingNeedx_initx := ok_MissingNeedx_initx (P := P) (w := w) (base := base) T
  have G_NotAvailablex_initx := ok_NotAvailablex_initx (P := P) (w := w) (base := base) T
  have G_Pinnedx_initx := ok_Pinnedx_initx (P := P) (w := w) (base := base) T
  have G_InUsex_initx := ok_InUsex_initx (P := P) (w := w) (base := base) T
  have G_NameTakenx_initx := ok_NameTakenx_initx (P := P) (w := w) (base := base) T
  have G_TooManyx_initx := ok_TooManyx_initx (P := P) (w := w) (base := base) T
  have G_NoStatex_initx := ok_NoStatex_initx (P := P) (w := w) (base := base) T
  have G_Unreachablex_initx := ok_Unreachablex_initx (P := P) (w := w) (base := base) T
  refine ok_g T.F_l_hierarchy_right sc_l_hierarchy_right (fun vs H Q E h => ?_) (fun cdv Ar outer s H vs Q E hr h => ?_)
  · obtain ⟨_, _, rfl, _⟩ := h; rfl
  · obtain ⟨a, b, rfl, q⟩ := h
    refine ⟨_, (pss_cons (ps_set (i := 2) sc_l_hierarchy_right.nd rfl (.inl rfl) (pe_lst (pa_cons (pe_mkV T.EX_InvalidName.o T.iC_InvalidName T.tI_InvalidName G_InvalidNamex_initx (hr.room.mono (by decide)) T.b_InvalidNamex_initx pass0 (by rfl) T.gX_InvalidName (pa_cons (pv 0) pa_nil)) (pa_cons (pe_mkV T.EX_InvalidVersion.o T.iC_InvalidVersion T.tI_InvalidVersion G_InvalidVersionx_initx (hr.room.mono (by decide)) T.b_InvalidVersionx_initx pass0 (by rfl) T.gX_InvalidVersion (pa_cons (pv 1) pa_nil)) (pa_cons (pe_mkV T.EX_InvalidWindow.o T.iC_InvalidWindow T.tI_InvalidWindow G_InvalidWindowx_initx (hr.room.mono (by decide)) T.b_InvalidWindowx_initx pass0 (by rfl) T.gX_InvalidWindow (pa_cons (pv 0) pa_nil)) (pa_cons (pe_mkV T.EX_InvalidWindows.o T.iC_InvalidWindows T.tI_InvalidWindows G_InvalidWindowsx_initx (hr.room.mono (by decide)) T.b_InvalidWindowsx_initx pass0 (by rfl) T.gX_InvalidWindows (pa_cons (pv 1) pa_nil)) (pa_cons (pe_mkV T.EX_InvalidUses.o T.iC_InvalidUses T.tI_InvalidUses G_InvalidUsesx_initx (hr.room.mono (by decide)) T.b_InvalidUsesx_initx pass0 (by rfl) T.gX_InvalidUses (pa_cons (pv 0) pa_nil)) (pa_cons (pe_mkV T.EX_InvalidRows.o T.iC_InvalidRows T.tI_InvalidRows G_InvalidRowsx_initx (hr.room.mono (by decide)) T.b_InvalidRowsx_initx pass0 (by rfl) T.gX_InvalidRows (pa_cons (pv 0) pa_nil)) pa_nil))))))))
(pss_cons (ps_set (i := 2) sc_l_hierarchy_right.nd rfl (.inl rfl) (pe_op op_cat (pv 2) (pe_lst (pa_cons (pe_mkV T.EX_InvalidState.o T.iC_InvalidState T.tI_InvalidState G_InvalidStatex_initx (hr.room.mono (by decide)) T.b_InvalidStatex_initx pass0 (by rfl) T.gX_InvalidState (pa_cons (pv 1) pa_nil)) (pa_cons (pe_mkV T.EX_InvalidDemand.o T.iC_InvalidDemand T.tI_InvalidDemand G_InvalidDemandx_initx (hr.room.mono (by decide)) T.b_InvalidDemandx_initx pass0 (by rfl) T.gX_InvalidDemand (pa_cons (pv 0) pa_nil)) (pa_cons (pe_mkV T.EX_InvalidGoals.o T.iC_InvalidGoals T.tI_InvalidGoals G_InvalidGoalsx_initx (hr.room.mono (by decide)) T.b_InvalidGoalsx_initx pass0 (by rfl) T.gX_InvalidGoals (pa_cons (pv 0) pa_nil)) (pa_cons (pe_mkV T.EX_InvalidStep.o T.iC_InvalidStep T.tI_InvalidStep G_InvalidStepx_initx (hr.room.mono (by decide)) T.b_InvalidStepx_initx pass0 (by rfl) T.gX_InvalidStep (pa_cons (pv 1) pa_nil)) (pa_cons (pe_mkV T.EX_InvalidSteps.o T.iC_InvalidSteps T.tI_InvalidSteps G_InvalidStepsx_initx (hr.room.mono (by decide)) T.b_InvalidStepsx_initx pass0 (by rfl) T.gX_InvalidSteps (pa_cons (pv 0) pa_nil)) pa_nil))))))))
(pss_cons (ps_set (i := 2) sc_l_hierarchy_right.nd rfl (.inl rfl) (pe_op op_cat (pv 2) (pe_lst (pa_cons (pe_mk0 baseV T.xin_InvalidChange T.gX_InvalidChange T.EX_InvalidChange.o.kC (by rfl) pe_str) (pa_cons (pe_mkV T.EX_InvalidCount.o T.iC_InvalidCount T.tI_InvalidCount G_InvalidCountx_initx (hr.room.mono (by decide)) T.b_InvalidCountx_initx pass0 (by rfl) T.gX_InvalidCount (pa_cons (pv 0) pa_nil)) (pa_cons (pe_mkV T.EX_InvalidText.o T.iC_InvalidText T.tI_InvalidText G_InvalidTextx_initx (hr.room.mono (by decide)) T.b_InvalidTextx_initx pass0 (by rfl) T.gX_InvalidText (pa_cons (pv 1) pa_nil)) (pa_cons (pe_mkV T.EX_InvalidEntry.o T.iC_InvalidEntry T.tI_InvalidEntry G_InvalidEntryx_initx (hr.room.mono (by decide)) T.b_InvalidEntryx_initx pass0 (by rfl) T.gX_InvalidEntry (pa_cons (pv 0) pa_nil)) pa_nil)))))))
(pss_cons (ps_expr (pe_bm PySem.F.plainAttrs_list PySem.F.slot_list_append PySem.F.type_list_append mt_append (pv 2) (pa_cons (pe_mk0 baseV T.xin_InvalidCommand T.gX_InvalidCommand T.EX_InvalidCommand.o.kC (by rfl) pe_str) pa_nil)))
(pss_cons (ps_if (pt_cmpR (op_neD hr.room.units) (pe_lc (own := [("_law_e", 7)]) rfl sc_l_hierarchy_right.nd (pi_list (pv 2)) (blkOk_by (own := [("_law_e", 7)]) (N := ["_law_a", "_law_b", "_law_made", "_law_more", "_law_last", "_law_limits", "_law_plain", "_law_e", "_law_k"]) (sc := defScope s_l_hierarchy_right) (by decide +kernel)) (fun _ _ _ _ _ => (pg_name (i := 7) sc_l_hierarchy_right.nd rfl (.inl rfl))) (fun _ _ _ _ _ => pts_nil) (fun _ _ _ _ _ => (pe_call G_l_bases (hr.mono (by decide)) (by rfl) T.g_l_bases T.F_l_bases.kp T.b_l_bases .nil pass0 (pa_cons (pv 7) pa_nil)))) (pe_op op_rep (pe_lst (pa_cons (Lit.pe (Lit.lst (LitAll.cons Lit.int (LitAll.cons Lit.int LitAll.nil)) (by decide))) pa_nil)) pe_int) (nomark _))
(pss_one (ps_ret pe_bl))
pss_nil)
(pss_cons (ps_set (i := 3) sc_l_hierarchy_right.nd rfl (.inl rfl) (pe_lst (pa_cons (pe_mkV T.EX_UnknownModule.o T.iC_UnknownModule T.tI_UnknownModule G_UnknownModulex_initx (hr.room.mono (by decide)) T.b_UnknownModulex_initx pass0 (by rfl) T.gX_UnknownModule (pa_cons (pv 0) pa_nil)) (pa_cons (pe_mkV T.EX_UnknownUse.o T.iC_UnknownUse T.tI_UnknownUse G_UnknownUsex_initx (hr.room.mono (by decide)) T.b_UnknownUsex_initx pass0 (by rfl) T.gX_UnknownUse (pa_cons (pv 0) (pa_cons (pv 1) pa_nil))) (pa_cons (pe_mkV T.EX_UnknownVersion.o T.iC_UnknownVersion T.tI_UnknownVersion G_UnknownVersionx_initx (hr.room.mono (by decide)) T.b_UnknownVersionx_initx pass0 (by rfl) T.gX_UnknownVersion (pa_cons (pv 1) (pa_cons (pv 0) pa_nil))) (pa_cons (pe_mkV T.EX_UnknownOperator.o T.iC_UnknownOperator T.tI_UnknownOperator G_UnknownOperatorx_initx (hr.room.mono (by decide)) T.b_UnknownOperatorx_initx pass0 (by rfl) T.gX_UnknownOperator (pa_cons (pv 0) pa_nil)) (pa_cons (pe_mkV T.EX_UnknownSession.o T.iC_UnknownSession T.tI_UnknownSession G_UnknownSessionx_initx (hr.room.mono (by decide)) T.b_UnknownSessionx_initx pass0 (by rfl) T.gX_UnknownSession (pa_cons (pv 1) pa_nil)) pa_nil)))))))
(pss_cons (ps_if (pt_cmpR (op_neD hr.room.units) (pe_lc (own := [("_law_e", 7)]) rfl sc_l_hierarchy_right.nd (pi_list (pv 3)) (blkOk_by (own := [("_law_e", 7)]) (N := ["_law_a", "_law_b", "_law_made", "_law_more", "_law_last", "_law_limits", "_law_plain", "_law_e", "_law_k"]) (sc := defScope s_l_hierarchy_right) (by decide +kernel)) (fun _ _ _ _ _ => (pg_name (i := 7) sc_l_hierarchy_right.nd rfl (.inl rfl))) (fun _ _ _ _ _ => pts_nil) (fun _ _ _ _ _ => (pe_call G_l_bases (hr.mono (by decide)) (by rfl) T.g_l_bases T.F_l_bases.kp T.b_l_bases .nil pass0 (pa_cons (pv 7) pa_nil)))) (pe_op op_rep (pe_lst (pa_cons (Lit.pe (Lit.lst (LitAll.cons Lit.int (LitAll.cons Lit.int LitAll.nil)) (by decide))) pa_nil)) pe_int) (nomark _))
(pss_one (ps_ret pe_bl))
pss_nil)
(pss_cons (ps_set (i := 4) sc_l_hierarchy_right.nd rfl (.inl rfl) (pe_lst (pa_cons (pe_mkV T.EX_NotRising.o T.iC_NotRising T.tI_NotRising G_NotRisingx_initx (hr.room.mono (by decide)) T.b_NotRisingx_initx pass0 (by rfl) T.gX_NotRising (pa_cons (pv 0) (pa_cons (pv 1) pa_nil))) (pa_cons (pe_mkV T.EX_NotConsistent.o T.iC_NotConsistent T.tI_NotConsistent G_NotConsistentx_initx (hr.room.mono (by decide)) T.b_NotConsistentx_initx pass0 (by rfl) T.gX_NotConsistent (pa_cons (pv 1) (pa_cons (pv 0) pa_nil))) (pa_cons (pe_mkV T.EX_NotBelow.o T.iC_NotBelow T.tI_NotBelow G_NotBelowx_initx (hr.room.mono (by decide)) T.b_NotBelowx_initx pass0 (by rfl) T.gX_NotBelow (pa_cons (pv 0) pa_nil)) (pa_cons (pe_mkV T.EX_CannotMeet.o T.iC_CannotMeet T.tI_CannotMeet G_CannotMeetx_initx (hr.room.mono (by decide)) T.b_CannotMeetx_initx pass0 (by rfl) T.gX_CannotMeet (pa_cons (pv 0) (pa_cons (pv 1) pa_nil))) (pa_cons (pe_mkV T.EX_NoStep.o T.iC_NoStep T.tI_NoStep G_NoStepx_initx (hr.room.mono (by decide)) T.b_NoStepx_initx pass0 (by rfl) T.gX_NoStep (pa_cons (pv 0) (pa_cons (pv 1) pa_nil))) (pa_cons (pe_mkV T.EX_MissingNeed.o T.iC_MissingNeed T.tI_MissingNeed G_MissingNeedx_initx (hr.room.mono (by decide)) T.b_MissingNeedx_initx pass0 (by rfl) T.gX_MissingNeed (pa_cons (pv 0) pa_nil)) pa_nil))))))))
(pss_cons (ps_set (i := 4) sc_l_hierarchy_right.nd rfl (.inl rfl) (pe_op op_cat (pv 4) (pe_lst (pa_cons (pe_mkV T.EX_NotAvailable.o T.iC_NotAvailable T.tI_NotAvailable G_NotAvailablex_initx (hr.room.mono (by decide)) T.b_NotAvailablex_initx pass0 (by rfl) T.gX_NotAvailable (pa_cons (pv 1) pa_nil)) (pa_cons (pe_mkV T.EX_Pinned.o T.iC_Pinned T.tI_Pinned G_Pinnedx_initx (hr.room.mono (by decide)) T.b_Pinnedx_initx pass0 (by rfl) T.gX_Pinned (pa_cons (pv 0) (pa_cons (pv 1) pa_nil))) (pa_cons (pe_mkV T.EX_InUse.o T.iC_InUse T.tI_InUse G_InUsex_initx (hr.room.mono (by decide)) T.b_InUsex_initx pass0 (by rfl) T.gX_InUse (pa_cons (pv 0) (pa_cons (pv 1) pa_nil))) (pa_cons (pe_mkV T.EX_NameTaken.o T.iC_NameTaken T.tI_NameTaken G_NameTakenx_initx (hr.room.mono (by decide)) T.b_NameTakenx_initx pass0 (by rfl) T.gX_NameTaken (pa_cons (pv 0) pa_nil)) (pa_cons (pe_mk0 baseR T.xin_NothingToUndo T.gX_NothingToUndo T.EX_NothingToUndo.o.kC (by rfl) pe_str) pa_nil))))))))
(pss_cons (ps_if (pt_cmpR (op_neD hr.room.units) (pe_lc (own := [("_law_e", 7)]) rfl sc_l_hierarchy_right.nd (pi_list (pv 4)) (blkOk_by (own := [("_law_e", 7)]) (N := ["_law_a", "_law_b", "_law_made", "_law_more", "_law_last", "_law_limits", "_law_plain", "_law_e", "_law_k"]) (sc := defScope s_l_hierarchy_right) (by decide +kernel)) (fun _ _ _ _ _ => (pg_name (i := 7) sc_l_hierarchy_right.nd rfl (.inl rfl))) (fun _ _ _ _ _ => pts_nil) (fun _ _ _ _ _ => (pe_call G_l_bases (hr.mono (by decide)) (by rfl) T.g_l_bases T.F_l_bases.kp T.b_l_bases .nil pass0 (pa_cons (pv 7) pa_nil)))) (pe_op op_rep (pe_lst (pa_cons (Lit.pe (Lit.lst (LitAll.cons Lit.int (LitAll.cons Lit.int LitAll.nil)) (by decide))) pa_nil)) pe_int) (nomark _))
(pss_one (ps_ret pe_bl))
pss_nil)
(pss_cons (ps_set (i := 5) sc_l_hierarchy_right.nd rfl (.inl rfl) (pe_lst (pa_cons (pe_mkV T.EX_TooMany.o T.iC_TooMany T.tI_TooMany G_TooManyx_initx (hr.room.mono (by decide)) T.b_TooManyx_initx pass0 (by rfl) T.gX_TooMany (pa_cons (pv 0) (pa_cons (pv 1) pa_nil))) (pa_cons (pe_mkV T.EX_NoState.o T.iC_NoState T.tI_NoState G_NoStatex_initx (hr.room.mono (by decide)) T.b_NoStatex_initx pass0 (by rfl) T.gX_NoState (pa_cons (pv 0) pa_nil)) (pa_cons (pe_mkV T.EX_Unreachable.o T.iC_Unreachable T.tI_Unreachable G_Unreachablex_initx (hr.room.mono (by decide)) T.b_Unreachablex_initx pass0 (by rfl) T.gX_Unreachable (pa_cons (pv 1) pa_nil)) pa_nil)))))
(pss_cons (ps_if (pt_cmpR (op_neD hr.room.units) (pe_lc (own := [("_law_e", 7)]) rfl sc_l_hierarchy_right.nd (pi_list (pv 5)) (blkOk_by (own := [("_law_e", 7)]) (N := ["_law_a", "_law_b", "_law_made", "_law_more", "_law_last", "_law_limits", "_law_plain", "_law_e", "_law_k"]) (sc := defScope s_l_hierarchy_right) (by decide +kernel)) (fun _ _ _ _ _ => (pg_name (i := 7) sc_l_hierarchy_right.nd rfl (.inl rfl))) (fun _ _ _ _ _ => pts_nil) (fun _ _ _ _ _ => (pe_call G_l_bases (hr.mono (by decide)) (by rfl) T.g_l_bases T.F_l_bases.kp T.b_l_bases .nil pass0 (pa_cons (pv 7) pa_nil)))) (pe_op op_rep (pe_lst (pa_cons (Lit.pe (Lit.lst (LitAll.cons Lit.int (LitAll.cons Lit.int LitAll.nil)) (by decide))) pa_nil)) pe_int) (nomark _))
(pss_one (ps_ret pe_bl))
pss_nil)
(pss_cons (ps_set (i := 6) sc_l_hierarchy_right.nd rfl (.inl rfl) (pe_lst (pa_cons (pe_mk0 baseV T.xin_GroupError T.gX_GroupError T.EX_GroupError.o.kC (by rfl) pe_str) (pa_cons (pe_mk0 baseL T.xin_Missing T.gX_Missing T.EX_Missing.o.kC (by rfl) pe_str) (pa_cons (pe_mk0 baseR T.xin_Refused T.gX_Refused T.EX_Refused.o.kC (by rfl) pe_str) (pa_cons (pe_mk0 baseA T.xin_LimitReached T.gX_LimitReached T.EX_LimitReached.o.kC (by rfl) pe_str) pa_nil))))))
(pss_cons (ps_if (PW.pt (pw_or (pt_cmpR (op_neD hr.room.units) (pe_lc (own := [("_law_e", 7)]) rfl sc_l_hierarchy_right.nd (pi_list (pv 6)) (blkOk_by (own := [("_law_e", 7)]) (N := ["_law_a", "_law_b", "_law_made", "_law_more", "_law_last", "_law_limits", "_law_plain", "_law_e", "_law_k"]) (sc := defScope s_l_hierarchy_right) (by decide +kernel)) (fun _ _ _ _ _ => (pg_name (i := 7) sc_l_hierarchy_right.nd rfl (.inl rfl))) (fun _ _ _ _ _ => pts_nil) (fun _ _ _ _ _ => (pe_call G_l_bases (hr.mono (by decide)) (by rfl) T.g_l_bases T.F_l_bases.kp T.b_l_bases .nil pass0 (pa_cons (pv 7) pa_nil)))) (pe_lc (own := [("_law_k", 8)]) rfl sc_l_hierarchy_right.nd (pi_range1 rfl T.m_range (pa_cons pe_int pa_nil)) (blkOk_by (own := [("_law_k", 8)]) (N := ["_law_a", "_law_b", "_law_made", "_law_more", "_law_last", "_law_limits", "_law_plain", "_law_e", "_law_k"]) (sc := defScope s_l_hierarchy_right) (by decide +kernel)) (fun _ _ _ _ _ => (pg_name (i := 8) sc_l_hierarchy_right.nd rfl (.inl rfl))) (fun _ _ _ _ _ => pts_nil) (fun _ _ _ _ _ => (pe_lst (pa_cons (pv 8) (pa_cons (pe_op op_add (pv 8) pe_int) pa_nil))))) (nomark _)) (pw_or1 (pt_cmpR (op_neD hr.room.units) (pe_lc (own := [("_law_e", 7)]) rfl sc_l_hierarchy_right.nd (pi_list (pv 6)) (blkOk_by (own := [("_law_e", 7)]) (N := ["_law_a", "_law_b", "_law_made", "_law_more", "_law_last", "_law_limits", "_law_plain", "_law_e", "_law_k"]) (sc := defScope s_l_hierarchy_right) (by decide +kernel)) (fun _ _ _ _ _ => (pg_name (i := 7) sc_l_hierarchy_right.nd rfl (.inl rfl))) (fun _ _ _ _ _ => pts_nil) (fun _ _ _ _ _ => (pe_call G_l_classes (hr.mono (by decide)) (by rfl) T.g_l_classes T.F_l_classes.kp T.b_l_classes .nil pass0 (pa_cons (pv 7) pa_nil)))) (pe_op op_rep (pe_lst (pa_cons (pe_lst pa_nil) pa_nil)) pe_int) (nomark _)))))
(pss_one (ps_ret pe_bl))
pss_nil)
(pss_one (ps_ret (pe_cmpR (op_eqD hr.room.units) (pe_lc (own := [("_law_e", 7)]) rfl sc_l_hierarchy_right.nd (pi_list (pe_op op_cat (pe_op op_cat (pe_op op_cat (pv 2) (pv 3)) (pv 4)) (pv 5))) (blkOk_by (own := [("_law_e", 7)]) (N := ["_law_a", "_law_b", "_law_made", "_law_more", "_law_last", "_law_limits", "_law_plain", "_law_e", "_law_k"]) (sc := defScope s_l_hierarchy_right) (by decide +kernel)) (fun _ _ _ _ _ => (pg_name (i := 7) sc_l_hierarchy_right.nd rfl (.inl rfl))) (fun _ _ _ _ _ => pts_nil) (fun _ _ _ _ _ => (pe_call G_l_classes (hr.mono (by decide)) (by rfl) T.g_l_classes T.F_l_classes.kp T.b_l_classes .nil pass0 (pa_cons (pv 7) pa_nil)))) (pe_lc (own := [("_law_k", 8)]) rfl sc_l_hierarchy_right.nd (pi_range1 rfl T.m_range (pa_cons pe_int pa_nil)) (blkOk_by (own := [("_law_k", 8)]) (N := ["_law_a", "_law_b", "_law_made", "_law_more", "_law_last", "_law_limits", "_law_plain", "_law_e", "_law_k"]) (sc := defScope s_l_hierarchy_right) (by decide +kernel)) (fun _ _ _ _ _ => (pg_name (i := 8) sc_l_hierarchy_right.nd rfl (.inl rfl))) (fun _ _ _ _ _ => pts_nil) (fun _ _ _ _ _ => (pe_lst (pa_cons (pv 8) pa_nil)))) (nomark _)))))))))))))))))), ?_⟩
    repeat (walk_at "st")
    refine i_mkV (by rfl) (by decide) fun a1 d1 G1 s1 ea1 ed1 => ?_
    have v1 : EV K A G1 (.ref a1) ([0], [0, 4]) := ⟨_, _, _, rfl, ⟨XI.of1 ea1 ed1, ⟨_, _, _, T.EX_InvalidName⟩, T.kr_InvalidName⟩, by decide, by decide⟩
    repeat (walk_at "st")
    refine i_mkV (by rfl) (by decide) fun a2 d2 G2 s2 ea2 ed2 => ?_
    have v2 : EV K A G2 (.ref a2) ([1], [0, 4]) := ⟨_, _, _, rfl, ⟨XI.of1 ea2 ed2, ⟨_, _, _, T.EX_InvalidVersion⟩, T.kr_InvalidVersion⟩, by decide, by decide⟩
    repeat (walk_at "st")
    refine i_mkV (by rfl) (by decide) fun a3 d3 G3 s3 ea3 ed3 => ?_
    have v3 : EV K A G3 (.ref a3) ([2], [0, 4]) := ⟨_, _, _, rfl, ⟨XI.of1 ea3 ed3, ⟨_, _, _, T.EX_InvalidWindow⟩, T.kr_InvalidWindow⟩, by decide, by decide⟩
    repeat (walk_at "st")
    refine i_mkV (by rfl) (by decide) fun a4 d4 G4 s4 ea4 ed4 => ?_
    have v4 : EV K A G4 (.ref a4) ([3], [0, 4]) := ⟨_, _, _, rfl, ⟨XI.of1 ea4 ed4, ⟨_, _, _, T.EX_InvalidWindows⟩, T.kr_InvalidWindows⟩, by decide, by decide⟩
    repeat (walk_at "st")
    refine i_mkV (by rfl) (by decide) fun a5 d5 G5 s5 ea5 ed5 => ?_
    have v5 : EV K A G5 (.ref a5) ([4], [0, 4]) := ⟨_, _, _, rfl, ⟨XI.of1 ea5 ed5, ⟨_, _, _, T.EX_InvalidUses⟩, T.kr_InvalidUses⟩, by decide, by decide⟩
    repeat (walk_at "st")
    refine i_mkV (by rfl) (by decide) fun a6 d6 G6 s6 ea6 ed6 => ?_
    have v6 : EV K A G6 (.ref a6) ([5], [0, 4]) := ⟨_, _, _, rfl, ⟨XI.of1 ea6 ed6, ⟨_, _, _, T.EX_InvalidRows⟩, T.kr_InvalidRows⟩, by decide, by decide⟩
    repeat (walk_at "st")
    refine i_new fun p7 G7 n7 s7 e7 => ?_
    repeat (walk_at "st")
    refine i_mkV (by rfl) (by decide) fun a8 d8 G8 s8 ea8 ed8 => ?_
    have v8 : EV K A G8 (.ref a8) ([6], [0, 4]) := ⟨_, _, _, rfl, ⟨XI.of1 ea8 ed8, ⟨_, _, _, T.EX_InvalidState⟩, T.kr_InvalidState⟩, by decide, by decide⟩
    repeat (walk_at "st")
    refine i_mkV (by rfl) (by decide) fun a9 d9 G9 s9 ea9 ed9 => ?_
    have v9 : EV K A G9 (.ref a9) ([7], [0, 4]) := ⟨_, _, _, rfl, ⟨XI.of1 ea9 ed9, ⟨_, _, _, T.EX_InvalidDemand⟩, T.kr_InvalidDemand⟩, by decide, by decide⟩
    repeat (walk_at "st")
    refine i_mkV (by rfl) (by decide) fun a10 d10 G10 s10 ea10 ed10 => ?_
    have v10 : EV K A G10 (.ref a10) ([8], [0, 4]) := ⟨_, _, _, rfl, ⟨XI.of1 ea10 ed10, ⟨_, _, _, T.EX_InvalidGoals⟩, T.kr_InvalidGoals⟩, by decide, by decide⟩
    repeat (walk_at "st")
    refine i_mkV (by rfl) (by decide) fun a11 d11 G11 s11 ea11 ed11 => ?_
    have v11 : EV K A G11 (.ref a11) ([9], [0, 4]) := ⟨_, _, _, rfl, ⟨XI.of1 ea11 ed11, ⟨_, _, _, T.EX_InvalidStep⟩, T.kr_InvalidStep⟩, by decide, by decide⟩
    repeat (walk_at "st")
    refine i_mkV (by rfl) (by decide) fun a12 d12 G12 s12 ea12 ed12 => ?_
    have v12 : EV K A G12 (.ref a12) ([10], [0, 4]) := ⟨_, _, _, rfl, ⟨XI.of1 ea12 ed12, ⟨_, _, _, T.EX_InvalidSteps⟩, T.kr_InvalidSteps⟩, by decide, by decide⟩
    repeat (walk_at "st")
    refine i_new fun p13 G13 n13 s13 e13 => ?_
    repeat (walk_at "st")
    refine i_new fun p14 G14 n14 s14 e14 => ?_
    repeat (walk_at "st")
    refine i_mkN fun a15 G15 s15 ea15 => ?_
    have v15 : EV K A G15 (.ref a15) ([11], [0, 4]) := ⟨_, _, _, rfl, ⟨XI.of0 ea15, ⟨_, _, _, T.EX_InvalidChange⟩, T.kr_InvalidChange⟩, by decide, by decide⟩
    repeat (walk_at "st")
    refine i_mkV (by rfl) (by decide) fun a16 d16 G16 s16 ea16 ed16 => ?_
    have v16 : EV K A G16 (.ref a16) ([12], [0, 4]) := ⟨_, _, _, rfl, ⟨XI.of1 ea16 ed16, ⟨_, _, _, T.EX_InvalidCount⟩, T.kr_InvalidCount⟩, by decide, by decide⟩
    repeat (walk_at "st")
    refine i_mkV (by rfl) (by decide) fun a17 d17 G17 s17 ea17 ed17 => ?_
    have v17 : EV K A G17 (.ref a17) ([13], [0, 4]) := ⟨_, _, _, rfl, ⟨XI.of1 ea17 ed17, ⟨_, _, _, T.EX_InvalidText⟩, T.kr_InvalidText⟩, by decide, by decide⟩
    repeat (walk_at "st")
    refine i_mkV (by rfl) (by decide) fun a18 d18 G18 s18 ea18 ed18 => ?_
    have v18 : EV K A G18 (.ref a18) ([14], [0, 4]) := ⟨_, _, _, rfl, ⟨XI.of1 ea18 ed18, ⟨_, _, _, T.EX_InvalidEntry⟩, T.kr_InvalidEntry⟩, by decide, by decide⟩
    repeat (walk_at "st")
    refine i_new fun p19 G19 n19 s19 e19 => ?_
    repeat (walk_at "st")
    refine i_new fun p20 G20 n20 s20 e20 => ?_
    have eM : G20 p20 = some (.lst [.ref a1, .ref a2, .ref a3, .ref a4, .ref a5, .ref a6, .ref a8, .ref a9, .ref a10, .ref a11, .ref a12, .ref a15, .ref a16, .ref a17, .ref a18]) := e20
    clear e20
    repeat (walk_at "st")
    refine i_mkN fun a21 G21 s21 ea21 => ?_
    have v21 : EV K A G21 (.ref a21) ([15], [0, 4]) := ⟨_, _, _, rfl, ⟨XI.of0 ea21, ⟨_, _, _, T.EX_InvalidCommand⟩, T.kr_InvalidCommand⟩, by decide, by decide⟩
    repeat (walk_at "st")
    have xM0 : AX K A G21 [.ref a1, .ref a2, .ref a3, .ref a4, .ref a5, .ref a6, .ref a8, .ref a9, .ref a10, .ref a11, .ref a12, .ref a15, .ref a16, .ref a17, .ref a18] [([0], [0, 4]), ([1], [0, 4]), ([2], [0, 4]), ([3], [0, 4]), ([4], [0, 4]), ([5], [0, 4]), ([6], [0, 4]), ([7], [0, 4]), ([8], [0, 4]), ([9], [0, 4]), ([10], [0, 4]), ([11], [0, 4]), ([12], [0, 4]), ([13], [0, 4]), ([14], [0, 4])] := ⟨by walk_at "ev", by walk_at "ev", by walk_at "ev", by walk_at "ev", by walk_at "ev", by walk_at "ev", by walk_at "ev", by walk_at "ev", by walk_at "ev", by walk_at "ev", by walk_at "ev", by walk_at "ev", by walk_at "ev", by walk_at "ev", by walk_at "ev", trivial⟩
    have eM0 : G21 p20 = some (.lst [.ref a1, .ref a2, .ref a3, .ref a4, .ref a5, .ref a6, .ref a8, .ref a9, .ref a10, .ref a11, .ref a12, .ref a15, .ref a16, .ref a17, .ref a18]) := by walk_at "hg"
    have sG : Same H G21 := by walk_at "off"
    refine i_put fun G22 o22 e22 => ?_
    have xM : AX K A G22 ([.ref a1, .ref a2, .ref a3, .ref a4, .ref a5, .ref a6, .ref a8, .ref a9, .ref a10, .ref a11, .ref a12, .ref a15, .ref a16, .ref a17, .ref a18] ++ [.ref a21]) ([([0], [0, 4]), ([1], [0, 4]), ([2], [0, 4]), ([3], [0, 4]), ([4], [0, 4]), ([5], [0, 4]), ([6], [0, 4]), ([7], [0, 4]), ([8], [0, 4]), ([9], [0, 4]), ([10], [0, 4]), ([11], [0, 4]), ([12], [0, 4]), ([13], [0, 4]), ([14], [0, 4])] ++ [([15], [0, 4])]) := (xM0.app (us := [.ref a21]) (qs := [([15], [0, 4])]) ⟨v21, trivial⟩).off eM0 o22
    have sP : Same H G22 := Off.new (none_of (by walk_at "off") n20) sG o22
    clear xM0 eM0 v1 v2 v3 v4 v5 v6 v8 v9 v10 v11 v12 v15 v16 v17 v18 v21
    change G22 p20 = some (.lst [.ref a1, .ref a2, .ref a3, .ref a4, .ref a5, .ref a6, .ref a8, .ref a9, .ref a10, .ref a11, .ref a12, .ref a15, .ref a16, .ref a17, .ref a18, .ref a21]) at e22
    change AX K A G22 [.ref a1, .ref a2, .ref a3, .ref a4, .ref a5, .ref a6, .ref a8, .ref a9, .ref a10, .ref a11, .ref a12, .ref a15, .ref a16, .ref a17, .ref a18, .ref a21] [([0], [0, 4]), ([1], [0, 4]), ([2], [0, 4]), ([3], [0, 4]), ([4], [0, 4]), ([5], [0, 4]), ([6], [0, 4]), ([7], [0, 4]), ([8], [0, 4]), ([9], [0, 4]), ([10], [0, 4]), ([11], [0, 4]), ([12], [0, 4]), ([13], [0, 4]), ([14], [0, 4]), ([15], [0, 4])] at xM
    have eM := e22
    clear sG e22 o22
    repeat (walk_at "st")
    refine ⟨⟨_, SqL.of eM⟩, ?_⟩
    refine l_dq (K := K) (b := false) wk_list.q (fun i => llD ((fun _ : Nat => [0, 4]) i)) (by simp only [List.length_cons, List.length_nil, sizeLine_eq]; decide) (fun H' s => SqL.of (s _ _ eM)) (fun i x H' S D zs hi hr s1 nD eD hS => ?_) (fun D23 G23 ys23 n23 s23 e23 d23 => ?_)
    · obtain ⟨r, hr1, ev⟩ := AX.get xM hr
      have hb : r.2 = (fun _ : Nat => [0, 4]) i := by
        have z : ∀ j, j < 16 → ∀ r, ([([0], [0, 4]), ([1], [0, 4]), ([2], [0, 4]), ([3], [0, 4]), ([4], [0, 4]), ([5], [0, 4]), ([6], [0, 4]), ([7], [0, 4]), ([8], [0, 4]), ([9], [0, 4]), ([10], [0, 4]), ([11], [0, 4]), ([12], [0, 4]), ([13], [0, 4]), ([14], [0, 4]), ([15], [0, 4])] : List (List Nat × List Nat))[j]? = some r → r.2 = (fun _ : Nat => [0, 4]) j := by
          intro j hj r hr
          have : j < 16 := hj
          match j, this with
          | 0, _ => cases hr; rfl
          | 1, _ => cases hr; rfl
          | 2, _ => cases hr; rfl
          | 3, _ => cases hr; rfl
          | 4, _ => cases hr; rfl
          | 5, _ => cases hr; rfl
          | 6, _ => cases hr; rfl
          | 7, _ => cases hr; rfl
          | 8, _ => cases hr; rfl
          | 9, _ => cases hr; rfl
          | 10, _ => cases hr; rfl
          | 11, _ => cases hr; rfl
          | 12, _ => cases hr; rfl
          | 13, _ => cases hr; rfl
          | 14, _ => cases hr; rfl
          | 15, _ => cases hr; rfl
        exact z i hi r hr1
      obtain ⟨e, C, bs, rfl, ek, h1, h2⟩ := ev.same s1
      repeat (walk_at "st")
      refine ⟨_, _, _, rfl, ek, fun p G np sp ep => ?_⟩
      dsimp only at ep
      rw [h2, hb] at ep
      exact hS _ _ sp (da_new s1 eD np ep)
    have c23 : DaAllF false K G23 ys23 (((List.range 16).map (fun _ : Nat => [0, 4])).map llD) := by
      rw [List.map_map]
      exact (d23.same wo_same).same newP_same
    clear d23
    repeat (walk_at "st")
    refine i_lit fun v24 G24 s24 d24 => ?_
    repeat (walk_at "st")
    refine i_new fun p25 G25 n25 s25 e25 => ?_
    repeat (walk_at "st")
    refine i_rRep e25 (by decide) (by decide) (by simp) fun p26 G26 n26 s26 e26 => ?_
    have f26 : DaAllF false K G26 (List.replicate 16 [v24]).flatten (((List.range 16).map (fun _ : Nat => [0, 4])).map llD) := da_rep (d := llD [0, 4]) (((d24.same newP_same).da (d := llD [0, 4])).same (by walk_at "off")) 16
    refine i_neDsame (Da.lst (SqL.of (by walk_at "hg")) (c23.same (by walk_at "off"))) (Da.lst (SqL.of e26) f26) (nd_ll _) (shaped_ll _) ?_
    clear f26 c23
    repeat (walk_at "st")
    refine i_mkV (by rfl) (by decide) fun a27 d27 G27 s27 ea27 ed27 => ?_
    have v27 : EV K A G27 (.ref a27) ([16], [1, 5]) := ⟨_, _, _, rfl, ⟨XI.of1 ea27 ed27, ⟨_, _, _, T.EX_UnknownModule⟩, T.kr_UnknownModule⟩, by decide, by decide⟩
    repeat (walk_at "st")
    refine i_mkV (by rfl) (by decide) fun a28 d28 G28 s28 ea28 ed28 => ?_
    have v28 : EV K A G28 (.ref a28) ([17], [1, 5]) := ⟨_, _, _, rfl, ⟨XI.of1 ea28 ed28, ⟨_, _, _, T.EX_UnknownUse⟩, T.kr_UnknownUse⟩, by decide, by decide⟩
    repeat (walk_at "st")
    refine i_mkV (by rfl) (by decide) fun a29 d29 G29 s29 ea29 ed29 => ?_
    have v29 : EV K A G29 (.ref a29) ([18], [1, 5]) := ⟨_, _, _, rfl, ⟨XI.of1 ea29 ed29, ⟨_, _, _, T.EX_UnknownVersion⟩, T.kr_UnknownVersion⟩, by decide, by decide⟩
    repeat (walk_at "st")
    refine i_mkV (by rfl) (by decide) fun a30 d30 G30 s30 ea30 ed30 => ?_
    have v30 : EV K A G30 (.ref a30) ([19], [1, 5]) := ⟨_, _, _, rfl, ⟨XI.of1 ea30 ed30, ⟨_, _, _, T.EX_UnknownOperator⟩, T.kr_UnknownOperator⟩, by decide, by decide⟩
    repeat (walk_at "st")
    refine i_mkV (by rfl) (by decide) fun a31 d31 G31 s31 ea31 ed31 => ?_
    have v31 : EV K A G31 (.ref a31) ([20], [1, 5]) := ⟨_, _, _, rfl, ⟨XI.of1 ea31 ed31, ⟨_, _, _, T.EX_UnknownSession⟩, T.kr_UnknownSession⟩, by decide, by decide⟩
    repeat (walk_at "st")
    refine i_new fun p32 G32 n32 s32 e32 => ?_
    have xU : AX K A G32 [.ref a27, .ref a28, .ref a29, .ref a30, .ref a31] [([16], [1, 5]), ([17], [1, 5]), ([18], [1, 5]), ([19], [1, 5]), ([20], [1, 5])] := ⟨by walk_at "ev", by walk_at "ev", by walk_at "ev", by walk_at "ev", by walk_at "ev", trivial⟩
    have exU : G32 p32 = some (.lst [.ref a27, .ref a28, .ref a29, .ref a30, .ref a31]) := by walk_at "hg"
    clear v27 v28 v29 v30 v31
    repeat (walk_at "st")
    refine ⟨⟨_, SqL.of exU⟩, ?_⟩
    refine l_dq (K := K) (b := false) wk_list.q (fun i => llD ((fun _ : Nat => [1, 5]) i)) (by simp only [List.length_cons, List.length_nil, sizeLine_eq]; decide) (fun H' s => SqL.of (s _ _ exU)) (fun i x H' S D zs hi hr s1 nD eD hS => ?_) (fun D33 G33 ys33 n33 s33 e33 d33 => ?_)
    · obtain ⟨r, hr1, ev⟩ := AX.get xU hr
      have hb : r.2 = (fun _ : Nat => [1, 5]) i := by
        have z : ∀ j, j < 5 → ∀ r, ([([16], [1, 5]), ([17], [1, 5]), ([18], [1, 5]), ([19], [1, 5]), ([20], [1, 5])] : List (List Nat × List Nat))[j]? = some r → r.2 = (fun _ : Nat => [1, 5]) j := by
          intro j hj r hr
          have : j < 5 := hj
          match j, this with
          | 0, _ => cases hr; rfl
          | 1, _ => cases hr; rfl
          | 2, _ => cases hr; rfl
          | 3, _ => cases hr; rfl
          | 4, _ => cases hr; rfl
        exact z i hi r hr1
      obtain ⟨e, C, bs, rfl, ek, h1, h2⟩ := ev.same s1
      repeat (walk_at "st")
      refine ⟨_, _, _, rfl, ek, fun p G np sp ep => ?_⟩
      dsimp only at ep
      rw [h2, hb] at ep
      exact hS _ _ sp (da_new s1 eD np ep)
    have c33 : DaAllF false K G33 ys33 (((List.range 5).map (fun _ : Nat => [1, 5])).map llD) := by
      rw [List.map_map]
      exact (d33.same wo_same).same newP_same
    clear d33
    repeat (walk_at "st")
    refine i_lit fun v34 G34 s34 d34 => ?_
    repeat (walk_at "st")
    refine i_new fun p35 G35 n35 s35 e35 => ?_
    repeat (walk_at "st")
    refine i_rRep e35 (by decide) (by decide) (by simp) fun p36 G36 n36 s36 e36 => ?_
    have f36 : DaAllF false K G36 (List.replicate 5 [v34]).flatten (((List.range 5).map (fun _ : Nat => [1, 5])).map llD) := da_rep (d := llD [1, 5]) (((d34.same newP_same).da (d := llD [1, 5])).same (by walk_at "off")) 5
    refine i_neDsame (Da.lst (SqL.of (by walk_at "hg")) (c33.same (by walk_at "off"))) (Da.lst (SqL.of e36) f36) (nd_ll _) (shaped_ll _) ?_
    clear f36 c33
    repeat (walk_at "st")
    refine i_mkV (by rfl) (by decide) fun a37 d37 G37 s37 ea37 ed37 => ?_
    have v37 : EV K A G37 (.ref a37) ([21], [2, 6]) := ⟨_, _, _, rfl, ⟨XI.of1 ea37 ed37, ⟨_, _, _, T.EX_NotRising⟩, T.kr_NotRising⟩, by decide, by decide⟩
    repeat (walk_at "st")
    refine i_mkV (by rfl) (by decide) fun a38 d38 G38 s38 ea38 ed38 => ?_
    have v38 : EV K A G38 (.ref a38) ([22], [2, 6]) := ⟨_, _, _, rfl, ⟨XI.of1 ea38 ed38, ⟨_, _, _, T.EX_NotConsistent⟩, T.kr_NotConsistent⟩, by decide, by decide⟩
    repeat (walk_at "st")
    refine i_mkV (by rfl) (by decide) fun a39 d39 G39 s39 ea39 ed39 => ?_
    have v39 : EV K A G39 (.ref a39) ([23], [2, 6]) := ⟨_, _, _, rfl, ⟨XI.of1 ea39 ed39, ⟨_, _, _, T.EX_NotBelow⟩, T.kr_NotBelow⟩, by decide, by decide⟩
    repeat (walk_at "st")
    refine i_mkV (by rfl) (by decide) fun a40 d40 G40 s40 ea40 ed40 => ?_
    have v40 : EV K A G40 (.ref a40) ([24], [2, 6]) := ⟨_, _, _, rfl, ⟨XI.of1 ea40 ed40, ⟨_, _, _, T.EX_CannotMeet⟩, T.kr_CannotMeet⟩, by decide, by decide⟩
    repeat (walk_at "st")
    refine i_mkV (by rfl) (by decide) fun a41 d41 G41 s41 ea41 ed41 => ?_
    have v41 : EV K A G41 (.ref a41) ([25], [2, 6]) := ⟨_, _, _, rfl, ⟨XI.of1 ea41 ed41, ⟨_, _, _, T.EX_NoStep⟩, T.kr_NoStep⟩, by decide, by decide⟩
    repeat (walk_at "st")
    refine i_mkV (by rfl) (by decide) fun a42 d42 G42 s42 ea42 ed42 => ?_
    have v42 : EV K A G42 (.ref a42) ([26], [2, 6]) := ⟨_, _, _, rfl, ⟨XI.of1 ea42 ed42, ⟨_, _, _, T.EX_MissingNeed⟩, T.kr_MissingNeed⟩, by decide, by decide⟩
    repeat (walk_at "st")
    refine i_new fun p43 G43 n43 s43 e43 => ?_
    repeat (walk_at "st")
    refine i_mkV (by rfl) (by decide) fun a44 d44 G44 s44 ea44 ed44 => ?_
    have v44 : EV K A G44 (.ref a44) ([27], [2, 6]) := ⟨_, _, _, rfl, ⟨XI.of1 ea44 ed44, ⟨_, _, _, T.EX_NotAvailable⟩, T.kr_NotAvailable⟩, by decide, by decide⟩
    repeat (walk_at "st")
    refine i_mkV (by rfl) (by decide) fun a45 d45 G45 s45 ea45 ed45 => ?_
    have v45 : EV K A G45 (.ref a45) ([28], [2, 6]) := ⟨_, _, _, rfl, ⟨XI.of1 ea45 ed45, ⟨_, _, _, T.EX_Pinned⟩, T.kr_Pinned⟩, by decide, by decide⟩
    repeat (walk_at "st")
    refine i_mkV (by rfl) (by decide) fun a46 d46 G46 s46 ea46 ed46 => ?_
    have v46 : EV K A G46 (.ref a46) ([29], [2, 6]) := ⟨_, _, _, rfl, ⟨XI.of1 ea46 ed46, ⟨_, _, _, T.EX_InUse⟩, T.kr_InUse⟩, by decide, by decide⟩
    repeat (walk_at "st")
    refine i_mkV (by rfl) (by decide) fun a47 d47 G47 s47 ea47 ed47 => ?_
    have v47 : EV K A G47 (.ref a47) ([30], [2, 6]) := ⟨_, _, _, rfl, ⟨XI.of1 ea47 ed47, ⟨_, _, _, T.EX_NameTaken⟩, T.kr_NameTaken⟩, by decide, by decide⟩
    repeat (walk_at "st")
    refine i_mkN fun a48 G48 s48 ea48 => ?_
    have v48 : EV K A G48 (.ref a48) ([31], [2, 6]) := ⟨_, _, _, rfl, ⟨XI.of0 ea48, ⟨_, _, _, T.EX_NothingToUndo⟩, T.kr_NothingToUndo⟩, by decide, by decide⟩
    repeat (walk_at "st")
    refine i_new fun p49 G49 n49 s49 e49 => ?_
    repeat (walk_at "st")
    refine i_new fun p50 G50 n50 s50 e50 => ?_
    have eLxR : G50 p50 = some (.lst [.ref a37, .ref a38, .ref a39, .ref a40, .ref a41, .ref a42, .ref a44, .ref a45, .ref a46, .ref a47, .ref a48]) := e50
    clear e50
    have xR : AX K A G50 [.ref a37, .ref a38, .ref a39, .ref a40, .ref a41, .ref a42, .ref a44, .ref a45, .ref a46, .ref a47, .ref a48] [([21], [2, 6]), ([22], [2, 6]), ([23], [2, 6]), ([24], [2, 6]), ([25], [2, 6]), ([26], [2, 6]), ([27], [2, 6]), ([28], [2, 6]), ([29], [2, 6]), ([30], [2, 6]), ([31], [2, 6])] := ⟨by walk_at "ev", by walk_at "ev", by walk_at "ev", by walk_at "ev", by walk_at "ev", by walk_at "ev", by walk_at "ev", by walk_at "ev", by walk_at "ev", by walk_at "ev", by walk_at "ev", trivial⟩
    have exR : G50 p50 = some (.lst [.ref a37, .ref a38, .ref a39, .ref a40, .ref a41, .ref a42, .ref a44, .ref a45, .ref a46, .ref a47, .ref a48]) := by walk_at "hg"
    clear v37 v38 v39 v40 v41 v42 v44 v45 v46 v47 v48
    repeat (walk_at "st")
    refine ⟨⟨_, SqL.of exR⟩, ?_⟩
    refine l_dq (K := K) (b := false) wk_list.q (fun i => llD ((fun _ : Nat => [2, 6]) i)) (by simp only [List.length_cons, List.length_nil, sizeLine_eq]; decide) (fun H' s => SqL.of (s _ _ exR)) (fun i x H' S D zs hi hr s1 nD eD hS => ?_) (fun D51 G51 ys51 n51 s51 e51 d51 => ?_)
    · obtain ⟨r, hr1, ev⟩ := AX.get xR hr
      have hb : r.2 = (fun _ : Nat => [2, 6]) i := by
        have z : ∀ j, j < 11 → ∀ r, ([([21], [2, 6]), ([22], [2, 6]), ([23], [2, 6]), ([24], [2, 6]), ([25], [2, 6]), ([26], [2, 6]), ([27], [2, 6]), ([28], [2, 6]), ([29], [2, 6]), ([30], [2, 6]), ([31], [2, 6])] : List (List Nat × List Nat))[j]? = some r → r.2 = (fun _ : Nat => [2, 6]) j := by
          intro j hj r hr
          have : j < 11 := hj
          match j, this with
          | 0, _ => cases hr; rfl
          | 1, _ => cases hr; rfl
          | 2, _ => cases hr; rfl
          | 3, _ => cases hr; rfl
          | 4, _ => cases hr; rfl
          | 5, _ => cases hr; rfl
          | 6, _ => cases hr; rfl
          | 7, _ => cases hr; rfl
          | 8, _ => cases hr; rfl
          | 9, _ => cases hr; rfl
          | 10, _ => cases hr; rfl
        exact z i hi r hr1
      obtain ⟨e, C, bs, rfl, ek, h1, h2⟩ := ev.same s1
      repeat (walk_at "st")
      refine ⟨_, _, _, rfl, ek, fun p G np sp ep => ?_⟩
      dsimp only at ep
      rw [h2, hb] at ep
      exact hS _ _ sp (da_new s1 eD np ep)
    have c51 : DaAllF false K G51 ys51 (((List.range 11).map (fun _ : Nat => [2, 6])).map llD) := by
      rw [List.map_map]
      exact (d51.same wo_same).same newP_same
    clear d51
    repeat (walk_at "st")
    refine i_lit fun v52 G52 s52 d52 => ?_
    repeat (walk_at "st")
    refine i_new fun p53 G53 n53 s53 e53 => ?_
    repeat (walk_at "st")
    refine i_rRep e53 (by decide) (by decide) (by simp) fun p54 G54 n54 s54 e54 => ?_
    have f54 : DaAllF false K G54 (List.replicate 11 [v52]).flatten (((List.range 11).map (fun _ : Nat => [2, 6])).map llD) := da_rep (d := llD [2, 6]) (((d52.same newP_same).da (d := llD [2, 6])).same (by walk_at "off")) 11
    refine i_neDsame (Da.lst (SqL.of (by walk_at "hg")) (c51.same (by walk_at "off"))) (Da.lst (SqL.of e54) f54) (nd_ll _) (shaped_ll _) ?_
    clear f54 c51
    repeat (walk_at "st")
    refine i_mkV (by rfl) (by decide) fun a55 d55 G55 s55 ea55 ed55 => ?_
    have v55 : EV K A G55 (.ref a55) ([32], [3, 7]) := ⟨_, _, _, rfl, ⟨XI.of1 ea55 ed55, ⟨_, _, _, T.EX_TooMany⟩, T.kr_TooMany⟩, by decide, by decide⟩
    repeat (walk_at "st")
    refine i_mkV (by rfl) (by decide) fun a56 d56 G56 s56 ea56 ed56 => ?_
    have v56 : EV K A G56 (.ref a56) ([33], [3, 7]) := ⟨_, _, _, rfl, ⟨XI.of1 ea56 ed56, ⟨_, _, _, T.EX_NoState⟩, T.kr_NoState⟩, by decide, by decide⟩
    repeat (walk_at "st")
    refine i_mkV (by rfl) (by decide) fun a57 d57 G57 s57 ea57 ed57 => ?_
    have v57 : EV K A G57 (.ref a57) ([34], [3, 7]) := ⟨_, _, _, rfl, ⟨XI.of1 ea57 ed57, ⟨_, _, _, T.EX_Unreachable⟩, T.kr_Unreachable⟩, by decide, by decide⟩
    repeat (walk_at "st")
    refine i_new fun p58 G58 n58 s58 e58 => ?_
    have xT : AX K A G58 [.ref a55, .ref a56, .ref a57] [([32], [3, 7]), ([33], [3, 7]), ([34], [3, 7])] := ⟨by walk_at "ev", by walk_at "ev", by walk_at "ev", trivial⟩
    have exT : G58 p58 = some (.lst [.ref a55, .ref a56, .ref a57]) := by walk_at "hg"
    clear v55 v56 v57
    repeat (walk_at "st")
    refine ⟨⟨_, SqL.of exT⟩, ?_⟩
    refine l_dq (K := K) (b := false) wk_list.q (fun i => llD ((fun _ : Nat => [3, 7]) i)) (by simp only [List.length_cons, List.length_nil, sizeLine_eq]; decide) (fun H' s => SqL.of (s _ _ exT)) (fun i x H' S D zs hi hr s1 nD eD hS => ?_) (fun D59 G59 ys59 n59 s59 e59 d59 => ?_)
    · obtain ⟨r, hr1, ev⟩ := AX.get xT hr
      have hb : r.2 = (fun _ : Nat => [3, 7]) i := by
        have z : ∀ j, j < 3 → ∀ r, ([([32], [3, 7]), ([33], [3, 7]), ([34], [3, 7])] : List (List Nat × List Nat))[j]? = some r → r.2 = (fun _ : Nat => [3, 7]) j := by
          intro j hj r hr
          have : j < 3 := hj
          match j, this with
          | 0, _ => cases hr; rfl
          | 1, _ => cases hr; rfl
          | 2, _ => cases hr; rfl
        exact z i hi r hr1
      obtain ⟨e, C, bs, rfl, ek, h1, h2⟩ := ev.same s1
      repeat (walk_at "st")
      refine ⟨_, _, _, rfl, ek, fun p G np sp ep => ?_⟩
      dsimp only at ep
      rw [h2, hb] at ep
      exact hS _ _ sp (da_new s1 eD np ep)
    have c59 : DaAllF false K G59 ys59 (((List.range 3).map (fun _ : Nat => [3, 7])).map llD) := by
      rw [List.map_map]
      exact (d59.same wo_same).same newP_same
    clear d59
    repeat (walk_at "st")
    refine i_lit fun v60 G60 s60 d60 => ?_
    repeat (walk_at "st")
    refine i_new fun p61 G61 n61 s61 e61 => ?_
    repeat (walk_at "st")
    refine i_rRep e61 (by decide) (by decide) (by simp) fun p62 G62 n62 s62 e62 => ?_
    have f62 : DaAllF false K G62 (List.replicate 3 [v60]).flatten (((List.range 3).map (fun _ : Nat => [3, 7])).map llD) := da_rep (d := llD [3, 7]) (((d60.same newP_same).da (d := llD [3, 7])).same (by walk_at "off")) 3
    refine i_neDsame (Da.lst (SqL.of (by walk_at "hg")) (c59.same (by walk_at "off"))) (Da.lst (SqL.of e62) f62) (nd_ll _) (shaped_ll _) ?_
    clear f62 c59
    repeat (walk_at "st")
    refine i_mkN fun a63 G63 s63 ea63 => ?_
    have v63 : EV K A G63 (.ref a63) ([], [0, 4]) := ⟨_, _, _, rfl, ⟨XI.of0 ea63, ⟨_, _, _, T.EX_GroupError⟩, T.kr_GroupError⟩, by decide, by decide⟩
    repeat (walk_at "st")
    refine i_mkN fun a64 G64 s64 ea64 => ?_
    have v64 : EV K A G64 (.ref a64) ([], [1, 5]) := ⟨_, _, _, rfl, ⟨XI.of0 ea64, ⟨_, _, _, T.EX_Missing⟩, T.kr_Missing⟩, by decide, by decide⟩
    repeat (walk_at "st")
    refine i_mkN fun a65 G65 s65 ea65 => ?_
    have v65 : EV K A G65 (.ref a65) ([], [2, 6]) := ⟨_, _, _, rfl, ⟨XI.of0 ea65, ⟨_, _, _, T.EX_Refused⟩, T.kr_Refused⟩, by decide, by decide⟩
    repeat (walk_at "st")
    refine i_mkN fun a66 G66 s66 ea66 => ?_
    have v66 : EV K A G66 (.ref a66) ([], [3, 7]) := ⟨_, _, _, rfl, ⟨XI.of0 ea66, ⟨_, _, _, T.EX_LimitReached⟩, T.kr_LimitReached⟩, by decide, by decide⟩
    repeat (walk_at "st")
    refine i_new fun p67 G67 n67 s67 e67 => ?_
    have xB : AX K A G67 [.ref a63, .ref a64, .ref a65, .ref a66] [([], [0, 4]), ([], [1, 5]), ([], [2, 6]), ([], [3, 7])] := ⟨by walk_at "ev", by walk_at "ev", by walk_at "ev", by walk_at "ev", trivial⟩
    have exB : G67 p67 = some (.lst [.ref a63, .ref a64, .ref a65, .ref a66]) := by walk_at "hg"
    clear v63 v64 v65 v66
    repeat (walk_at "st")
    refine ⟨⟨_, SqL.of exB⟩, ?_⟩
    refine l_dq (K := K) (b := false) wk_list.q (fun i => llD ((fun i : Nat => [i, i + 4]) i)) (by simp only [List.length_cons, List.length_nil, sizeLine_eq]; decide) (fun H' s => SqL.of (s _ _ exB)) (fun i x H' S D zs hi hr s1 nD eD hS => ?_) (fun D68 G68 ys68 n68 s68 e68 d68 => ?_)
    · obtain ⟨r, hr1, ev⟩ := AX.get xB hr
      have hb : r.2 = (fun i : Nat => [i, i + 4]) i := by
        have z : ∀ j, j < 4 → ∀ r, ([([], [0, 4]), ([], [1, 5]), ([], [2, 6]), ([], [3, 7])] : List (List Nat × List Nat))[j]? = some r → r.2 = (fun i : Nat => [i, i + 4]) j := by
          intro j hj r hr
          have : j < 4 := hj
          match j, this with
          | 0, _ => cases hr; rfl
          | 1, _ => cases hr; rfl
          | 2, _ => cases hr; rfl
          | 3, _ => cases hr; rfl
        exact z i hi r hr1
      obtain ⟨e, C, bs, rfl, ek, h1, h2⟩ := ev.same s1
      repeat (walk_at "st")
      refine ⟨_, _, _, rfl, ek, fun p G np sp ep => ?_⟩
      dsimp only at ep
      rw [h2, hb] at ep
      exact hS _ _ sp (da_new s1 eD np ep)
    have c68 : DaAllF false K G68 ys68 (((List.range 4).map (fun i : Nat => [i, i + 4])).map llD) := by
      rw [List.map_map]
      exact (d68.same wo_same).same newP_same
    clear d68
    repeat (walk_at "st")
    refine l_dq (K := K) (b := false) wk_range.q (fun i => llD ((fun i : Nat => [i, i + 4]) i)) (by rw [rangeV_len, sizeLine_eq]; decide) (fun _ _ => trivial) (fun i x H' S D zs hi hr s1 nD eD hS => ?_) (fun D69 G69 ys69 n69 s69 e69 d69 => ?_)
    · rw [rangeV_len] at hi
      rw [rangeV_get hi] at hr
      cases hr
      repeat (walk_at "st")
      refine i_new fun p1 G1 n1 s1_ e1 => ?_
      exact hS _ _ s1_ (da_new s1 eD n1 (by rw [e1]; simp))
    rw [rangeV_len] at d69
    have c69 : DaAllF false K G69 ys69 (((List.range 4).map (fun i : Nat => [i, i + 4])).map llD) := by
      rw [List.map_map]
      exact (d69.same wo_same).same newP_same
    clear d69
    repeat (walk_at "st")
    refine i_neDsame (Da.lst (SqL.of (by walk_at "hg")) (c68.same (by walk_at "off"))) (Da.lst (SqL.of e69) c69) (nd_ll _) (shaped_ll _) ?_
    clear c68 c69
    repeat (walk_at "st")
    have exB2 : G69 p67 = some (.lst [.ref a63, .ref a64, .ref a65, .ref a66]) := by walk_at "hg"
    have xB2 := xB.same (H' := G69) (by walk_at "off")
    refine ⟨⟨_, SqL.of exB2⟩, ?_⟩
    refine l_dq (K := K) (b := false) wk_list.q (fun i => llD ((fun _ : Nat => ([] : List Nat)) i)) (by simp only [List.length_cons, List.length_nil, sizeLine_eq]; decide) (fun H' s => SqL.of (s _ _ exB2)) (fun i x H' S D zs hi hr s1 nD eD hS => ?_) (fun D70 G70 ys70 n70 s70 e70 d70 => ?_)
    · obtain ⟨r, hr1, ev⟩ := AX.get xB2 hr
      have hb : r.1 = (fun _ : Nat => ([] : List Nat)) i := by
        have z : ∀ j, j < 4 → ∀ r, ([([], [0, 4]), ([], [1, 5]), ([], [2, 6]), ([], [3, 7])] : List (List Nat × List Nat))[j]? = some r → r.1 = (fun _ : Nat => ([] : List Nat)) j := by
          intro j hj r hr
          have : j < 4 := hj
          match j, this with
          | 0, _ => cases hr; rfl
          | 1, _ => cases hr; rfl
          | 2, _ => cases hr; rfl
          | 3, _ => cases hr; rfl
        exact z i hi r hr1
      obtain ⟨e, C, bs, rfl, ek, h1, h2⟩ := ev.same s1
      repeat (walk_at "st")
      refine ⟨_, _, _, rfl, ek, fun p G np sp ep => ?_⟩
      dsimp only at ep
      rw [h1, hb] at ep
      exact hS _ _ sp (da_new s1 eD np ep)
    have c70 : DaAllF false K G70 ys70 (((List.range 4).map (fun _ : Nat => ([] : List Nat))).map llD) := by
      rw [List.map_map]
      exact (d70.same wo_same).same newP_same
    clear d70
    repeat (walk_at "st")
    refine i_new fun p71 G71 n71 s71 e71 => ?_
    repeat (walk_at "st")
    refine i_new fun p72 G72 n72 s72 e72 => ?_
    repeat (walk_at "st")
    refine i_rRep e72 (by decide) (by decide) (by simp) fun p73 G73 n73 s73 e73 => ?_
    have f73 : DaAllF false K G73 (List.replicate 4 [V.ref p71]).flatten (((List.range 4).map (fun _ : Nat => ([] : List Nat))).map llD) := da_rep (d := llD []) (Da.lst (SqL.of (by walk_at "hg")) .nil) 4
    refine i_neDsame (Da.lst (SqL.of (by walk_at "hg")) (c70.same (by walk_at "off"))) (Da.lst (SqL.of e73) f73) (nd_ll _) (shaped_ll _) ?_
    clear f73 c70
    repeat (walk_at "st")
    refine i_new fun p74 G74 n74 s74 e74 => ?_
    repeat (walk_at "st")
    refine i_new fun p75 G75 n75 s75 e75 => ?_
    repeat (walk_at "st")
    refine i_new fun p76 G76 n76 s76 e76 => ?_
    repeat (walk_at "st")
    have xA := (((xM.same (H' := G76) (by walk_at "off")).app (xU.same (H' := G76) (by walk_at "off"))).app (xR.same (H' := G76) (by walk_at "off"))).app (xT.same (H' := G76) (by walk_at "off"))
    refine ⟨⟨_, SqL.of e76⟩, ?_⟩
    refine l_dq (K := K) (b := false) wk_list.q (fun i => llD ((fun i : Nat => [i]) i)) (by simp only [List.length_append, List.length_cons, List.length_nil, sizeLine_eq]; decide) (fun H' s => SqL.of (s _ _ e76)) (fun i x H' S D zs hi hr s1 nD eD hS => ?_) (fun D77 G77 ys77 n77 s77 e77 d77 => ?_)
    · obtain ⟨r, hr1, ev⟩ := AX.get xA hr
      have hb : r.1 = (fun i : Nat => [i]) i := by
        have z : ∀ j, j < 35 → ∀ r, ([([0], [0, 4]), ([1], [0, 4]), ([2], [0, 4]), ([3], [0, 4]), ([4], [0, 4]), ([5], [0, 4]), ([6], [0, 4]), ([7], [0, 4]), ([8], [0, 4]), ([9], [0, 4]), ([10], [0, 4]), ([11], [0, 4]), ([12], [0, 4]), ([13], [0, 4]), ([14], [0, 4]), ([15], [0, 4]), ([16], [1, 5]), ([17], [1, 5]), ([18], [1, 5]), ([19], [1, 5]), ([20], [1, 5]), ([21], [2, 6]), ([22], [2, 6]), ([23], [2, 6]), ([24], [2, 6]), ([25], [2, 6]), ([26], [2, 6]), ([27], [2, 6]), ([28], [2, 6]), ([29], [2, 6]), ([30], [2, 6]), ([31], [2, 6]), ([32], [3, 7]), ([33], [3, 7]), ([34], [3, 7])] : List (List Nat × List Nat))[j]? = some r → r.1 = (fun i : Nat => [i]) j := by
          intro j hj r hr
          have : j < 35 := hj
          match j, this with
          | 0, _ => cases hr; rfl
          | 1, _ => cases hr; rfl
          | 2, _ => cases hr; rfl
          | 3, _ => cases hr; rfl
          | 4, _ => cases hr; rfl
          | 5, _ => cases hr; rfl
          | 6, _ => cases hr; rfl
          | 7, _ => cases hr; rfl
          | 8, _ => cases hr; rfl
          | 9, _ => cases hr; rfl
          | 10, _ => cases hr; rfl
          | 11, _ => cases hr; rfl
          | 12, _ => cases hr; rfl
          | 13, _ => cases hr; rfl
          | 14, _ => cases hr; rfl
          | 15, _ => cases hr; rfl
          | 16, _ => cases hr; rfl
          | 17, _ => cases hr; rfl
          | 18, _ => cases hr; rfl
          | 19, _ => cases hr; rfl
          | 20, _ => cases hr; rfl
          | 21, _ => cases hr; rfl
          | 22, _ => cases hr; rfl
          | 23, _ => cases hr; rfl
          | 24, _ => cases hr; rfl
          | 25, _ => cases hr; rfl
          | 26, _ => cases hr; rfl
          | 27, _ => cases hr; rfl
          | 28, _ => cases hr; rfl
          | 29, _ => cases hr; rfl
          | 30, _ => cases hr; rfl
          | 31, _ => cases hr; rfl
          | 32, _ => cases hr; rfl
          | 33, _ => cases hr; rfl
          | 34, _ => cases hr; rfl
        exact z i hi r hr1
      obtain ⟨e, C, bs, rfl, ek, h1, h2⟩ := ev.same s1
      repeat (walk_at "st")
      refine ⟨_, _, _, rfl, ek, fun p G np sp ep => ?_⟩
      dsimp only at ep
      rw [h1, hb] at ep
      exact hS _ _ sp (da_new s1 eD np ep)
    have c77 : DaAllF false K G77 ys77 (((List.range 35).map (fun i : Nat => [i])).map llD) := by
      rw [List.map_map]
      exact (d77.same wo_same).same newP_same
    clear d77
    repeat (walk_at "st")
    refine l_dq (K := K) (b := false) wk_range.q (fun i => llD ((fun i : Nat => [i]) i)) (by rw [rangeV_len, sizeLine_eq]; decide) (fun _ _ => trivial) (fun i x H' S D zs hi hr s1 nD eD hS => ?_) (fun D78 G78 ys78 n78 s78 e78 d78 => ?_)
    · rw [rangeV_len] at hi
      rw [rangeV_get hi] at hr
      cases hr
      repeat (walk_at "st")
      refine i_new fun p1 G1 n1 s1_ e1 => ?_
      exact hS _ _ s1_ (da_new s1 eD n1 (by rw [e1]; simp))
    rw [rangeV_len] at d78
    have c78 : DaAllF false K G78 ys78 (((List.range 35).map (fun i : Nat => [i])).map llD) := by
      rw [List.map_map]
      exact (d78.same wo_same).same newP_same
    clear d78
    repeat (walk_at "st")
    refine i_eqD (Da.lst (SqL.of (by walk_at "hg")) (c77.same (by walk_at "off"))) (Da.lst (SqL.of e78) c78) (nd_ll _) (nd_ll _) (shaped_ll _) (shaped_ll _) ?_
    rw [SeqAt.eqv_refl _ (shaped_lay (shaped_ll _))]
    exact q _ (sP.trans (by walk_at "off"))
end
end KX

namespace KX
open PySem PySem.Spec PyProof.Rows L2

local macro_rules | `(tactic| walk_at "xi") => `(tactic| first
  | assumption
  | with_reducible exact XI.same (by assumption) (by walk_at "xi")
  | fail)
local macro_rules | `(tactic| walk_at "px") => `(tactic| first
  | assumption
  | with_reducible exact PX.same (by assumption) (by walk_at "px")
  | fail)

local macro_rules | `(tactic| walk_at "kp") => `(tactic| first
  | with_reducible exact Kp.refl
  | with_reducible exact Kp.thenS (by assumption) (by walk_at "kp")
  | with_reducible exact Kp.thenO (by assumption) (by walk_at "ne") (by walk_at "kp")
  | fail)
local macro_rules | `(tactic| walk_at "hq") => `(tactic| first
  | assumption
  | with_reducible exact Kp.get (by assumption) (by walk_at "kp")
  | fail)
local macro_rules | `(tactic| walk_at "hg") => `(tactic| first
  | walk_at "hq"
  | exact upd_same
  | with_reducible exact (upd_ne (by walk_at "ne")).trans (by walk_at "hg")
  | with_reducible exact Same.get (by assumption) (by walk_at "hg")
  | with_reducible exact Off.get (by assumption) (by walk_at "ne") (by walk_at "hg")
  | fail)
local macro_rules | `(tactic| walk_at "ne") => `(tactic| first
  | assumption
  | (apply Ne.symm; assumption)
  | exact Rok.ne' (by assumption) (by walk_at "rok")
  | exact (Rok.ne' (by assumption) (by walk_at "rok")).symm
  | exact ne_some (by assumption) (by walk_at "hg")
  | exact (ne_some (by assumption) (by walk_at "hg")).symm
  | fail)
local macro_rules | `(tactic| walk_at "rok") => `(tactic| first
  | assumption
  | with_reducible exact Rok.kp (by assumption) (by walk_at "kp")
  | with_reducible exact Rok.same (by assumption) (by walk_at "rok")
  | fail)
local macro_rules | `(tactic| walk_at "sq") => `(tactic| first
  | assumption
  | exact Same.seq (by assumption) (by assumption)
  | (with_reducible show SqL _ _ _ _; with_reducible exact SqL.of (by walk_at "hg"))
  | (with_reducible show SqT _ _ _ _; with_reducible exact SqT.of (by walk_at "hg"))
  | fail)
local macro_rules | `(tactic| walk_at "dac") => `(tactic| first
  | assumption
  | exact DaF.same (by assumption) (by walk_at "dac")
  | fail)
local macro_rules | `(tactic| walk_at "da") => `(tactic| first
  | exact (DaF.non : DaS _ _ _ _)
  | exact (DaF.bl _ : DaS _ _ _ _)
  | exact (DaF.int _ : DaS _ _ _ _)
  | exact (DaF.str _ : DaS _ _ _ _)
  | exact DaF.non
  | exact DaF.bl _
  | exact DaF.int _
  | exact DaF.str _
  | walk_at "dac"
  | with_reducible exact DaF.lst (SqL.of (by walk_at "hq")) (fun _ => by assumption) (by walk_at "das")
  | with_reducible exact Da.lst (SqL.of (by walk_at "hq")) (by walk_at "das")
  | with_reducible exact DaF.tup (SqT.of (by walk_at "hq")) (by walk_at "das")
  | with_reducible exact DaF.dic (Rd.of (by walk_at "hq")) (by walk_at "dak")
  | fail)
local macro_rules | `(tactic| walk_at "das") => `(tactic| first
  | assumption
  | exact DaAllF.nil
  | exact DaAllF.cons (by walk_at "da") (by walk_at "das")
  | fail)
local macro_rules | `(tactic| walk_at "dak") => `(tactic| first
  | assumption
  | exact DaKvF.nil
  | exact DaKvF.cons (by walk_at "da") (by walk_at "dak")
  | fail)
local macro_rules | `(tactic| walk_at "shw") => `(tactic| first
  | assumption
  | exact shw_b2 _ _
  | exact ⟨by decide +kernel, by decide +kernel, by decide +kernel⟩
  | fail)
local macro_rules | `(tactic| walk_at "nod") => `(tactic| first
  | exact .inl rfl
  | exact .inr rfl
  | assumption
  | exact .inr (by assumption)
  | fail)
local macro_rules | `(tactic| walk_at "okd") => `(tactic| first
  | assumption
  | exact okd_of (by decide +kernel)
  | fail)
local macro_rules | `(tactic| walk_at "off") => `(tactic| first
  | assumption
  | exact Off.refl _ _
  | exact Same.refl _
  | with_reducible exact Same.thenS (by assumption) (by walk_at "off")
  | with_reducible exact Off.thenS (by assumption) (by walk_at "off")
  | with_reducible exact Off.thenO (by assumption) (by walk_at "off")
  | with_reducible exact Same.thenF (by assumption) (by assumption) (by walk_at "off") (by walk_at "off")
  | with_reducible exact Off.thenF (by assumption) (by assumption) (by walk_at "off") (by walk_at "off")
  | fail)
local macro_rules | `(tactic| walk_at "side") => `(tactic| first
  | assumption
  | omega
  | decide
  | (simp only [List.length_append, List.length_cons, List.length_nil]; decide)
  | exact ⟨by omega, by omega⟩
  | exact ⟨by omega, PyProof.noPylong_of_log2 (by first | assumption | decide)⟩
  | exact .inl ⟨by omega, by omega⟩
  | exact .inr ⟨by omega, by omega⟩
  | exact ⟨by decide, by decide, by decide⟩
  | exact ⟨by decide, by decide, by omega⟩
  | fail)
local macro_rules | `(tactic| walk_at "st") => `(tactic| first
  | with_reducible refine i_seq ?_
  | with_reducible refine i_bi ?_
  | with_reducible refine i_raise ?_
  | with_reducible refine i_callX ?_
  | with_reducible refine i_tryN ?_
  | with_reducible refine i_isNon ?_
  | with_reducible refine i_isNotNon ?_
  | ((with_reducible refine' i_split ?h ?z ?_); (case h => rfl); (case z => walk_at "side"))
  | with_reducible refine i_find ?_
  | ((with_reducible refine i_strI ?h ?_); (case h => walk_at "side"))
  | with_reducible refine i_fmt ?_
  | ((with_reducible refine i_fmS ?h ?_); (case h => walk_at "side"))
  | ((with_reducible refine i_fmI ?h ?_); (case h => walk_at "side"))
  | with_reducible refine i_jn ?_
  | with_reducible refine i_js0 ?_
  | with_reducible refine i_js1 ?_
  | ((with_reducible refine i_jsR ?h ?_); (case h => walk_at "side"))
  | with_reducible refine i_revS ?_
  | ((with_reducible refine i_exrev ?h ?_); (case h => walk_at "side"))
  | with_reducible refine i_revL ?_
  | ((with_reducible refine' i_exrevL ?h ?_); (case h => walk_at "sq"))
  | with_reducible refine i_par3 ?_
  | with_reducible refine i_ex3 ?_
  | with_reducible refine i_stB ?_
  | with_reducible refine i_mk0 ?_
  | with_reducible refine i_asg ?_
  | with_reducible refine i_c ?_
  | ((with_reducible refine' i_var ?h ?_); (case h => rfl))
  | with_reducible refine i_op ?_
  | with_reducible refine i_cons ?_
  | with_reducible refine i_nil ?_
  | ((with_reducible refine' i_gName ?h ?_); (case h => rfl))
  | with_reducible refine i_rI0 ?_
  | ((with_reducible refine i_rI ?h ?_); (case h => walk_at "side"))
  | with_reducible refine i_test ?_
  | with_reducible refine i_exbl ?_
  | with_reducible refine i_exint ?_
  | with_reducible refine i_exs ?_
  | with_reducible refine i_ret ?_
  | with_reducible refine i_next ?_
  | with_reducible refine i_ifS ?_
  | ((with_reducible refine' i_rIxL ?h ?e ?_); (case h => walk_at "sq"); (case e => first | assumption | rfl))
  | ((with_reducible refine' i_rIxT ?h ?e ?_); (case h => walk_at "sq"); (case e => first | assumption | rfl))
  | ((with_reducible refine' i_rIxS ?h ?e ?_); (case h => walk_at "side"); (case e => first | assumption | rfl))
  | with_reducible refine i_un ?_
  | with_reducible refine i_rU ?_
  | ((with_reducible refine i_rEqSame ?h ?_); (case h => rfl))
  | ((with_reducible refine i_rNeSame ?h ?_); (case h => rfl))
  | ((with_reducible refine i_rEq ?h ?_); (case h => rfl))
  | ((with_reducible refine i_rNe ?h ?_); (case h => rfl))
  | with_reducible refine i_tB ?_
  | with_reducible refine i_and ?_
  | with_reducible refine i_or ?_
  | with_reducible refine i_not ?_
  | with_reducible refine i_andV ?_
  | with_reducible refine i_orV ?_
  | with_reducible refine i_notV ?_
  | with_reducible refine i_if ?_
  | with_reducible refine i_chain ?_
  | with_reducible refine i_drop ?_
  | with_reducible refine i_retN ?_
  | with_reducible refine i_par ?_
  | with_reducible refine i_ex2 ?_
  | ((with_reducible refine' i_aug ?h ?_); (case h => rfl))
  | with_reducible refine i_gNil ?_
  | with_reducible refine i_gCons ?_
  | ((with_reducible refine' i_gTup ?h ?e ?_); (case h => walk_at "sq"); (case e => rfl))
  | with_reducible refine i_gSub ?_
  | ((with_reducible refine' i_rSetL ?h ?e ?_); (case h => walk_at "hg"); (case e => first | assumption | rfl))
  | with_reducible refine i_tup ?_
  | with_reducible refine i_lst ?_
  | with_reducible refine i_lstN ?_
  | with_reducible refine i_newDK ?_
  | with_reducible refine i_disp ?_
  | with_reducible refine i_pairs0 ?_
  | with_reducible refine i_pairs1 ?_
  | with_reducible refine i_call ?_
  | with_reducible refine i_mkV0 ?_
  | with_reducible refine i_mkW0 ?_
  | with_reducible refine i_mkX0 ?_
  | with_reducible refine i_mkY0 ?_
  | with_reducible refine i_xv0 ?_
  | with_reducible refine i_mk00 ?_
  | ((with_reducible refine' i_mkX ?h ?f ?l ?_); (case h => rfl); (case f => decide); (case l => rfl); intro _ _)
  | ((with_reducible refine' i_xvQ ?T ?n ?a ?d ?l ?_); (case a => walk_at "hg"); (case d => walk_at "hg"); (case T => assumption); (case n => assumption); (case l => rfl))
  | ((with_reducible refine' i_isVr ?T ?G ?h ?k ?_); (case h => walk_at "xi"); (case T => assumption); (case G => assumption); (case k => assumption))
  | ((with_reducible refine' i_isVt ?T ?G ?h ?k ?_); (case h => walk_at "xi"); (case T => assumption); (case G => assumption); (case k => assumption))
  | ((with_reducible refine' i_gLst ?h ?e ?_); (case h => walk_at "sq"); (case e => rfl))
  | ((with_reducible refine' i_rCatN ?h ?e ?z ?_); (case h => walk_at "hg"); (case e => walk_at "hg"); (case z => walk_at "side"))
  | ((with_reducible refine' i_rRepN ?h ?e ?z ?_); (case h => walk_at "hg"); (case e => decide); (case z => walk_at "side"))
  | with_reducible refine i_cb ?_
  | with_reducible refine i_bm ?_
  | with_reducible refine i_m1 ?_
  | with_reducible refine i_m0 ?_
  | ((with_reducible refine' i_rAppend ?h ?e ?_); (case h => walk_at "hg"); (case e => walk_at "side"))
  | ((with_reducible refine i_rSlS ?h ?_); (case h => walk_at "side"))
  | ((with_reducible refine' i_rSlL ?h ?_); (case h => walk_at "sq"))
  | with_reducible refine i_sl ?_
  | with_reducible refine i_noPart ?_
  | with_reducible refine i_part ?_
  | with_reducible refine i_rng1 ?_
  | with_reducible refine i_iList ?_
  | with_reducible refine i_iStr ?_
  | with_reducible refine i_iEnum ?_
  | with_reducible refine i_iZip ?_
  | with_reducible refine i_ez ?_
  | ((with_reducible refine' i_exen ?h ?_); (case h => walk_at "sq"))
  | ((with_reducible refine' i_exz ?h ?k ?_); (case h => walk_at "sq"); (case k => walk_at "sq"))
  | ((with_reducible refine' i_listN ?h ?_); (case h => walk_at "sq"))
  | with_reducible refine i_intB ?_
  | ((with_reducible refine' i_tyL ?h ?_); (case h => walk_at "sq"))
  | with_reducible refine i_isBl ?_
  | ((with_reducible refine i_callW ?_))
  | ((with_reducible refine i_exrng ?h1 ?h2 ?_); (case h1 => walk_at "side"); (case h2 => walk_at "side"))
  | ((with_reducible refine' i_exl ?h ?_); (case h => walk_at "sq"))
  | with_reducible refine i_for ?_
  | with_reducible refine i_lc ?_
  | with_reducible refine i_yes ?_
  | with_reducible refine i_iteT ?_
  | with_reducible refine i_iteF ?_
  | ((with_reducible refine i_divmod ?h ?_); (case h => walk_at "side"))
  | ((with_reducible refine' i_isi ?h ?e ?_); (case h => walk_at "da"); (case e => decide))
  | ((with_reducible refine i_lenS ?h ?_); (case h => walk_at "side"))
  | ((with_reducible refine' i_lenL ?h ?_); (case h => walk_at "sq"))
  | ((with_reducible refine' i_lenT ?h ?_); (case h => walk_at "sq"))
  | ((with_reducible refine' i_repr ?h ?n ?e ?_); (case h => walk_at "da"); (case n => walk_at "nod"); (case e => walk_at "shw"))
  | ((with_reducible refine' i_rCat ?h ?e ?z ?_); (case h => walk_at "hg"); (case e => walk_at "hg"); (case z => walk_at "side"))
  | ((with_reducible refine i_rCatS ?h ?_); (case h => walk_at "side"))
  | with_reducible refine i_exstr ?_
  | ((with_reducible refine' i_join ?h ?z ?_); (case h => walk_at "sq"); (case z => walk_at "side"))
  | with_reducible refine i_abs ?_
  | with_reducible refine i_max ?_
  | with_reducible refine i_min ?_
  | ((with_reducible refine' i_rAll ?h ?_); (case h => walk_at "sq"))
  | ((with_reducible refine' i_lcEl ?h ?e ?_); (case h => walk_at "hg"); (case e => walk_at "side"))
  | with_reducible refine ⟨_, _, rfl, rfl, ?_⟩
  | with_reducible refine ⟨_, _, rfl, ?_⟩
  | with_reducible refine ⟨_, rfl, ?_⟩
  | with_reducible refine And.intro rfl ?_
  | ((with_reducible refine And.intro ?h ?_); (case h => walk_at "side"))
  | fail)

section
variable {P : Program} {w : World} {K : PySem.W.Frag} {mg : Str → Option Value} {base : Heap} {A : Ad}
theorem rangeV_item {lo : Int} {n i : Nat} {x : V} (h : (rangeV lo n)[i]? = some x) : ∃ k : Int, x = .int (lo + k) ∧ 0 ≤ k ∧ k < n := by
  have hi : i < n := by
    have := (List.getElem?_eq_some_iff.mp h).1
    rwa [rangeV_len] at this
  rw [rangeV_get hi] at h
  cases h
  exact ⟨i, rfl, by omega, by omega⟩
def sp_law (K : PySem.W.Frag) : Sp := fun vs H Q _ => ∃ (s : Addr) (ns : List Int), vs = [.ref s] ∧ SqL K H s (ns.map V.int) ∧ ns.length ≤ 63 ∧ ∀ H', Q (.bl true) H'
theorem ok_law (T : Txt K mg A) : Fg P w K mg base CX0 4 A.f_law A.d_law ["_law_script"] (sp_law K) := by
  have G_l_draw := ok_l_draw (P := P) (w := w) (base := base) T
  have G_l_rng := ok_l_rng (P := P) (w := w) (base := base) T
  have G_l_choice := ok_l_choice T G_l_draw
  have G_l_odd := ok_l_odd T G_l_choice
  have G_l_single := ok_l_single (P := P) (w := w) (base := base) T
  have G_l_single_named := ok_l_single_named (P := P) (w := w) (base := base) T
  have G_l_pairs := ok_l_pairs (P := P) (w := w) (base := base) T
  have G_l_double_right := ok_l_double_right T G_l_pairs
  have G_l_first_classes := ok_l_first_classes (P := P) (w := w) (base := base) T
  have G_l_classes := ok_l_classes T G_l_first_classes
  have G_l_bases := ok_l_bases (P := P) (w := w) (base := base) T
  have G_l_hierarchy_right := ok_l_hierarchy_right T G_l_classes G_l_bases
  refine ok_g T.F_law sc_law (fun vs H Q E h => ?_) (fun cdv Ar outer s H vs Q E hr h => ?_)
  · obtain ⟨_, _, rfl, _⟩ := h; rfl
  · obtain ⟨sc, ns, rfl, hS, hl, q⟩ := h
    refine ⟨_, (pss_cons (ps_for PassesOwn.never rfl (pi_range1 rfl T.m_range (pa_cons (pe_callB (call_max2 rfl) (by rfl) T.m_max (by decide +kernel) (pa_cons pe_int (pa_cons (pe_callB (call_min2 rfl) (by rfl) T.m_min (by decide +kernel) (pa_cons (pe_callB call_lenN (by rfl) T.m_len (by decide +kernel) (pa_cons (pv 0) pa_nil)) (pa_cons pe_int pa_nil))) pa_nil))) pa_nil)) (pg_name (i := 1) sc_law.nd rfl (.inl rfl))
(pss_cons (ps_set (i := 2) sc_law.nd rfl (.inl rfl) (pe_call G_l_rng (hr.mono (by decide)) (by rfl) T.g_l_rng T.F_l_rng.kp T.b_l_rng .nil pass0 (pa_cons (pv 0) (pa_cons (pv 1) pa_nil))))
(pss_cons (ps_par (i := 3) (j := 4) rfl sc_law.nd rfl rfl (by decide) rfl rfl (pa_cons (pe_call G_l_odd (hr.mono (by decide)) (by rfl) T.g_l_odd T.F_l_odd.kp T.b_l_odd .nil pass0 (pa_cons (pv 2) pa_nil)) (pa_cons (pe_call G_l_odd (hr.mono (by decide)) (by rfl) T.g_l_odd T.F_l_odd.kp T.b_l_odd .nil pass0 (pa_cons (pv 2) pa_nil)) pa_nil)) (by rfl))
(pss_cons (ps_set (i := 5) sc_law.nd rfl (.inl rfl) (pe_callB (call_reprN (hr.mono (by decide))) (by rfl) T.m_repr (by decide +kernel) (pa_cons (pe_op op_repN (pe_lstN (pa_cons (pv 3) pa_nil)) pe_int) pa_nil)))
(pss_cons (ps_if (PW.pt (pw_or (pt_cmpR op_ne (pe_callB (call_reprN (hr.mono (by decide))) (by rfl) T.m_repr (by decide +kernel) (pa_cons (pe_call G_l_single (hr.mono (by decide)) (by rfl) T.g_l_single T.F_l_single.kp T.b_l_single .nil pass0 (pa_cons (pv 3) pa_nil)) pa_nil)) (pv 5) (nomark _)) (pw_or1 (pt_cmpR op_ne (pe_callB (call_reprN (hr.mono (by decide))) (by rfl) T.m_repr (by decide +kernel) (pa_cons (pe_call G_l_single_named (hr.mono (by decide)) (by rfl) T.g_l_single_named T.F_l_single_named.kp T.b_l_single_named .nil pass0 (pa_cons (pv 3) pa_nil)) pa_nil)) (pv 5) (nomark _)))))
(pss_one (ps_ret pe_bl))
pss_nil)
(pss_one (ps_if (PW.pt (pw_or (pt_not (pt_val (pe_call G_l_double_right (hr.mono (by decide)) (by rfl) T.g_l_double_right T.F_l_double_right.kp T.b_l_double_right .nil pass0 (pa_cons (pv 3) (pa_cons (pv 4) pa_nil))))) (pw_or1 (pt_not (pt_val (pe_call G_l_hierarchy_right (hr.mono (by decide)) (by rfl) T.g_l_hierarchy_right T.F_l_hierarchy_right.kp T.b_l_hierarchy_right .nil pass0 (pa_cons (pv 3) (pa_cons (pv 4) pa_nil))))))))
(pss_one (ps_ret pe_bl))
pss_nil)))))))
(pss_one (ps_ret pe_bl))), ?_⟩
    have hz : ns.length ≤ sizeLine := Nat.le_trans hl (by decide)
    repeat (walk_at "st")
    refine f_wk wk_range (fun i σ H' => Same H H' ∧ ∃ y1 y2 y3 y4 y5, σ = [some (.ref sc), y1, y2, y3, y4, y5]) ⟨Same.refl _, _, _, _, _, _, rfl⟩ (fun _ _ _ _ => trivial) (fun i x σ H' hx h => ?_) (fun σ H' h => ?_)
    · obtain ⟨sH, y1, y2, y3, y4, y5, rfl⟩ := h
      obtain ⟨k, rfl, hk⟩ := rangeV_item hx
      repeat (walk_at "st")
      refine ⟨_, _, _, rfl, sH.seq hS, by omega, by (revert hk; split <;> split <;> omega), hl, fun p G1 n1 r1 s1 => ?_⟩
      repeat (walk_at "st")
      refine ⟨_, rfl, r1, fun a da G2 ha oa r2 o2 => ?_⟩
      repeat (walk_at "st")
      refine ⟨_, rfl, r2, fun b db G3 hb ob r3 o3 => ?_⟩
      repeat (walk_at "st")
      have ha3 : DaS K G3 a da := (ha.same o3.wo).same wo_same
      have hb3 : DaS K G3 b db := hb.same wo_same
      refine i_newN fun p4 G4 n4 z4 s4 e4 => ?_
      repeat (walk_at "st")
      refine i_newN fun p5 G5 n5 z5 s5 e5 => ?_
      have sh : Shw (.list (List.replicate 23 da)) := (Sh.lst (n := 1000) (k := 10) fun d hd => by
        obtain ⟨_, rfl⟩ := List.mem_replicate.mp hd
        exact oa.ok).shw (by simp) (by decide)
      have da5 : DaS K G5 (.ref p5) (.list (List.replicate 23 da)) := DaF.lst (SqL.of e5) (fun _ => z5) (da_rep ((ha3.same s4).same s5) 23)
      repeat (walk_at "st")
      refine ⟨_, rfl, fun p6 G6 z6 s6 e6 => ?_⟩
      have da6 : DaS K G6 (.ref p6) (.list (List.replicate 23 da)) := DaF.lst (SqL.of e6) (fun _ => z6) (by
        have := da_same (b := true) (K := K) (H := G6) (d := da) (ts := List.replicate 23 a) fun t ht => by
          obtain ⟨_, rfl⟩ := List.mem_replicate.mp ht
          exact (ha3.same (s4.trans (s5.trans s6)))
        rwa [List.length_replicate] at this)
      repeat (walk_at "st")
      refine ⟨_, rfl, fun p7 G7 z7 s7 e7 => ?_⟩
      have da7 : DaS K G7 (.ref p7) (.list (List.replicate 23 da)) := DaF.lst (SqL.of e7) (fun _ => z7) (by
        have := da_same (b := true) (K := K) (H := G7) (d := da) (ts := List.replicate 23 a) fun t ht => by
          obtain ⟨_, rfl⟩ := List.mem_replicate.mp ht
          exact (ha3.same (s4.trans (s5.trans (s6.trans s7))))
        rwa [List.length_replicate] at this)
      repeat (walk_at "st")
      have t7 : Same G3 G7 := s4.trans (s5.trans (s6.trans s7))
      refine ⟨_, _, _, _, rfl, ha3.same t7, hb3.same t7, oa, ob, fun G8 s8 => ?_⟩
      repeat (walk_at "st")
      refine i_ff (by rfl) ?_
      repeat (walk_at "st")
      refine ⟨_, _, rfl, fun G9 s9 => ?_⟩
      repeat (walk_at "st")
      refine i_ff (by rfl) ?_
      repeat (walk_at "st")
      exact ⟨sH.trans ((Off.new n1 s1 (o2.trans o3)).trans (t7.trans (s8.trans s9))), _, _, _, _, _, rfl⟩
    · obtain ⟨sH, y1, y2, y3, y4, y5, rfl⟩ := h
      repeat (walk_at "st")
      exact q _
theorem sp_law_of {K : PySem.W.Frag} {H : Hp} {a : Addr} {ns : List Int} (hl : ns.length ≤ 63) (_ : ∀ z ∈ ns, Builtin.Int.intBits z ≤ 1048576) (hS : SqL K H a (ns.map V.int)) : sp_law K [.ref a] H (fun v _ => v = .bl true) fun _ _ _ => False := ⟨a, ns, rfl, hS, hl, fun _ => rfl⟩
theorem bi_InvalidNamex_initx {K : PySem.W.Frag} {f : Addr} {fd : FuncData} (F : Fun K "__init__" "InvalidName.__init__" s_InvalidNamex_initx f fd) : Binds K fd ["self", "value"] [] := F.binds (ps := ["self", "value"]) fun _ _ _ _ _ _ us hl => match us, hl with | [_, _], _ => rfl
theorem bi_InvalidVersionx_initx {K : PySem.W.Frag} {f : Addr} {fd : FuncData} (F : Fun K "__init__" "InvalidVersion.__init__" s_InvalidVersionx_initx f fd) : Binds K fd ["self", "value"] [] := F.binds (ps := ["self", "value"]) fun _ _ _ _ _ _ us hl => match us, hl with | [_, _], _ => rfl
theorem bi_InvalidWindowx_initx {K : PySem.W.Frag} {f : Addr} {fd : FuncData} (F : Fun K "__init__" "InvalidWindow.__init__" s_InvalidWindowx_initx f fd) : Binds K fd ["self", "value"] [] := F.binds (ps := ["self", "value"]) fun _ _ _ _ _ _ us hl => match us, hl with | [_, _], _ => rfl
theorem bi_InvalidWindowsx_initx {K : PySem.W.Frag} {f : Addr} {fd : FuncData} (F : Fun K "__init__" "InvalidWindows.__init__" s_InvalidWindowsx_initx f fd) : Binds K fd ["self", "position"] [] := F.binds (ps := ["self", "position"]) fun _ _ _ _ _ _ us hl => match us, hl with | [_, _], _ => rfl
theorem bi_InvalidUsesx_initx {K : PySem.W.Frag} {f : Addr} {fd : FuncData} (F : Fun K "__init__" "InvalidUses.__init__" s_InvalidUsesx_initx f fd) : Binds K fd ["self", "module"] [] := F.binds (ps := ["self", "module"]) fun _ _ _ _ _ _ us hl => match us, hl with | [_, _], _ => rfl
theorem bi_InvalidRowsx_initx {K : PySem.W.Frag} {f : Addr} {fd : FuncData} (F : Fun K "__init__" "InvalidRows.__init__" s_InvalidRowsx_initx f fd) : Binds K fd ["self", "position"] [] := F.binds (ps := ["self", "position"]) fun _ _ _ _ _ _ us hl => match us, hl with | [_, _], _ => rfl
theorem bi_InvalidStatex_initx {K : PySem.W.Frag} {f : Addr} {fd : FuncData} (F : Fun K "__init__" "InvalidState.__init__" s_InvalidStatex_initx f fd) : Binds K fd ["self", "module"] [] := F.binds (ps := ["self", "module"]) fun _ _ _ _ _ _ us hl => match us, hl with | [_, _], _ => rfl
theorem bi_InvalidDemandx_initx {K : PySem.W.Frag} {f : Addr} {fd : FuncData} (F : Fun K "__init__" "InvalidDemand.__init__" s_InvalidDemandx_initx f fd) : Binds K fd ["self", "value"] [] := F.binds (ps := ["self", "value"]) fun _ _ _ _ _ _ us hl => match us, hl with | [_, _], _ => rfl
theorem bi_InvalidGoalsx_initx {K : PySem.W.Frag} {f : Addr} {fd : FuncData} (F : Fun K "__init__" "InvalidGoals.__init__" s_InvalidGoalsx_initx f fd) : Binds K fd ["self", "position"] [] := F.binds (ps := ["self", "position"]) fun _ _ _ _ _ _ us hl => match us, hl with | [_, _], _ => rfl
theorem bi_InvalidStepx_initx {K : PySem.W.Frag} {f : Addr} {fd : FuncData} (F : Fun K "__init__" "InvalidStep.__init__" s_InvalidStepx_initx f fd) : Binds K fd ["self", "value"] [] := F.binds (ps := ["self", "value"]) fun _ _ _ _ _ _ us hl => match us, hl with | [_, _], _ => rfl
theorem bi_InvalidStepsx_initx {K : PySem.W.Frag} {f : Addr} {fd : FuncData} (F : Fun K "__init__" "InvalidSteps.__init__" s_InvalidStepsx_initx f fd) : Binds K fd ["self", "position"] [] := F.binds (ps := ["self", "position"]) fun _ _ _ _ _ _ us hl => match us, hl with | [_, _], _ => rfl
theorem bi_InvalidCountx_initx {K : PySem.W.Frag} {f : Addr} {fd : FuncData} (F : Fun K "__init__" "InvalidCount.__init__" s_InvalidCountx_initx f fd) : Binds K fd ["self", "value"] [] := F.binds (ps := ["self", "value"]) fun _ _ _ _ _ _ us hl => match us, hl with | [_, _], _ => rfl
theorem bi_InvalidTextx_initx {K : PySem.W.Frag} {f : Addr} {fd : FuncData} (F : Fun K "__init__" "InvalidText.__init__" s_InvalidTextx_initx f fd) : Binds K fd ["self", "line"] [] := F.binds (ps := ["self", "line"]) fun _ _ _ _ _ _ us hl => match us, hl with | [_, _], _ => rfl
theorem bi_InvalidEntryx_initx {K : PySem.W.Frag} {f : Addr} {fd : FuncData} (F : Fun K "__init__" "InvalidEntry.__init__" s_InvalidEntryx_initx f fd) : Binds K fd ["self", "value"] [] := F.binds (ps := ["self", "value"]) fun _ _ _ _ _ _ us hl => match us, hl with | [_, _], _ => rfl
theorem bi_UnknownModulex_initx {K : PySem.W.Frag} {f : Addr} {fd : FuncData} (F : Fun K "__init__" "UnknownModule.__init__" s_UnknownModulex_initx f fd) : Binds K fd ["self", "value"] [] := F.binds (ps := ["self", "value"]) fun _ _ _ _ _ _ us hl => match us, hl with | [_, _], _ => rfl
theorem bi_UnknownUsex_initx {K : PySem.W.Frag} {f : Addr} {fd : FuncData} (F : Fun K "__init__" "UnknownUse.__init__" s_UnknownUsex_initx f fd) : Binds K fd ["self", "user", "used"] [] := F.binds (ps := ["self", "user", "used"]) fun _ _ _ _ _ _ us hl => match us, hl with | [_, _, _], _ => rfl
theorem bi_UnknownVersionx_initx {K : PySem.W.Frag} {f : Addr} {fd : FuncData} (F : Fun K "__init__" "UnknownVersion.__init__" s_UnknownVersionx_initx f fd) : Binds K fd ["self", "module", "version"] [] := F.binds (ps := ["self", "module", "version"]) fun _ _ _ _ _ _ us hl => match us, hl with | [_, _, _], _ => rfl
theorem bi_UnknownOperatorx_initx {K : PySem.W.Frag} {f : Addr} {fd : FuncData} (F : Fun K "__init__" "UnknownOperator.__init__" s_UnknownOperatorx_initx f fd) : Binds K fd ["self", "value"] [] := F.binds (ps := ["self", "value"]) fun _ _ _ _ _ _ us hl => match us, hl with | [_, _], _ => rfl
theorem bi_UnknownSessionx_initx {K : PySem.W.Frag} {f : Addr} {fd : FuncData} (F : Fun K "__init__" "UnknownSession.__init__" s_UnknownSessionx_initx f fd) : Binds K fd ["self", "value"] [] := F.binds (ps := ["self", "value"]) fun _ _ _ _ _ _ us hl => match us, hl with | [_, _], _ => rfl
theorem bi_NotRisingx_initx {K : PySem.W.Frag} {f : Addr} {fd : FuncData} (F : Fun K "__init__" "NotRising.__init__" s_NotRisingx_initx f fd) : Binds K fd ["self", "user", "used"] [] := F.binds (ps := ["self", "user", "used"]) fun _ _ _ _ _ _ us hl => match us, hl with | [_, _, _], _ => rfl
theorem bi_NotConsistentx_initx {K : PySem.W.Frag} {f : Addr} {fd : FuncData} (F : Fun K "__init__" "NotConsistent.__init__" s_NotConsistentx_initx f fd) : Binds K fd ["self", "user", "used"] [] := F.binds (ps := ["self", "user", "used"]) fun _ _ _ _ _ _ us hl => match us, hl with | [_, _, _], _ => rfl
theorem bi_NotBelowx_initx {K : PySem.W.Frag} {f : Addr} {fd : FuncData} (F : Fun K "__init__" "NotBelow.__init__" s_NotBelowx_initx f fd) : Binds K fd ["self", "module"] [] := F.binds (ps := ["self", "module"]) fun _ _ _ _ _ _ us hl => match us, hl with | [_, _], _ => rfl
theorem bi_CannotMeetx_initx {K : PySem.W.Frag} {f : Addr} {fd : FuncData} (F : Fun K "__init__" "CannotMeet.__init__" s_CannotMeetx_initx f fd) : Binds K fd ["self", "module", "version"] [] := F.binds (ps := ["self", "module", "version"]) fun _ _ _ _ _ _ us hl => match us, hl with | [_, _, _], _ => rfl
theorem bi_NoStepx_initx {K : PySem.W.Frag} {f : Addr} {fd : FuncData} (F : Fun K "__init__" "NoStep.__init__" s_NoStepx_initx f fd) : Binds K fd ["self", "module", "version"] [] := F.binds (ps := ["self", "module", "version"]) fun _ _ _ _ _ _ us hl => match us, hl with | [_, _, _], _ => rfl
theorem bi_MissingNeedx_initx {K : PySem.W.Frag} {f : Addr} {fd : FuncData} (F : Fun K "__init__" "MissingNeed.__init__" s_MissingNeedx_initx f fd) : Binds K fd ["self", "step"] [] := F.binds (ps := ["self", "step"]) fun _ _ _ _ _ _ us hl => match us, hl with | [_, _], _ => rfl
theorem bi_NotAvailablex_initx {K : PySem.W.Frag} {f : Addr} {fd : FuncData} (F : Fun K "__init__" "NotAvailable.__init__" s_NotAvailablex_initx f fd) : Binds K fd ["self", "step"] [] := F.binds (ps := ["self", "step"]) fun _ _ _ _ _ _ us hl => match us, hl with | [_, _], _ => rfl
theorem bi_Pinnedx_initx {K : PySem.W.Frag} {f : Addr} {fd : FuncData} (F : Fun K "__init__" "Pinned.__init__" s_Pinnedx_initx f fd) : Binds K fd ["self", "module", "version"] [] := F.binds (ps := ["self", "module", "version"]) fun _ _ _ _ _ _ us hl => match us, hl with | [_, _, _], _ => rfl
theorem bi_InUsex_initx {K : PySem.W.Frag} {f : Addr} {fd : FuncData} (F : Fun K "__init__" "InUse.__init__" s_InUsex_initx f fd) : Binds K fd ["self", "module", "version"] [] := F.binds (ps := ["self", "module", "version"]) fun _ _ _ _ _ _ us hl => match us, hl with | [_, _, _], _ => rfl
theorem bi_NameTakenx_initx {K : PySem.W.Frag} {f : Addr} {fd : FuncData} (F : Fun K "__init__" "NameTaken.__init__" s_NameTakenx_initx f fd) : Binds K fd ["self", "value"] [] := F.binds (ps := ["self", "value"]) fun _ _ _ _ _ _ us hl => match us, hl with | [_, _], _ => rfl
theorem bi_TooManyx_initx {K : PySem.W.Frag} {f : Addr} {fd : FuncData} (F : Fun K "__init__" "TooMany.__init__" s_TooManyx_initx f fd) : Binds K fd ["self", "kind", "limit"] [] := F.binds (ps := ["self", "kind", "limit"]) fun _ _ _ _ _ _ us hl => match us, hl with | [_, _, _], _ => rfl
theorem bi_NoStatex_initx {K : PySem.W.Frag} {f : Addr} {fd : FuncData} (F : Fun K "__init__" "NoState.__init__" s_NoStatex_initx f fd) : Binds K fd ["self", "chain"] [] := F.binds (ps := ["self", "chain"]) fun _ _ _ _ _ _ us hl => match us, hl with | [_, _], _ => rfl
theorem bi_Unreachablex_initx {K : PySem.W.Frag} {f : Addr} {fd : FuncData} (F : Fun K "__init__" "Unreachable.__init__" s_Unreachablex_initx f fd) : Binds K fd ["self", "chain"] [] := F.binds (ps := ["self", "chain"]) fun _ _ _ _ _ _ us hl => match us, hl with | [_, _], _ => rfl
theorem bi_l_rng {K : PySem.W.Frag} {f : Addr} {fd : FuncData} (F : Fun K "_law_rng" "_law_rng" s_l_rng f fd) : Binds K fd ["_law_script", "_law_k"] [] := F.binds (ps := ["_law_script", "_law_k"]) fun _ _ _ _ _ _ us hl => match us, hl with | [_, _], _ => rfl
theorem bi_l_draw {K : PySem.W.Frag} {f : Addr} {fd : FuncData} (F : Fun K "_law_draw" "_law_draw" s_l_draw f fd) : Binds K fd ["_law_rng_here", "_law_many"] [] := F.binds (ps := ["_law_rng_here", "_law_many"]) fun _ _ _ _ _ _ us hl => match us, hl with | [_, _], _ => rfl
theorem bi_l_choice {K : PySem.W.Frag} {f : Addr} {fd : FuncData} (F : Fun K "_law_choice" "_law_choice" s_l_choice f fd) : Binds K fd ["_law_rng_here", "_law_options"] [] := F.binds (ps := ["_law_rng_here", "_law_options"]) fun _ _ _ _ _ _ us hl => match us, hl with | [_, _], _ => rfl
theorem bi_l_odd {K : PySem.W.Frag} {f : Addr} {fd : FuncData} (F : Fun K "_law_odd" "_law_odd" s_l_odd f fd) : Binds K fd ["_law_rng_here"] [] := F.binds (ps := ["_law_rng_here"]) fun _ _ _ _ _ _ us hl => match us, hl with | [_], _ => rfl
theorem bi_l_first_classes {K : PySem.W.Frag} {f : Addr} {fd : FuncData} (F : Fun K "_law_first_classes" "_law_first_classes" s_l_first_classes f fd) : Binds K fd ["_law_e"] [] := F.binds (ps := ["_law_e"]) fun _ _ _ _ _ _ us hl => match us, hl with | [_], _ => rfl
theorem bi_l_classes {K : PySem.W.Frag} {f : Addr} {fd : FuncData} (F : Fun K "_law_classes" "_law_classes" s_l_classes f fd) : Binds K fd ["_law_e"] [] := F.binds (ps := ["_law_e"]) fun _ _ _ _ _ _ us hl => match us, hl with | [_], _ => rfl
theorem bi_l_bases {K : PySem.W.Frag} {f : Addr} {fd : FuncData} (F : Fun K "_law_bases" "_law_bases" s_l_bases f fd) : Binds K fd ["_law_e"] [] := F.binds (ps := ["_law_e"]) fun _ _ _ _ _ _ us hl => match us, hl with | [_], _ => rfl
theorem bi_l_hierarchy_right {K : PySem.W.Frag} {f : Addr} {fd : FuncData} (F : Fun K "_law_hierarchy_right" "_law_hierarchy_right" s_l_hierarchy_right f fd) : Binds K fd ["_law_a", "_law_b"] [] := F.binds (ps := ["_law_a", "_law_b"]) fun _ _ _ _ _ _ us hl => match us, hl with | [_, _], _ => rfl
theorem bi_l_single {K : PySem.W.Frag} {f : Addr} {fd : FuncData} (F : Fun K "_law_single" "_law_single" s_l_single f fd) : Binds K fd ["_law_a"] [] := F.binds (ps := ["_law_a"]) fun _ _ _ _ _ _ us hl => match us, hl with | [_], _ => rfl
theorem bi_l_single_named {K : PySem.W.Frag} {f : Addr} {fd : FuncData} (F : Fun K "_law_single_named" "_law_single_named" s_l_single_named f fd) : Binds K fd ["_law_a"] [] := F.binds (ps := ["_law_a"]) fun _ _ _ _ _ _ us hl => match us, hl with | [_], _ => rfl
theorem bi_l_pairs {K : PySem.W.Frag} {f : Addr} {fd : FuncData} (F : Fun K "_law_pairs" "_law_pairs" s_l_pairs f fd) : Binds K fd ["_law_made"] [] := F.binds (ps := ["_law_made"]) fun _ _ _ _ _ _ us hl => match us, hl with | [_], _ => rfl
theorem bi_l_double_right {K : PySem.W.Frag} {f : Addr} {fd : FuncData} (F : Fun K "_law_double_right" "_law_double_right" s_l_double_right f fd) : Binds K fd ["_law_a", "_law_b"] [] := F.binds (ps := ["_law_a", "_law_b"]) fun _ _ _ _ _ _ us hl => match us, hl with | [_, _], _ => rfl
theorem bi_law {K : PySem.W.Frag} {f : Addr} {fd : FuncData} (F : Fun K "law" "law" s_law f fd) : Binds K fd ["_law_script"] [] := F.binds (ps := ["_law_script"]) fun _ _ _ _ _ _ us hl => match us, hl with | [_], _ => rfl
theorem kbil_CannotMeetx_initx_version_module {K : PySem.W.Frag} {f : Addr} {fd : FuncData} (F : Fun K "__init__" "CannotMeet.__init__" s_CannotMeetx_initx f fd) : KBI K fd ["self", "module", "version"] ["version", "module"] [1, 0] := F.kbi (ps := ["self", "module", "version"]) (ks := ["version", "module"]) (pm := [1, 0]) fun _ _ _ _ _ _ _ us hl => match us, hl with | [_, _], _ => rfl
theorem kbil_InUsex_initx_version_module {K : PySem.W.Frag} {f : Addr} {fd : FuncData} (F : Fun K "__init__" "InUse.__init__" s_InUsex_initx f fd) : KBI K fd ["self", "module", "version"] ["version", "module"] [1, 0] := F.kbi (ps := ["self", "module", "version"]) (ks := ["version", "module"]) (pm := [1, 0]) fun _ _ _ _ _ _ _ us hl => match us, hl with | [_, _], _ => rfl
theorem kbil_InvalidCountx_initx_value {K : PySem.W.Frag} {f : Addr} {fd : FuncData} (F : Fun K "__init__" "InvalidCount.__init__" s_InvalidCountx_initx f fd) : KBI K fd ["self", "value"] ["value"] [0] := F.kbi (ps := ["self", "value"]) (ks := ["value"]) (pm := [0]) fun _ _ _ _ _ _ _ us hl => match us, hl with | [_], _ => rfl
theorem kbil_InvalidDemandx_initx_value {K : PySem.W.Frag} {f : Addr} {fd : FuncData} (F : Fun K "__init__" "InvalidDemand.__init__" s_InvalidDemandx_initx f fd) : KBI K fd ["self", "value"] ["value"] [0] := F.kbi (ps := ["self", "value"]) (ks := ["value"]) (pm := [0]) fun _ _ _ _ _ _ _ us hl => match us, hl with | [_], _ => rfl
theorem kbil_InvalidEntryx_initx_value {K : PySem.W.Frag} {f : Addr} {fd : FuncData} (F : Fun K "__init__" "InvalidEntry.__init__" s_InvalidEntryx_initx f fd) : KBI K fd ["self", "value"] ["value"] [0] := F.kbi (ps := ["self", "value"]) (ks := ["value"]) (pm := [0]) fun _ _ _ _ _ _ _ us hl => match us, hl with | [_], _ => rfl
theorem kbil_InvalidGoalsx_initx_position {K : PySem.W.Frag} {f : Addr} {fd : FuncData} (F : Fun K "__init__" "InvalidGoals.__init__" s_InvalidGoalsx_initx f fd) : KBI K fd ["self", "position"] ["position"] [0] := F.kbi (ps := ["self", "position"]) (ks := ["position"]) (pm := [0]) fun _ _ _ _ _ _ _ us hl => match us, hl with | [_], _ => rfl
theorem kbil_InvalidNamex_initx_value {K : PySem.W.Frag} {f : Addr} {fd : FuncData} (F : Fun K "__init__" "InvalidName.__init__" s_InvalidNamex_initx f fd) : KBI K fd ["self", "value"] ["value"] [0] := F.kbi (ps := ["self", "value"]) (ks := ["value"]) (pm := [0]) fun _ _ _ _ _ _ _ us hl => match us, hl with | [_], _ => rfl
theorem kbil_InvalidRowsx_initx_position {K : PySem.W.Frag} {f : Addr} {fd : FuncData} (F : Fun K "__init__" "InvalidRows.__init__" s_InvalidRowsx_initx f fd) : KBI K fd ["self", "position"] ["position"] [0] := F.kbi (ps := ["self", "position"]) (ks := ["position"]) (pm := [0]) fun _ _ _ _ _ _ _ us hl => match us, hl with | [_], _ => rfl
theorem kbil_InvalidStatex_initx_module {K : PySem.W.Frag} {f : Addr} {fd : FuncData} (F : Fun K "__init__" "InvalidState.__init__" s_InvalidStatex_initx f fd) : KBI K fd ["self", "module"] ["module"] [0] := F.kbi (ps := ["self", "module"]) (ks := ["module"]) (pm := [0]) fun _ _ _ _ _ _ _ us hl => match us, hl with | [_], _ => rfl
theorem kbil_InvalidStepsx_initx_position {K : PySem.W.Frag} {f : Addr} {fd : FuncData} (F : Fun K "__init__" "InvalidSteps.__init__" s_InvalidStepsx_initx f fd) : KBI K fd ["self", "position"] ["position"] [0] := F.kbi (ps := ["self", "position"]) (ks := ["position"]) (pm := [0]) fun _ _ _ _ _ _ _ us hl => match us, hl with | [_], _ => rfl
theorem kbil_InvalidStepx_initx_value {K : PySem.W.Frag} {f : Addr} {fd : FuncData} (F : Fun K "__init__" "InvalidStep.__init__" s_InvalidStepx_initx f fd) : KBI K fd ["self", "value"] ["value"] [0] := F.kbi (ps := ["self", "value"]) (ks := ["value"]) (pm := [0]) fun _ _ _ _ _ _ _ us hl => match us, hl with | [_], _ => rfl
theorem kbil_InvalidTextx_initx_line {K : PySem.W.Frag} {f : Addr} {fd : FuncData} (F : Fun K "__init__" "InvalidText.__init__" s_InvalidTextx_initx f fd) : KBI K fd ["self", "line"] ["line"] [0] := F.kbi (ps := ["self", "line"]) (ks := ["line"]) (pm := [0]) fun _ _ _ _ _ _ _ us hl => match us, hl with | [_], _ => rfl
theorem kbil_InvalidUsesx_initx_module {K : PySem.W.Frag} {f : Addr} {fd : FuncData} (F : Fun K "__init__" "InvalidUses.__init__" s_InvalidUsesx_initx f fd) : KBI K fd ["self", "module"] ["module"] [0] := F.kbi (ps := ["self", "module"]) (ks := ["module"]) (pm := [0]) fun _ _ _ _ _ _ _ us hl => match us, hl with | [_], _ => rfl
theorem kbil_InvalidVersionx_initx_value {K : PySem.W.Frag} {f : Addr} {fd : FuncData} (F : Fun K "__init__" "InvalidVersion.__init__" s_InvalidVersionx_initx f fd) : KBI K fd ["self", "value"] ["value"] [0] := F.kbi (ps := ["self", "value"]) (ks := ["value"]) (pm := [0]) fun _ _ _ _ _ _ _ us hl => match us, hl with | [_], _ => rfl
theorem kbil_InvalidWindowsx_initx_position {K : PySem.W.Frag} {f : Addr} {fd : FuncData} (F : Fun K "__init__" "InvalidWindows.__init__" s_InvalidWindowsx_initx f fd) : KBI K fd ["self", "position"] ["position"] [0] := F.kbi (ps := ["self", "position"]) (ks := ["position"]) (pm := [0]) fun _ _ _ _ _ _ _ us hl => match us, hl with | [_], _ => rfl
theorem kbil_InvalidWindowx_initx_value {K : PySem.W.Frag} {f : Addr} {fd : FuncData} (F : Fun K "__init__" "InvalidWindow.__init__" s_InvalidWindowx_initx f fd) : KBI K fd ["self", "value"] ["value"] [0] := F.kbi (ps := ["self", "value"]) (ks := ["value"]) (pm := [0]) fun _ _ _ _ _ _ _ us hl => match us, hl with | [_], _ => rfl
theorem kbil_MissingNeedx_initx_step {K : PySem.W.Frag} {f : Addr} {fd : FuncData} (F : Fun K "__init__" "MissingNeed.__init__" s_MissingNeedx_initx f fd) : KBI K fd ["self", "step"] ["step"] [0] := F.kbi (ps := ["self", "step"]) (ks := ["step"]) (pm := [0]) fun _ _ _ _ _ _ _ us hl => match us, hl with | [_], _ => rfl
theorem kbil_NameTakenx_initx_value {K : PySem.W.Frag} {f : Addr} {fd : FuncData} (F : Fun K "__init__" "NameTaken.__init__" s_NameTakenx_initx f fd) : KBI K fd ["self", "value"] ["value"] [0] := F.kbi (ps := ["self", "value"]) (ks := ["value"]) (pm := [0]) fun _ _ _ _ _ _ _ us hl => match us, hl with | [_], _ => rfl
theorem kbil_NoStatex_initx_chain {K : PySem.W.Frag} {f : Addr} {fd : FuncData} (F : Fun K "__init__" "NoState.__init__" s_NoStatex_initx f fd) : KBI K fd ["self", "chain"] ["chain"] [0] := F.kbi (ps := ["self", "chain"]) (ks := ["chain"]) (pm := [0]) fun _ _ _ _ _ _ _ us hl => match us, hl with | [_], _ => rfl
theorem kbil_NoStepx_initx_version_module {K : PySem.W.Frag} {f : Addr} {fd : FuncData} (F : Fun K "__init__" "NoStep.__init__" s_NoStepx_initx f fd) : KBI K fd ["self", "module", "version"] ["version", "module"] [1, 0] := F.kbi (ps := ["self", "module", "version"]) (ks := ["version", "module"]) (pm := [1, 0]) fun _ _ _ _ _ _ _ us hl => match us, hl with | [_, _], _ => rfl
theorem kbil_NotAvailablex_initx_step {K : PySem.W.Frag} {f : Addr} {fd : FuncData} (F : Fun K "__init__" "NotAvailable.__init__" s_NotAvailablex_initx f fd) : KBI K fd ["self", "step"] ["step"] [0] := F.kbi (ps := ["self", "step"]) (ks := ["step"]) (pm := [0]) fun _ _ _ _ _ _ _ us hl => match us, hl with | [_], _ => rfl
theorem kbil_NotBelowx_initx_module {K : PySem.W.Frag} {f : Addr} {fd : FuncData} (F : Fun K "__init__" "NotBelow.__init__" s_NotBelowx_initx f fd) : KBI K fd ["self", "module"] ["module"] [0] := F.kbi (ps := ["self", "module"]) (ks := ["module"]) (pm := [0]) fun _ _ _ _ _ _ _ us hl => match us, hl with | [_], _ => rfl
theorem kbil_NotConsistentx_initx_used_user {K : PySem.W.Frag} {f : Addr} {fd : FuncData} (F : Fun K "__init__" "NotConsistent.__init__" s_NotConsistentx_initx f fd) : KBI K fd ["self", "user", "used"] ["used", "user"] [1, 0] := F.kbi (ps := ["self", "user", "used"]) (ks := ["used", "user"]) (pm := [1, 0]) fun _ _ _ _ _ _ _ us hl => match us, hl with | [_, _], _ => rfl
theorem kbil_NotRisingx_initx_used_user {K : PySem.W.Frag} {f : Addr} {fd : FuncData} (F : Fun K "__init__" "NotRising.__init__" s_NotRisingx_initx f fd) : KBI K fd ["self", "user", "used"] ["used", "user"] [1, 0] := F.kbi (ps := ["self", "user", "used"]) (ks := ["used", "user"]) (pm := [1, 0]) fun _ _ _ _ _ _ _ us hl => match us, hl with | [_, _], _ => rfl
theorem kbil_Pinnedx_initx_version_module {K : PySem.W.Frag} {f : Addr} {fd : FuncData} (F : Fun K "__init__" "Pinned.__init__" s_Pinnedx_initx f fd) : KBI K fd ["self", "module", "version"] ["version", "module"] [1, 0] := F.kbi (ps := ["self", "module", "version"]) (ks := ["version", "module"]) (pm := [1, 0]) fun _ _ _ _ _ _ _ us hl => match us, hl with | [_, _], _ => rfl
theorem kbil_TooManyx_initx_limit_kind {K : PySem.W.Frag} {f : Addr} {fd : FuncData} (F : Fun K "__init__" "TooMany.__init__" s_TooManyx_initx f fd) : KBI K fd ["self", "kind", "limit"] ["limit", "kind"] [1, 0] := F.kbi (ps := ["self", "kind", "limit"]) (ks := ["limit", "kind"]) (pm := [1, 0]) fun _ _ _ _ _ _ _ us hl => match us, hl with | [_, _], _ => rfl
theorem kbil_UnknownModulex_initx_value {K : PySem.W.Frag} {f : Addr} {fd : FuncData} (F : Fun K "__init__" "UnknownModule.__init__" s_UnknownModulex_initx f fd) : KBI K fd ["self", "value"] ["value"] [0] := F.kbi (ps := ["self", "value"]) (ks := ["value"]) (pm := [0]) fun _ _ _ _ _ _ _ us hl => match us, hl with | [_], _ => rfl
theorem kbil_UnknownOperatorx_initx_value {K : PySem.W.Frag} {f : Addr} {fd : FuncData} (F : Fun K "__init__" "UnknownOperator.__init__" s_UnknownOperatorx_initx f fd) : KBI K fd ["self", "value"] ["value"] [0] := F.kbi (ps := ["self", "value"]) (ks := ["value"]) (pm := [0]) fun _ _ _ _ _ _ _ us hl => match us, hl with | [_], _ => rfl
theorem kbil_UnknownSessionx_initx_value {K : PySem.W.Frag} {f : Addr} {fd : FuncData} (F : Fun K "__init__" "UnknownSession.__init__" s_UnknownSessionx_initx f fd) : KBI K fd ["self", "value"] ["value"] [0] := F.kbi (ps := ["self", "value"]) (ks := ["value"]) (pm := [0]) fun _ _ _ _ _ _ _ us hl => match us, hl with | [_], _ => rfl
theorem kbil_UnknownUsex_initx_used_user {K : PySem.W.Frag} {f : Addr} {fd : FuncData} (F : Fun K "__init__" "UnknownUse.__init__" s_UnknownUsex_initx f fd) : KBI K fd ["self", "user", "used"] ["used", "user"] [1, 0] := F.kbi (ps := ["self", "user", "used"]) (ks := ["used", "user"]) (pm := [1, 0]) fun _ _ _ _ _ _ _ us hl => match us, hl with | [_, _], _ => rfl
theorem kbil_UnknownVersionx_initx_version_module {K : PySem.W.Frag} {f : Addr} {fd : FuncData} (F : Fun K "__init__" "UnknownVersion.__init__" s_UnknownVersionx_initx f fd) : KBI K fd ["self", "module", "version"] ["version", "module"] [1, 0] := F.kbi (ps := ["self", "module", "version"]) (ks := ["version", "module"]) (pm := [1, 0]) fun _ _ _ _ _ _ _ us hl => match us, hl with | [_, _], _ => rfl
theorem kbil_Unreachablex_initx_chain {K : PySem.W.Frag} {f : Addr} {fd : FuncData} (F : Fun K "__init__" "Unreachable.__init__" s_Unreachablex_initx f fd) : KBI K fd ["self", "chain"] ["chain"] [0] := F.kbi (ps := ["self", "chain"]) (ks := ["chain"]) (pm := [0]) fun _ _ _ _ _ _ _ us hl => match us, hl with | [_], _ => rfl
theorem facts {l : PySem.W.OpenLaw} {w : World} {K : PySem.W.Frag} {h : Heap} {mg : Str → Option Value} {fa : Addr} (G : h.Ns mainGlobals mg) (hfa : mg "law" = some (.ref fa)) (c : SaysH faL fnL tbL K h) : LawT l w K CX0 4 63 "_law_script" mg fa h := by
  have X := c.inK
  have e := hfa.symm.trans (glo_of X G (c.at_ (f := gloB "law" (fun K => He.fAd K ("law", none))) 44))
  cases e
  have D0 := c.def_ 0 (st := s_InvalidNamex_initx) (p := ("InvalidName", some "__init__")) (x := "__init__") (q := "InvalidName.__init__")
  have D1 := c.def_ 1 (st := s_InvalidVersionx_initx) (p := ("InvalidVersion", some "__init__")) (x := "__init__") (q := "InvalidVersion.__init__")
  have D2 := c.def_ 2 (st := s_InvalidWindowx_initx) (p := ("InvalidWindow", some "__init__")) (x := "__init__") (q := "InvalidWindow.__init__")
  have D3 := c.def_ 3 (st := s_InvalidWindowsx_initx) (p := ("InvalidWindows", some "__init__")) (x := "__init__") (q := "InvalidWindows.__init__")
  have D4 := c.def_ 4 (st := s_InvalidUsesx_initx) (p := ("InvalidUses", some "__init__")) (x := "__init__") (q := "InvalidUses.__init__")
  have D5 := c.def_ 5 (st := s_InvalidRowsx_initx) (p := ("InvalidRows", some "__init__")) (x := "__init__") (q := "InvalidRows.__init__")
  have D6 := c.def_ 6 (st := s_InvalidStatex_initx) (p := ("InvalidState", some "__init__")) (x := "__init__") (q := "InvalidState.__init__")
  have D7 := c.def_ 7 (st := s_InvalidDemandx_initx) (p := ("InvalidDemand", some "__init__")) (x := "__init__") (q := "InvalidDemand.__init__")
  have D8 := c.def_ 8 (st := s_InvalidGoalsx_initx) (p := ("InvalidGoals", some "__init__")) (x := "__init__") (q := "InvalidGoals.__init__")
  have D9 := c.def_ 9 (st := s_InvalidStepx_initx) (p := ("InvalidStep", some "__init__")) (x := "__init__") (q := "InvalidStep.__init__")
  have D10 := c.def_ 10 (st := s_InvalidStepsx_initx) (p := ("InvalidSteps", some "__init__")) (x := "__init__") (q := "InvalidSteps.__init__")
  have D11 := c.def_ 11 (st := s_InvalidCountx_initx) (p := ("InvalidCount", some "__init__")) (x := "__init__") (q := "InvalidCount.__init__")
  have D12 := c.def_ 12 (st := s_InvalidTextx_initx) (p := ("InvalidText", some "__init__")) (x := "__init__") (q := "InvalidText.__init__")
  have D13 := c.def_ 13 (st := s_InvalidEntryx_initx) (p := ("InvalidEntry", some "__init__")) (x := "__init__") (q := "InvalidEntry.__init__")
  have D14 := c.def_ 14 (st := s_UnknownModulex_initx) (p := ("UnknownModule", some "__init__")) (x := "__init__") (q := "UnknownModule.__init__")
  have D15 := c.def_ 15 (st := s_UnknownUsex_initx) (p := ("UnknownUse", some "__init__")) (x := "__init__") (q := "UnknownUse.__init__")
  have D16 := c.def_ 16 (st := s_UnknownVersionx_initx) (p := ("UnknownVersion", some "__init__")) (x := "__init__") (q := "UnknownVersion.__init__")
  have D17 := c.def_ 17 (st := s_UnknownOperatorx_initx) (p := ("UnknownOperator", some "__init__")) (x := "__init__") (q := "UnknownOperator.__init__")
  have D18 := c.def_ 18 (st := s_UnknownSessionx_initx) (p := ("UnknownSession", some "__init__")) (x := "__init__") (q := "UnknownSession.__init__")
  have D19 := c.def_ 19 (st := s_NotRisingx_initx) (p := ("NotRising", some "__init__")) (x := "__init__") (q := "NotRising.__init__")
  have D20 := c.def_ 20 (st := s_NotConsistentx_initx) (p := ("NotConsistent", some "__init__")) (x := "__init__") (q := "NotConsistent.__init__")
  have D21 := c.def_ 21 (st := s_NotBelowx_initx) (p := ("NotBelow", some "__init__")) (x := "__init__") (q := "NotBelow.__init__")
  have D22 := c.def_ 22 (st := s_CannotMeetx_initx) (p := ("CannotMeet", some "__init__")) (x := "__init__") (q := "CannotMeet.__init__")
  have D23 := c.def_ 23 (st := s_NoStepx_initx) (p := ("NoStep", some "__init__")) (x := "__init__") (q := "NoStep.__init__")
  have D24 := c.def_ 24 (st := s_MissingNeedx_initx) (p := ("MissingNeed", some "__init__")) (x := "__init__") (q := "MissingNeed.__init__")
  have D25 := c.def_ 25 (st := s_NotAvailablex_initx) (p := ("NotAvailable", some "__init__")) (x := "__init__") (q := "NotAvailable.__init__")
  have D26 := c.def_ 26 (st := s_Pinnedx_initx) (p := ("Pinned", some "__init__")) (x := "__init__") (q := "Pinned.__init__")
  have D27 := c.def_ 27 (st := s_InUsex_initx) (p := ("InUse", some "__init__")) (x := "__init__") (q := "InUse.__init__")
  have D28 := c.def_ 28 (st := s_NameTakenx_initx) (p := ("NameTaken", some "__init__")) (x := "__init__") (q := "NameTaken.__init__")
  have D29 := c.def_ 29 (st := s_TooManyx_initx) (p := ("TooMany", some "__init__")) (x := "__init__") (q := "TooMany.__init__")
  have D30 := c.def_ 30 (st := s_NoStatex_initx) (p := ("NoState", some "__init__")) (x := "__init__") (q := "NoState.__init__")
  have D31 := c.def_ 31 (st := s_Unreachablex_initx) (p := ("Unreachable", some "__init__")) (x := "__init__") (q := "Unreachable.__init__")
  have D32 := c.def_ 32 (st := s_l_rng) (p := ("_law_rng", none)) (x := "_law_rng") (q := "_law_rng")
  have D33 := c.def_ 33 (st := s_l_draw) (p := ("_law_draw", none)) (x := "_law_draw") (q := "_law_draw")
  have D34 := c.def_ 34 (st := s_l_choice) (p := ("_law_choice", none)) (x := "_law_choice") (q := "_law_choice")
  have D35 := c.def_ 35 (st := s_l_odd) (p := ("_law_odd", none)) (x := "_law_odd") (q := "_law_odd")
  have D36 := c.def_ 36 (st := s_l_first_classes) (p := ("_law_first_classes", none)) (x := "_law_first_classes") (q := "_law_first_classes")
  have D37 := c.def_ 37 (st := s_l_classes) (p := ("_law_classes", none)) (x := "_law_classes") (q := "_law_classes")
  have D38 := c.def_ 38 (st := s_l_bases) (p := ("_law_bases", none)) (x := "_law_bases") (q := "_law_bases")
  have D39 := c.def_ 39 (st := s_l_hierarchy_right) (p := ("_law_hierarchy_right", none)) (x := "_law_hierarchy_right") (q := "_law_hierarchy_right")
  have D40 := c.def_ 40 (st := s_l_single) (p := ("_law_single", none)) (x := "_law_single") (q := "_law_single")
  have D41 := c.def_ 41 (st := s_l_single_named) (p := ("_law_single_named", none)) (x := "_law_single_named") (q := "_law_single_named")
  have D42 := c.def_ 42 (st := s_l_pairs) (p := ("_law_pairs", none)) (x := "_law_pairs") (q := "_law_pairs")
  have D43 := c.def_ 43 (st := s_l_double_right) (p := ("_law_double_right", none)) (x := "_law_double_right") (q := "_law_double_right")
  have D44 := c.def_ 44 (st := s_law) (p := ("law", none)) (x := "law") (q := "law")
  have T : Txt K mg ⟨He.fAd K ("InvalidName", some "__init__"), D0.fd, He.fAd K ("InvalidVersion", some "__init__"), D1.fd, He.fAd K ("InvalidWindow", some "__init__"), D2.fd, He.fAd K ("InvalidWindows", some "__init__"), D3.fd, He.fAd K ("InvalidUses", some "__init__"), D4.fd, He.fAd K ("InvalidRows", some "__init__"), D5.fd, He.fAd K ("InvalidState", some "__init__"), D6.fd, He.fAd K ("InvalidDemand", some "__init__"), D7.fd, He.fAd K ("InvalidGoals", some "__init__"), D8.fd, He.fAd K ("InvalidStep", some "__init__"), D9.fd, He.fAd K ("InvalidSteps", some "__init__"), D10.fd, He.fAd K ("InvalidCount", some "__init__"), D11.fd, He.fAd K ("InvalidText", some "__init__"), D12.fd, He.fAd K ("InvalidEntry", some "__init__"), D13.fd, He.fAd K ("UnknownModule", some "__init__"), D14.fd, He.fAd K ("UnknownUse", some "__init__"), D15.fd, He.fAd K ("UnknownVersion", some "__init__"), D16.fd, He.fAd K ("UnknownOperator", some "__init__"), D17.fd, He.fAd K ("UnknownSession", some "__init__"), D18.fd, He.fAd K ("NotRising", some "__init__"), D19.fd, He.fAd K ("NotConsistent", some "__init__"), D20.fd, He.fAd K ("NotBelow", some "__init__"), D21.fd, He.fAd K ("CannotMeet", some "__init__"), D22.fd, He.fAd K ("NoStep", some "__init__"), D23.fd, He.fAd K ("MissingNeed", some "__init__"), D24.fd, He.fAd K ("NotAvailable", some "__init__"), D25.fd, He.fAd K ("Pinned", some "__init__"), D26.fd, He.fAd K ("InUse", some "__init__"), D27.fd, He.fAd K ("NameTaken", some "__init__"), D28.fd, He.fAd K ("TooMany", some "__init__"), D29.fd, He.fAd K ("NoState", some "__init__"), D30.fd, He.fAd K ("Unreachable", some "__init__"), D31.fd, He.fAd K ("_law_rng", none), D32.fd, He.fAd K ("_law_draw", none), D33.fd, He.fAd K ("_law_choice", none), D34.fd, He.fAd K ("_law_odd", none), D35.fd, He.fAd K ("_law_first_classes", none), D36.fd, He.fAd K ("_law_classes", none), D37.fd, He.fAd K ("_law_bases", none), D38.fd, He.fAd K ("_law_hierarchy_right", none), D39.fd, He.fAd K ("_law_single", none), D40.fd, He.fAd K ("_law_single_named", none), D41.fd, He.fAd K ("_law_pairs", none), D42.fd, He.fAd K ("_law_double_right", none), D43.fd, He.fAd K ("law", none), D44.fd, He.ga K "GroupError", He.ga K "InvalidName", He.ga K "InvalidVersion", He.ga K "InvalidWindow", He.ga K "InvalidWindows", He.ga K "InvalidUses", He.ga K "InvalidRows", He.ga K "InvalidState", He.ga K "InvalidDemand", He.ga K "InvalidGoals", He.ga K "InvalidStep", He.ga K "InvalidSteps", He.ga K "InvalidChange", He.ga K "InvalidCount", He.ga K "InvalidText", He.ga K "InvalidEntry", He.ga K "InvalidCommand", He.ga K "Missing", He.ga K "UnknownModule", He.ga K "UnknownUse", He.ga K "UnknownVersion", He.ga K "UnknownOperator", He.ga K "UnknownSession", He.ga K "Refused", He.ga K "NotRising", He.ga K "NotConsistent", He.ga K "NotBelow", He.ga K "CannotMeet", He.ga K "NoStep", He.ga K "MissingNeed", He.ga K "NotAvailable", He.ga K "Pinned", He.ga K "InUse", He.ga K "NameTaken", He.ga K "NothingToUndo", He.ga K "LimitReached", He.ga K "TooMany", He.ga K "NoState", He.ga K "Unreachable"⟩ := {
    F_InvalidNamex_initx := D0.F,
    b_InvalidNamex_initx := bi_InvalidNamex_initx D0.F,
    F_InvalidVersionx_initx := D1.F,
    b_InvalidVersionx_initx := bi_InvalidVersionx_initx D1.F,
    F_InvalidWindowx_initx := D2.F,
    b_InvalidWindowx_initx := bi_InvalidWindowx_initx D2.F,
    F_InvalidWindowsx_initx := D3.F,
    b_InvalidWindowsx_initx := bi_InvalidWindowsx_initx D3.F,
    F_InvalidUsesx_initx := D4.F,
    b_InvalidUsesx_initx := bi_InvalidUsesx_initx D4.F,
    F_InvalidRowsx_initx := D5.F,
    b_InvalidRowsx_initx := bi_InvalidRowsx_initx D5.F,
    F_InvalidStatex_initx := D6.F,
    b_InvalidStatex_initx := bi_InvalidStatex_initx D6.F,
    F_InvalidDemandx_initx := D7.F,
    b_InvalidDemandx_initx := bi_InvalidDemandx_initx D7.F,
    F_InvalidGoalsx_initx := D8.F,
    b_InvalidGoalsx_initx := bi_InvalidGoalsx_initx D8.F,
    F_InvalidStepx_initx := D9.F,
    b_InvalidStepx_initx := bi_InvalidStepx_initx D9.F,
    F_InvalidStepsx_initx := D10.F,
    b_InvalidStepsx_initx := bi_InvalidStepsx_initx D10.F,
    F_InvalidCountx_initx := D11.F,
    b_InvalidCountx_initx := bi_InvalidCountx_initx D11.F,
    F_InvalidTextx_initx := D12.F,
    b_InvalidTextx_initx := bi_InvalidTextx_initx D12.F,
    F_InvalidEntryx_initx := D13.F,
    b_InvalidEntryx_initx := bi_InvalidEntryx_initx D13.F,
    F_UnknownModulex_initx := D14.F,
    b_UnknownModulex_initx := bi_UnknownModulex_initx D14.F,
    F_UnknownUsex_initx := D15.F,
    b_UnknownUsex_initx := bi_UnknownUsex_initx D15.F,
    F_UnknownVersionx_initx := D16.F,
    b_UnknownVersionx_initx := bi_UnknownVersionx_initx D16.F,
    F_UnknownOperatorx_initx := D17.F,
    b_UnknownOperatorx_initx := bi_UnknownOperatorx_initx D17.F,
    F_UnknownSessionx_initx := D18.F,
    b_UnknownSessionx_initx := bi_UnknownSessionx_initx D18.F,
    F_NotRisingx_initx := D19.F,
    b_NotRisingx_initx := bi_NotRisingx_initx D19.F,
    F_NotConsistentx_initx := D20.F,
    b_NotConsistentx_initx := bi_NotConsistentx_initx D20.F,
    F_NotBelowx_initx := D21.F,
    b_NotBelowx_initx := bi_NotBelowx_initx D21.F,
    F_CannotMeetx_initx := D22.F,
    b_CannotMeetx_initx := bi_CannotMeetx_initx D22.F,
    F_NoStepx_initx := D23.F,
    b_NoStepx_initx := bi_NoStepx_initx D23.F,
    F_MissingNeedx_initx := D24.F,
    b_MissingNeedx_initx := bi_MissingNeedx_initx D24.F,
    F_NotAvailablex_initx := D25.F,
    b_NotAvailablex_initx := bi_NotAvailablex_initx D25.F,
    F_Pinnedx_initx := D26.F,
    b_Pinnedx_initx := bi_Pinnedx_initx D26.F,
    F_InUsex_initx := D27.F,
    b_InUsex_initx := bi_InUsex_initx D27.F,
    F_NameTakenx_initx := D28.F,
    b_NameTakenx_initx := bi_NameTakenx_initx D28.F,
    F_TooManyx_initx := D29.F,
    b_TooManyx_initx := bi_TooManyx_initx D29.F,
    F_NoStatex_initx := D30.F,
    b_NoStatex_initx := bi_NoStatex_initx D30.F,
    F_Unreachablex_initx := D31.F,
    b_Unreachablex_initx := bi_Unreachablex_initx D31.F,
    F_l_rng := D32.F,
    g_l_rng := glo_of X G (c.at_ (f := gloB "_law_rng" (fun K => He.fAd K ("_law_rng", none))) 32),
    b_l_rng := bi_l_rng D32.F,
    F_l_draw := D33.F,
    g_l_draw := glo_of X G (c.at_ (f := gloB "_law_draw" (fun K => He.fAd K ("_law_draw", none))) 33),
    b_l_draw := bi_l_draw D33.F,
    F_l_choice := D34.F,
    g_l_choice := glo_of X G (c.at_ (f := gloB "_law_choice" (fun K => He.fAd K ("_law_choice", none))) 34),
    b_l_choice := bi_l_choice D34.F,
    F_l_odd := D35.F,
    g_l_odd := glo_of X G (c.at_ (f := gloB "_law_odd" (fun K => He.fAd K ("_law_odd", none))) 35),
    b_l_odd := bi_l_odd D35.F,
    F_l_first_classes := D36.F,
    g_l_first_classes := glo_of X G (c.at_ (f := gloB "_law_first_classes" (fun K => He.fAd K ("_law_first_classes", none))) 36),
    b_l_first_classes := bi_l_first_classes D36.F,
    F_l_classes := D37.F,
    g_l_classes := glo_of X G (c.at_ (f := gloB "_law_classes" (fun K => He.fAd K ("_law_classes", none))) 37),
    b_l_classes := bi_l_classes D37.F,
    F_l_bases := D38.F,
    g_l_bases := glo_of X G (c.at_ (f := gloB "_law_bases" (fun K => He.fAd K ("_law_bases", none))) 38),
    b_l_bases := bi_l_bases D38.F,
    F_l_hierarchy_right := D39.F,
    g_l_hierarchy_right := glo_of X G (c.at_ (f := gloB "_law_hierarchy_right" (fun K => He.fAd K ("_law_hierarchy_right", none))) 39),
    b_l_hierarchy_right := bi_l_hierarchy_right D39.F,
    F_l_single := D40.F,
    g_l_single := glo_of X G (c.at_ (f := gloB "_law_single" (fun K => He.fAd K ("_law_single", none))) 40),
    b_l_single := bi_l_single D40.F,
    F_l_single_named := D41.F,
    g_l_single_named := glo_of X G (c.at_ (f := gloB "_law_single_named" (fun K => He.fAd K ("_law_single_named", none))) 41),
    b_l_single_named := bi_l_single_named D41.F,
    F_l_pairs := D42.F,
    g_l_pairs := glo_of X G (c.at_ (f := gloB "_law_pairs" (fun K => He.fAd K ("_law_pairs", none))) 42),
    b_l_pairs := bi_l_pairs D42.F,
    F_l_double_right := D43.F,
    g_l_double_right := glo_of X G (c.at_ (f := gloB "_law_double_right" (fun K => He.fAd K ("_law_double_right", none))) 43),
    b_l_double_right := bi_l_double_right D43.F,
    F_law := D44.F,
    g_law := glo_of X G (c.at_ (f := gloB "law" (fun K => He.fAd K ("law", none))) 44),
    b_law := bi_law D44.F,
    kbi_CannotMeetx_initx_version_module := kbil_CannotMeetx_initx_version_module D22.F,
    kbi_InUsex_initx_version_module := kbil_InUsex_initx_version_module D27.F,
    kbi_InvalidCountx_initx_value := kbil_InvalidCountx_initx_value D11.F,
    kbi_InvalidDemandx_initx_value := kbil_InvalidDemandx_initx_value D7.F,
    kbi_InvalidEntryx_initx_value := kbil_InvalidEntryx_initx_value D13.F,
    kbi_InvalidGoalsx_initx_position := kbil_InvalidGoalsx_initx_position D8.F,
    kbi_InvalidNamex_initx_value := kbil_InvalidNamex_initx_value D0.F,
    kbi_InvalidRowsx_initx_position := kbil_InvalidRowsx_initx_position D5.F,
    kbi_InvalidStatex_initx_module := kbil_InvalidStatex_initx_module D6.F,
    kbi_InvalidStepsx_initx_position := kbil_InvalidStepsx_initx_position D10.F,
    kbi_InvalidStepx_initx_value := kbil_InvalidStepx_initx_value D9.F,
    kbi_InvalidTextx_initx_line := kbil_InvalidTextx_initx_line D12.F,
    kbi_InvalidUsesx_initx_module := kbil_InvalidUsesx_initx_module D4.F,
    kbi_InvalidVersionx_initx_value := kbil_InvalidVersionx_initx_value D1.F,
    kbi_InvalidWindowsx_initx_position := kbil_InvalidWindowsx_initx_position D3.F,
    kbi_InvalidWindowx_initx_value := kbil_InvalidWindowx_initx_value D2.F,
    kbi_MissingNeedx_initx_step := kbil_MissingNeedx_initx_step D24.F,
    kbi_NameTakenx_initx_value := kbil_NameTakenx_initx_value D28.F,
    kbi_NoStatex_initx_chain := kbil_NoStatex_initx_chain D30.F,
    kbi_NoStepx_initx_version_module := kbil_NoStepx_initx_version_module D23.F,
    kbi_NotAvailablex_initx_step := kbil_NotAvailablex_initx_step D25.F,
    kbi_NotBelowx_initx_module := kbil_NotBelowx_initx_module D21.F,
    kbi_NotConsistentx_initx_used_user := kbil_NotConsistentx_initx_used_user D20.F,
    kbi_NotRisingx_initx_used_user := kbil_NotRisingx_initx_used_user D19.F,
    kbi_Pinnedx_initx_version_module := kbil_Pinnedx_initx_version_module D26.F,
    kbi_TooManyx_initx_limit_kind := kbil_TooManyx_initx_limit_kind D29.F,
    kbi_UnknownModulex_initx_value := kbil_UnknownModulex_initx_value D14.F,
    kbi_UnknownOperatorx_initx_value := kbil_UnknownOperatorx_initx_value D17.F,
    kbi_UnknownSessionx_initx_value := kbil_UnknownSessionx_initx_value D18.F,
    kbi_UnknownUsex_initx_used_user := kbil_UnknownUsex_initx_used_user D15.F,
    kbi_UnknownVersionx_initx_version_module := kbil_UnknownVersionx_initx_version_module D16.F,
    kbi_Unreachablex_initx_chain := kbil_Unreachablex_initx_chain D31.F,
    m_ArithmeticError := free_of X G (c.at_ (f := freeB "ArithmeticError") 45),
    m_IndexError := free_of X G (c.at_ (f := freeB "IndexError") 46),
    m_KeyError := free_of X G (c.at_ (f := freeB "KeyError") 47),
    m_LookupError := free_of X G (c.at_ (f := freeB "LookupError") 48),
    m_OverflowError := free_of X G (c.at_ (f := freeB "OverflowError") 49),
    m_RuntimeError := free_of X G (c.at_ (f := freeB "RuntimeError") 50),
    m_TypeError := free_of X G (c.at_ (f := freeB "TypeError") 51),
    m_ValueError := free_of X G (c.at_ (f := freeB "ValueError") 52),
    m_abs := free_of X G (c.at_ (f := freeB "abs") 53),
    m_divmod := free_of X G (c.at_ (f := freeB "divmod") 54),
    m_enumerate := free_of X G (c.at_ (f := freeB "enumerate") 55),
    m_isinstance := free_of X G (c.at_ (f := freeB "isinstance") 56),
    m_len := free_of X G (c.at_ (f := freeB "len") 57),
    m_max := free_of X G (c.at_ (f := freeB "max") 58),
    m_min := free_of X G (c.at_ (f := freeB "min") 59),
    m_range := free_of X G (c.at_ (f := freeB "range") 60),
    m_repr := free_of X G (c.at_ (f := freeB "repr") 61),
    gX_GroupError := glo_of X G (c.at_ (f := gloB "GroupError" (fun K => He.ga K "GroupError")) 62),
    gX_InvalidName := glo_of X G (c.at_ (f := gloB "InvalidName" (fun K => He.ga K "InvalidName")) 63),
    gX_InvalidVersion := glo_of X G (c.at_ (f := gloB "InvalidVersion" (fun K => He.ga K "InvalidVersion")) 64),
    gX_InvalidWindow := glo_of X G (c.at_ (f := gloB "InvalidWindow" (fun K => He.ga K "InvalidWindow")) 65),
    gX_InvalidWindows := glo_of X G (c.at_ (f := gloB "InvalidWindows" (fun K => He.ga K "InvalidWindows")) 66),
    gX_InvalidUses := glo_of X G (c.at_ (f := gloB "InvalidUses" (fun K => He.ga K "InvalidUses")) 67),
    gX_InvalidRows := glo_of X G (c.at_ (f := gloB "InvalidRows" (fun K => He.ga K "InvalidRows")) 68),
    gX_InvalidState := glo_of X G (c.at_ (f := gloB "InvalidState" (fun K => He.ga K "InvalidState")) 69),
    gX_InvalidDemand := glo_of X G (c.at_ (f := gloB "InvalidDemand" (fun K => He.ga K "InvalidDemand")) 70),
    gX_InvalidGoals := glo_of X G (c.at_ (f := gloB "InvalidGoals" (fun K => He.ga K "InvalidGoals")) 71),
    gX_InvalidStep := glo_of X G (c.at_ (f := gloB "InvalidStep" (fun K => He.ga K "InvalidStep")) 72),
    gX_InvalidSteps := glo_of X G (c.at_ (f := gloB "InvalidSteps" (fun K => He.ga K "InvalidSteps")) 73),
    gX_InvalidChange := glo_of X G (c.at_ (f := gloB "InvalidChange" (fun K => He.ga K "InvalidChange")) 74),
    gX_InvalidCount := glo_of X G (c.at_ (f := gloB "InvalidCount" (fun K => He.ga K "InvalidCount")) 75),
    gX_InvalidText := glo_of X G (c.at_ (f := gloB "InvalidText" (fun K => He.ga K "InvalidText")) 76),
    gX_InvalidEntry := glo_of X G (c.at_ (f := gloB "InvalidEntry" (fun K => He.ga K "InvalidEntry")) 77),
    gX_InvalidCommand := glo_of X G (c.at_ (f := gloB "InvalidCommand" (fun K => He.ga K "InvalidCommand")) 78),
    gX_Missing := glo_of X G (c.at_ (f := gloB "Missing" (fun K => He.ga K "Missing")) 79),
    gX_UnknownModule := glo_of X G (c.at_ (f := gloB "UnknownModule" (fun K => He.ga K "UnknownModule")) 80),
    gX_UnknownUse := glo_of X G (c.at_ (f := gloB "UnknownUse" (fun K => He.ga K "UnknownUse")) 81),
    gX_UnknownVersion := glo_of X G (c.at_ (f := gloB "UnknownVersion" (fun K => He.ga K "UnknownVersion")) 82),
    gX_UnknownOperator := glo_of X G (c.at_ (f := gloB "UnknownOperator" (fun K => He.ga K "UnknownOperator")) 83),
    gX_UnknownSession := glo_of X G (c.at_ (f := gloB "UnknownSession" (fun K => He.ga K "UnknownSession")) 84),
    gX_Refused := glo_of X G (c.at_ (f := gloB "Refused" (fun K => He.ga K "Refused")) 85),
    gX_NotRising := glo_of X G (c.at_ (f := gloB "NotRising" (fun K => He.ga K "NotRising")) 86),
    gX_NotConsistent := glo_of X G (c.at_ (f := gloB "NotConsistent" (fun K => He.ga K "NotConsistent")) 87),
    gX_NotBelow := glo_of X G (c.at_ (f := gloB "NotBelow" (fun K => He.ga K "NotBelow")) 88),
    gX_CannotMeet := glo_of X G (c.at_ (f := gloB "CannotMeet" (fun K => He.ga K "CannotMeet")) 89),
    gX_NoStep := glo_of X G (c.at_ (f := gloB "NoStep" (fun K => He.ga K "NoStep")) 90),
    gX_MissingNeed := glo_of X G (c.at_ (f := gloB "MissingNeed" (fun K => He.ga K "MissingNeed")) 91),
    gX_NotAvailable := glo_of X G (c.at_ (f := gloB "NotAvailable" (fun K => He.ga K "NotAvailable")) 92),
    gX_Pinned := glo_of X G (c.at_ (f := gloB "Pinned" (fun K => He.ga K "Pinned")) 93),
    gX_InUse := glo_of X G (c.at_ (f := gloB "InUse" (fun K => He.ga K "InUse")) 94),
    gX_NameTaken := glo_of X G (c.at_ (f := gloB "NameTaken" (fun K => He.ga K "NameTaken")) 95),
    gX_NothingToUndo := glo_of X G (c.at_ (f := gloB "NothingToUndo" (fun K => He.ga K "NothingToUndo")) 96),
    gX_LimitReached := glo_of X G (c.at_ (f := gloB "LimitReached" (fun K => He.ga K "LimitReached")) 97),
    gX_TooMany := glo_of X G (c.at_ (f := gloB "TooMany" (fun K => He.ga K "TooMany")) 98),
    gX_NoState := glo_of X G (c.at_ (f := gloB "NoState" (fun K => He.ga K "NoState")) 99),
    gX_Unreachable := glo_of X G (c.at_ (f := gloB "Unreachable" (fun K => He.ga K "Unreachable")) 100),
    cg := cg_of (c.at_ (f := cgB) 101),
    EX_GroupError := exT_of baseV (c.at_ (f := fun K => exB K (He.ga K "GroupError") "ValueError.__new__" (tailOf "ValueError")) 102),
    EX_InvalidName := exT_of baseV (c.at_ (f := fun K => exB K (He.ga K "InvalidName") "ValueError.__new__" (tailOf "ValueError")) 106),
    EX_InvalidVersion := exT_of baseV (c.at_ (f := fun K => exB K (He.ga K "InvalidVersion") "ValueError.__new__" (tailOf "ValueError")) 110),
    EX_InvalidWindow := exT_of baseV (c.at_ (f := fun K => exB K (He.ga K "InvalidWindow") "ValueError.__new__" (tailOf "ValueError")) 114),
    EX_InvalidWindows := exT_of baseV (c.at_ (f := fun K => exB K (He.ga K "InvalidWindows") "ValueError.__new__" (tailOf "ValueError")) 118),
    EX_InvalidUses := exT_of baseV (c.at_ (f := fun K => exB K (He.ga K "InvalidUses") "ValueError.__new__" (tailOf "ValueError")) 122),
    EX_InvalidRows := exT_of baseV (c.at_ (f := fun K => exB K (He.ga K "InvalidRows") "ValueError.__new__" (tailOf "ValueError")) 126),
    EX_InvalidState := exT_of baseV (c.at_ (f := fun K => exB K (He.ga K "InvalidState") "ValueError.__new__" (tailOf "ValueError")) 130),
    EX_InvalidDemand := exT_of baseV (c.at_ (f := fun K => exB K (He.ga K "InvalidDemand") "ValueError.__new__" (tailOf "ValueError")) 134),
    EX_InvalidGoals := exT_of baseV (c.at_ (f := fun K => exB K (He.ga K "InvalidGoals") "ValueError.__new__" (tailOf "ValueError")) 138),
    EX_InvalidStep := exT_of baseV (c.at_ (f := fun K => exB K (He.ga K "InvalidStep") "ValueError.__new__" (tailOf "ValueError")) 142),
    EX_InvalidSteps := exT_of baseV (c.at_ (f := fun K => exB K (He.ga K "InvalidSteps") "ValueError.__new__" (tailOf "ValueError")) 146),
    EX_InvalidChange := exT_of baseV (c.at_ (f := fun K => exB K (He.ga K "InvalidChange") "ValueError.__new__" (tailOf "ValueError")) 150),
    EX_InvalidCount := exT_of baseV (c.at_ (f := fun K => exB K (He.ga K "InvalidCount") "ValueError.__new__" (tailOf "ValueError")) 153),
    EX_InvalidText := exT_of baseV (c.at_ (f := fun K => exB K (He.ga K "InvalidText") "ValueError.__new__" (tailOf "ValueError")) 157),
    EX_InvalidEntry := exT_of baseV (c.at_ (f := fun K => exB K (He.ga K "InvalidEntry") "ValueError.__new__" (tailOf "ValueError")) 161),
    EX_InvalidCommand := exT_of baseV (c.at_ (f := fun K => exB K (He.ga K "InvalidCommand") "ValueError.__new__" (tailOf "ValueError")) 165),
    EX_Missing := exT_of baseL (c.at_ (f := fun K => exB K (He.ga K "Missing") "LookupError.__new__" (tailOf "LookupError")) 168),
    EX_UnknownModule := exT_of baseL (c.at_ (f := fun K => exB K (He.ga K "UnknownModule") "LookupError.__new__" (tailOf "LookupError")) 172),
    EX_UnknownUse := exT_of baseL (c.at_ (f := fun K => exB K (He.ga K "UnknownUse") "LookupError.__new__" (tailOf "LookupError")) 176),
    EX_UnknownVersion := exT_of baseL (c.at_ (f := fun K => exB K (He.ga K "UnknownVersion") "LookupError.__new__" (tailOf "LookupError")) 180),
    EX_UnknownOperator := exT_of baseL (c.at_ (f := fun K => exB K (He.ga K "UnknownOperator") "LookupError.__new__" (tailOf "LookupError")) 184),
    EX_UnknownSession := exT_of baseL (c.at_ (f := fun K => exB K (He.ga K "UnknownSession") "LookupError.__new__" (tailOf "LookupError")) 188),
    EX_Refused := exT_of baseR (c.at_ (f := fun K => exB K (He.ga K "Refused") "RuntimeError.__new__" (tailOf "RuntimeError")) 192),
    EX_NotRising := exT_of baseR (c.at_ (f := fun K => exB K (He.ga K "NotRising") "RuntimeError.__new__" (tailOf "RuntimeError")) 196),
    EX_NotConsistent := exT_of baseR (c.at_ (f := fun K => exB K (He.ga K "NotConsistent") "RuntimeError.__new__" (tailOf "RuntimeError")) 200),
    EX_NotBelow := exT_of baseR (c.at_ (f := fun K => exB K (He.ga K "NotBelow") "RuntimeError.__new__" (tailOf "RuntimeError")) 204),
    EX_CannotMeet := exT_of baseR (c.at_ (f := fun K => exB K (He.ga K "CannotMeet") "RuntimeError.__new__" (tailOf "RuntimeError")) 208),
    EX_NoStep := exT_of baseR (c.at_ (f := fun K => exB K (He.ga K "NoStep") "RuntimeError.__new__" (tailOf "RuntimeError")) 212),
    EX_MissingNeed := exT_of baseR (c.at_ (f := fun K => exB K (He.ga K "MissingNeed") "RuntimeError.__new__" (tailOf "RuntimeError")) 216),
    EX_NotAvailable := exT_of baseR (c.at_ (f := fun K => exB K (He.ga K "NotAvailable") "RuntimeError.__new__" (tailOf "RuntimeError")) 220),
    EX_Pinned := exT_of baseR (c.at_ (f := fun K => exB K (He.ga K "Pinned") "RuntimeError.__new__" (tailOf "RuntimeError")) 224),
    EX_InUse := exT_of baseR (c.at_ (f := fun K => exB K (He.ga K "InUse") "RuntimeError.__new__" (tailOf "RuntimeError")) 228),
    EX_NameTaken := exT_of baseR (c.at_ (f := fun K => exB K (He.ga K "NameTaken") "RuntimeError.__new__" (tailOf "RuntimeError")) 232),
    EX_NothingToUndo := exT_of baseR (c.at_ (f := fun K => exB K (He.ga K "NothingToUndo") "RuntimeError.__new__" (tailOf "RuntimeError")) 236),
    EX_LimitReached := exT_of baseA (c.at_ (f := fun K => exB K (He.ga K "LimitReached") "ArithmeticError.__new__" (tailOf "ArithmeticError")) 239),
    EX_TooMany := exT_of baseA (c.at_ (f := fun K => exB K (He.ga K "TooMany") "ArithmeticError.__new__" (tailOf "ArithmeticError")) 243),
    EX_NoState := exT_of baseA (c.at_ (f := fun K => exB K (He.ga K "NoState") "ArithmeticError.__new__" (tailOf "ArithmeticError")) 247),
    EX_Unreachable := exT_of baseA (c.at_ (f := fun K => exB K (He.ga K "Unreachable") "ArithmeticError.__new__" (tailOf "ArithmeticError")) 251),
    IB_GroupError := ib_of (c.at_ (f := fun K => ibB K (He.ga K "GroupError") "ValueError.__init__") 104),
    IB_LimitReached := ib_of (c.at_ (f := fun K => ibB K (He.ga K "LimitReached") "ArithmeticError.__init__") 241),
    IB_Missing := ib_of (c.at_ (f := fun K => ibB K (He.ga K "Missing") "LookupError.__init__") 170),
    IB_Refused := ib_of (c.at_ (f := fun K => ibB K (He.ga K "Refused") "RuntimeError.__init__") 194),
    xin_GroupError := (c.at_ (f := fun K => PySem.W.excIn K (He.ga K "GroupError") (tailOf "ValueError") "ValueError.__new__") 105),
    kr_GroupError := kr_of (c.at_ (f := fun K => kiB K (He.ga K "GroupError") (rowL (kiLH K) 584115552256)) 103),
    iC_InvalidName := met_of (c.at_ (f := metB "InvalidName" "__init__") 0),
    tI_InvalidName := ty_of (c.at_ (f := fun K => tyB K (He.fAd K ("InvalidName", some "__init__"))) 109),
    tk_InvalidName_value := (fd_of (c.at_ (f := fun K => fdB K (He.ga K "InvalidName") ["value"]) 107) (List.mem_of_getElem? (i := 0) rfl)).1,
    nf_InvalidName_value := (fd_of (c.at_ (f := fun K => fdB K (He.ga K "InvalidName") ["value"]) 107) (List.mem_of_getElem? (i := 0) rfl)).2,
    kr_InvalidName := kr_of (c.at_ (f := fun K => kiB K (He.ga K "InvalidName") (rowL (kiLH K) 584115552257)) 108),
    iC_InvalidVersion := met_of (c.at_ (f := metB "InvalidVersion" "__init__") 1),
    tI_InvalidVersion := ty_of (c.at_ (f := fun K => tyB K (He.fAd K ("InvalidVersion", some "__init__"))) 113),
    tk_InvalidVersion_value := (fd_of (c.at_ (f := fun K => fdB K (He.ga K "InvalidVersion") ["value"]) 111) (List.mem_of_getElem? (i := 0) rfl)).1,
    nf_InvalidVersion_value := (fd_of (c.at_ (f := fun K => fdB K (He.ga K "InvalidVersion") ["value"]) 111) (List.mem_of_getElem? (i := 0) rfl)).2,
    kr_InvalidVersion := kr_of (c.at_ (f := fun K => kiB K (He.ga K "InvalidVersion") (rowL (kiLH K) 584115552258)) 112),
    iC_InvalidWindow := met_of (c.at_ (f := metB "InvalidWindow" "__init__") 2),
    tI_InvalidWindow := ty_of (c.at_ (f := fun K => tyB K (He.fAd K ("InvalidWindow", some "__init__"))) 117),
    tk_InvalidWindow_value := (fd_of (c.at_ (f := fun K => fdB K (He.ga K "InvalidWindow") ["value"]) 115) (List.mem_of_getElem? (i := 0) rfl)).1,
    nf_InvalidWindow_value := (fd_of (c.at_ (f := fun K => fdB K (He.ga K "InvalidWindow") ["value"]) 115) (List.mem_of_getElem? (i := 0) rfl)).2,
    kr_InvalidWindow := kr_of (c.at_ (f := fun K => kiB K (He.ga K "InvalidWindow") (rowL (kiLH K) 584115552260)) 116),
    iC_InvalidWindows := met_of (c.at_ (f := metB "InvalidWindows" "__init__") 3),
    tI_InvalidWindows := ty_of (c.at_ (f := fun K => tyB K (He.fAd K ("InvalidWindows", some "__init__"))) 121),
    tk_InvalidWindows_position := (fd_of (c.at_ (f := fun K => fdB K (He.ga K "InvalidWindows") ["position"]) 119) (List.mem_of_getElem? (i := 0) rfl)).1,
    nf_InvalidWindows_position := (fd_of (c.at_ (f := fun K => fdB K (He.ga K "InvalidWindows") ["position"]) 119) (List.mem_of_getElem? (i := 0) rfl)).2,
    kr_InvalidWindows := kr_of (c.at_ (f := fun K => kiB K (He.ga K "InvalidWindows") (rowL (kiLH K) 584115552264)) 120),
    iC_InvalidUses := met_of (c.at_ (f := metB "InvalidUses" "__init__") 4),
    tI_InvalidUses := ty_of (c.at_ (f := fun K => tyB K (He.fAd K ("InvalidUses", some "__init__"))) 125),
    tk_InvalidUses_module := (fd_of (c.at_ (f := fun K => fdB K (He.ga K "InvalidUses") ["module"]) 123) (List.mem_of_getElem? (i := 0) rfl)).1,
    nf_InvalidUses_module := (fd_of (c.at_ (f := fun K => fdB K (He.ga K "InvalidUses") ["module"]) 123) (List.mem_of_getElem? (i := 0) rfl)).2,
    kr_InvalidUses := kr_of (c.at_ (f := fun K => kiB K (He.ga K "InvalidUses") (rowL (kiLH K) 584115552272)) 124),
    iC_InvalidRows := met_of (c.at_ (f := metB "InvalidRows" "__init__") 5),
    tI_InvalidRows := ty_of (c.at_ (f := fun K => tyB K (He.fAd K ("InvalidRows", some "__init__"))) 129),
    tk_InvalidRows_position := (fd_of (c.at_ (f := fun K => fdB K (He.ga K "InvalidRows") ["position"]) 127) (List.mem_of_getElem? (i := 0) rfl)).1,
    nf_InvalidRows_position := (fd_of (c.at_ (f := fun K => fdB K (He.ga K "InvalidRows") ["position"]) 127) (List.mem_of_getElem? (i := 0) rfl)).2,
    kr_InvalidRows := kr_of (c.at_ (f := fun K => kiB K (He.ga K "InvalidRows") (rowL (kiLH K) 584115552288)) 128),
    iC_InvalidState := met_of (c.at_ (f := metB "InvalidState" "__init__") 6),
    tI_InvalidState := ty_of (c.at_ (f := fun K => tyB K (He.fAd K ("InvalidState", some "__init__"))) 133),
    tk_InvalidState_module := (fd_of (c.at_ (f := fun K => fdB K (He.ga K "InvalidState") ["module"]) 131) (List.mem_of_getElem? (i := 0) rfl)).1,
    nf_InvalidState_module := (fd_of (c.at_ (f := fun K => fdB K (He.ga K "InvalidState") ["module"]) 131) (List.mem_of_getElem? (i := 0) rfl)).2,
    kr_InvalidState := kr_of (c.at_ (f := fun K => kiB K (He.ga K "InvalidState") (rowL (kiLH K) 584115552320)) 132),
    iC_InvalidDemand := met_of (c.at_ (f := metB "InvalidDemand" "__init__") 7),
    tI_InvalidDemand := ty_of (c.at_ (f := fun K => tyB K (He.fAd K ("InvalidDemand", some "__init__"))) 137),
    tk_InvalidDemand_value := (fd_of (c.at_ (f := fun K => fdB K (He.ga K "InvalidDemand") ["value"]) 135) (List.mem_of_getElem? (i := 0) rfl)).1,
    nf_InvalidDemand_value := (fd_of (c.at_ (f := fun K => fdB K (He.ga K "InvalidDemand") ["value"]) 135) (List.mem_of_getElem? (i := 0) rfl)).2,
    kr_InvalidDemand := kr_of (c.at_ (f := fun K => kiB K (He.ga K "InvalidDemand") (rowL (kiLH K) 584115552384)) 136),
    iC_InvalidGoals := met_of (c.at_ (f := metB "InvalidGoals" "__init__") 8),
    tI_InvalidGoals := ty_of (c.at_ (f := fun K => tyB K (He.fAd K ("InvalidGoals", some "__init__"))) 141),
    tk_InvalidGoals_position := (fd_of (c.at_ (f := fun K => fdB K (He.ga K "InvalidGoals") ["position"]) 139) (List.mem_of_getElem? (i := 0) rfl)).1,
    nf_InvalidGoals_position := (fd_of (c.at_ (f := fun K => fdB K (He.ga K "InvalidGoals") ["position"]) 139) (List.mem_of_getElem? (i := 0) rfl)).2,
    kr_InvalidGoals := kr_of (c.at_ (f := fun K => kiB K (He.ga K "InvalidGoals") (rowL (kiLH K) 584115552512)) 140),
    iC_InvalidStep := met_of (c.at_ (f := metB "InvalidStep" "__init__") 9),
    tI_InvalidStep := ty_of (c.at_ (f := fun K => tyB K (He.fAd K ("InvalidStep", some "__init__"))) 145),
    tk_InvalidStep_value := (fd_of (c.at_ (f := fun K => fdB K (He.ga K "InvalidStep") ["value"]) 143) (List.mem_of_getElem? (i := 0) rfl)).1,
    nf_InvalidStep_value := (fd_of (c.at_ (f := fun K => fdB K (He.ga K "InvalidStep") ["value"]) 143) (List.mem_of_getElem? (i := 0) rfl)).2,
    kr_InvalidStep := kr_of (c.at_ (f := fun K => kiB K (He.ga K "InvalidStep") (rowL (kiLH K) 584115552768)) 144),
    iC_InvalidSteps := met_of (c.at_ (f := metB "InvalidSteps" "__init__") 10),
    tI_InvalidSteps := ty_of (c.at_ (f := fun K => tyB K (He.fAd K ("InvalidSteps", some "__init__"))) 149),
    tk_InvalidSteps_position := (fd_of (c.at_ (f := fun K => fdB K (He.ga K "InvalidSteps") ["position"]) 147) (List.mem_of_getElem? (i := 0) rfl)).1,
    nf_InvalidSteps_position := (fd_of (c.at_ (f := fun K => fdB K (He.ga K "InvalidSteps") ["position"]) 147) (List.mem_of_getElem? (i := 0) rfl)).2,
    kr_InvalidSteps := kr_of (c.at_ (f := fun K => kiB K (He.ga K "InvalidSteps") (rowL (kiLH K) 584115553280)) 148),
    xin_InvalidChange := (c.at_ (f := fun K => PySem.W.excIn K (He.ga K "InvalidChange") (tailOf "ValueError") "ValueError.__new__") 152),
    kr_InvalidChange := kr_of (c.at_ (f := fun K => kiB K (He.ga K "InvalidChange") (rowL (kiLH K) 584115554304)) 151),
    iC_InvalidCount := met_of (c.at_ (f := metB "InvalidCount" "__init__") 11),
    tI_InvalidCount := ty_of (c.at_ (f := fun K => tyB K (He.fAd K ("InvalidCount", some "__init__"))) 156),
    tk_InvalidCount_value := (fd_of (c.at_ (f := fun K => fdB K (He.ga K "InvalidCount") ["value"]) 154) (List.mem_of_getElem? (i := 0) rfl)).1,
    nf_InvalidCount_value := (fd_of (c.at_ (f := fun K => fdB K (He.ga K "InvalidCount") ["value"]) 154) (List.mem_of_getElem? (i := 0) rfl)).2,
    kr_InvalidCount := kr_of (c.at_ (f := fun K => kiB K (He.ga K "InvalidCount") (rowL (kiLH K) 584115556352)) 155),
    iC_InvalidText := met_of (c.at_ (f := metB "InvalidText" "__init__") 12),
    tI_InvalidText := ty_of (c.at_ (f := fun K => tyB K (He.fAd K ("InvalidText", some "__init__"))) 160),
    tk_InvalidText_line := (fd_of (c.at_ (f := fun K => fdB K (He.ga K "InvalidText") ["line"]) 158) (List.mem_of_getElem? (i := 0) rfl)).1,
    nf_InvalidText_line := (fd_of (c.at_ (f := fun K => fdB K (He.ga K "InvalidText") ["line"]) 158) (List.mem_of_getElem? (i := 0) rfl)).2,
    kr_InvalidText := kr_of (c.at_ (f := fun K => kiB K (He.ga K "InvalidText") (rowL (kiLH K) 584115560448)) 159),
    iC_InvalidEntry := met_of (c.at_ (f := metB "InvalidEntry" "__init__") 13),
    tI_InvalidEntry := ty_of (c.at_ (f := fun K => tyB K (He.fAd K ("InvalidEntry", some "__init__"))) 164),
    tk_InvalidEntry_value := (fd_of (c.at_ (f := fun K => fdB K (He.ga K "InvalidEntry") ["value"]) 162) (List.mem_of_getElem? (i := 0) rfl)).1,
    nf_InvalidEntry_value := (fd_of (c.at_ (f := fun K => fdB K (He.ga K "InvalidEntry") ["value"]) 162) (List.mem_of_getElem? (i := 0) rfl)).2,
    kr_InvalidEntry := kr_of (c.at_ (f := fun K => kiB K (He.ga K "InvalidEntry") (rowL (kiLH K) 584115568640)) 163),
    xin_InvalidCommand := (c.at_ (f := fun K => PySem.W.excIn K (He.ga K "InvalidCommand") (tailOf "ValueError") "ValueError.__new__") 167),
    kr_InvalidCommand := kr_of (c.at_ (f := fun K => kiB K (He.ga K "InvalidCommand") (rowL (kiLH K) 584115585024)) 166),
    xin_Missing := (c.at_ (f := fun K => PySem.W.excIn K (He.ga K "Missing") (tailOf "LookupError") "LookupError.__new__") 171),
    kr_Missing := kr_of (c.at_ (f := fun K => kiB K (He.ga K "Missing") (rowL (kiLH K) 1168231104512)) 169),
    iC_UnknownModule := met_of (c.at_ (f := metB "UnknownModule" "__init__") 14),
    tI_UnknownModule := ty_of (c.at_ (f := fun K => tyB K (He.fAd K ("UnknownModule", some "__init__"))) 175),
    tk_UnknownModule_value := (fd_of (c.at_ (f := fun K => fdB K (He.ga K "UnknownModule") ["value"]) 173) (List.mem_of_getElem? (i := 0) rfl)).1,
    nf_UnknownModule_value := (fd_of (c.at_ (f := fun K => fdB K (He.ga K "UnknownModule") ["value"]) 173) (List.mem_of_getElem? (i := 0) rfl)).2,
    kr_UnknownModule := kr_of (c.at_ (f := fun K => kiB K (He.ga K "UnknownModule") (rowL (kiLH K) 1168231170048)) 174),
    iC_UnknownUse := met_of (c.at_ (f := metB "UnknownUse" "__init__") 15),
    tI_UnknownUse := ty_of (c.at_ (f := fun K => tyB K (He.fAd K ("UnknownUse", some "__init__"))) 179),
    tk_UnknownUse_user := (fd_of (c.at_ (f := fun K => fdB K (He.ga K "UnknownUse") ["user", "used"]) 177) (List.mem_of_getElem? (i := 0) rfl)).1,
    nf_UnknownUse_user := (fd_of (c.at_ (f := fun K => fdB K (He.ga K "UnknownUse") ["user", "used"]) 177) (List.mem_of_getElem? (i := 0) rfl)).2,
    tk_UnknownUse_used := (fd_of (c.at_ (f := fun K => fdB K (He.ga K "UnknownUse") ["user", "used"]) 177) (List.mem_of_getElem? (i := 1) rfl)).1,
    nf_UnknownUse_used := (fd_of (c.at_ (f := fun K => fdB K (He.ga K "UnknownUse") ["user", "used"]) 177) (List.mem_of_getElem? (i := 1) rfl)).2,
    kr_UnknownUse := kr_of (c.at_ (f := fun K => kiB K (He.ga K "UnknownUse") (rowL (kiLH K) 1168231235584)) 178),
    iC_UnknownVersion := met_of (c.at_ (f := metB "UnknownVersion" "__init__") 16),
    tI_UnknownVersion := ty_of (c.at_ (f := fun K => tyB K (He.fAd K ("UnknownVersion", some "__init__"))) 183),
    tk_UnknownVersion_module := (fd_of (c.at_ (f := fun K => fdB K (He.ga K "UnknownVersion") ["module", "version"]) 181) (List.mem_of_getElem? (i := 0) rfl)).1,
    nf_UnknownVersion_module := (fd_of (c.at_ (f := fun K => fdB K (He.ga K "UnknownVersion") ["module", "version"]) 181) (List.mem_of_getElem? (i := 0) rfl)).2,
    tk_UnknownVersion_version := (fd_of (c.at_ (f := fun K => fdB K (He.ga K "UnknownVersion") ["module", "version"]) 181) (List.mem_of_getElem? (i := 1) rfl)).1,
    nf_UnknownVersion_version := (fd_of (c.at_ (f := fun K => fdB K (He.ga K "UnknownVersion") ["module", "version"]) 181) (List.mem_of_getElem? (i := 1) rfl)).2,
    kr_UnknownVersion := kr_of (c.at_ (f := fun K => kiB K (He.ga K "UnknownVersion") (rowL (kiLH K) 1168231366656)) 182),
    iC_UnknownOperator := met_of (c.at_ (f := metB "UnknownOperator" "__init__") 17),
    tI_UnknownOperator := ty_of (c.at_ (f := fun K => tyB K (He.fAd K ("UnknownOperator", some "__init__"))) 187),
    tk_UnknownOperator_value := (fd_of (c.at_ (f := fun K => fdB K (He.ga K "UnknownOperator") ["value"]) 185) (List.mem_of_getElem? (i := 0) rfl)).1,
    nf_UnknownOperator_value := (fd_of (c.at_ (f := fun K => fdB K (He.ga K "UnknownOperator") ["value"]) 185) (List.mem_of_getElem? (i := 0) rfl)).2,
    kr_UnknownOperator := kr_of (c.at_ (f := fun K => kiB K (He.ga K "UnknownOperator") (rowL (kiLH K) 1168231628800)) 186),
    iC_UnknownSession := met_of (c.at_ (f := metB "UnknownSession" "__init__") 18),
    tI_UnknownSession := ty_of (c.at_ (f := fun K => tyB K (He.fAd K ("UnknownSession", some "__init__"))) 191),
    tk_UnknownSession_value := (fd_of (c.at_ (f := fun K => fdB K (He.ga K "UnknownSession") ["value"]) 189) (List.mem_of_getElem? (i := 0) rfl)).1,
    nf_UnknownSession_value := (fd_of (c.at_ (f := fun K => fdB K (He.ga K "UnknownSession") ["value"]) 189) (List.mem_of_getElem? (i := 0) rfl)).2,
    kr_UnknownSession := kr_of (c.at_ (f := fun K => kiB K (He.ga K "UnknownSession") (rowL (kiLH K) 1168232153088)) 190),
    xin_Refused := (c.at_ (f := fun K => PySem.W.excIn K (He.ga K "Refused") (tailOf "RuntimeError") "RuntimeError.__new__") 195),
    kr_Refused := kr_of (c.at_ (f := fun K => kiB K (He.ga K "Refused") (rowL (kiLH K) 2336462209024)) 193),
    iC_NotRising := met_of (c.at_ (f := metB "NotRising" "__init__") 19),
    tI_NotRising := ty_of (c.at_ (f := fun K => tyB K (He.fAd K ("NotRising", some "__init__"))) 199),
    tk_NotRising_user := (fd_of (c.at_ (f := fun K => fdB K (He.ga K "NotRising") ["user", "used"]) 197) (List.mem_of_getElem? (i := 0) rfl)).1,
    nf_NotRising_user := (fd_of (c.at_ (f := fun K => fdB K (He.ga K "NotRising") ["user", "used"]) 197) (List.mem_of_getElem? (i := 0) rfl)).2,
    tk_NotRising_used := (fd_of (c.at_ (f := fun K => fdB K (He.ga K "NotRising") ["user", "used"]) 197) (List.mem_of_getElem? (i := 1) rfl)).1,
    nf_NotRising_used := (fd_of (c.at_ (f := fun K => fdB K (He.ga K "NotRising") ["user", "used"]) 197) (List.mem_of_getElem? (i := 1) rfl)).2,
    kr_NotRising := kr_of (c.at_ (f := fun K => kiB K (He.ga K "NotRising") (rowL (kiLH K) 2336464306176)) 198),
    iC_NotConsistent := met_of (c.at_ (f := metB "NotConsistent" "__init__") 20),
    tI_NotConsistent := ty_of (c.at_ (f := fun K => tyB K (He.fAd K ("NotConsistent", some "__init__"))) 203),
    tk_NotConsistent_user := (fd_of (c.at_ (f := fun K => fdB K (He.ga K "NotConsistent") ["user", "used"]) 201) (List.mem_of_getElem? (i := 0) rfl)).1,
    nf_NotConsistent_user := (fd_of (c.at_ (f := fun K => fdB K (He.ga K "NotConsistent") ["user", "used"]) 201) (List.mem_of_getElem? (i := 0) rfl)).2,
    tk_NotConsistent_used := (fd_of (c.at_ (f := fun K => fdB K (He.ga K "NotConsistent") ["user", "used"]) 201) (List.mem_of_getElem? (i := 1) rfl)).1,
    nf_NotConsistent_used := (fd_of (c.at_ (f := fun K => fdB K (He.ga K "NotConsistent") ["user", "used"]) 201) (List.mem_of_getElem? (i := 1) rfl)).2,
    kr_NotConsistent := kr_of (c.at_ (f := fun K => kiB K (He.ga K "NotConsistent") (rowL (kiLH K) 2336466403328)) 202),
    iC_NotBelow := met_of (c.at_ (f := metB "NotBelow" "__init__") 21),
    tI_NotBelow := ty_of (c.at_ (f := fun K => tyB K (He.fAd K ("NotBelow", some "__init__"))) 207),
    tk_NotBelow_module := (fd_of (c.at_ (f := fun K => fdB K (He.ga K "NotBelow") ["module"]) 205) (List.mem_of_getElem? (i := 0) rfl)).1,
    nf_NotBelow_module := (fd_of (c.at_ (f := fun K => fdB K (He.ga K "NotBelow") ["module"]) 205) (List.mem_of_getElem? (i := 0) rfl)).2,
    kr_NotBelow := kr_of (c.at_ (f := fun K => kiB K (He.ga K "NotBelow") (rowL (kiLH K) 2336470597632)) 206),
    iC_CannotMeet := met_of (c.at_ (f := metB "CannotMeet" "__init__") 22),
    tI_CannotMeet := ty_of (c.at_ (f := fun K => tyB K (He.fAd K ("CannotMeet", some "__init__"))) 211),
    tk_CannotMeet_module := (fd_of (c.at_ (f := fun K => fdB K (He.ga K "CannotMeet") ["module", "version"]) 209) (List.mem_of_getElem? (i := 0) rfl)).1,
    nf_CannotMeet_module := (fd_of (c.at_ (f := fun K => fdB K (He.ga K "CannotMeet") ["module", "version"]) 209) (List.mem_of_getElem? (i := 0) rfl)).2,
    tk_CannotMeet_version := (fd_of (c.at_ (f := fun K => fdB K (He.ga K "CannotMeet") ["module", "version"]) 209) (List.mem_of_getElem? (i := 1) rfl)).1,
    nf_CannotMeet_version := (fd_of (c.at_ (f := fun K => fdB K (He.ga K "CannotMeet") ["module", "version"]) 209) (List.mem_of_getElem? (i := 1) rfl)).2,
    kr_CannotMeet := kr_of (c.at_ (f := fun K => kiB K (He.ga K "CannotMeet") (rowL (kiLH K) 2336478986240)) 210),
    iC_NoStep := met_of (c.at_ (f := metB "NoStep" "__init__") 23),
    tI_NoStep := ty_of (c.at_ (f := fun K => tyB K (He.fAd K ("NoStep", some "__init__"))) 215),
    tk_NoStep_module := (fd_of (c.at_ (f := fun K => fdB K (He.ga K "NoStep") ["module", "version"]) 213) (List.mem_of_getElem? (i := 0) rfl)).1,
    nf_NoStep_module := (fd_of (c.at_ (f := fun K => fdB K (He.ga K "NoStep") ["module", "version"]) 213) (List.mem_of_getElem? (i := 0) rfl)).2,
    tk_NoStep_version := (fd_of (c.at_ (f := fun K => fdB K (He.ga K "NoStep") ["module", "version"]) 213) (List.mem_of_getElem? (i := 1) rfl)).1,
    nf_NoStep_version := (fd_of (c.at_ (f := fun K => fdB K (He.ga K "NoStep") ["module", "version"]) 213) (List.mem_of_getElem? (i := 1) rfl)).2,
    kr_NoStep := kr_of (c.at_ (f := fun K => kiB K (He.ga K "NoStep") (rowL (kiLH K) 2336495763456)) 214),
    iC_MissingNeed := met_of (c.at_ (f := metB "MissingNeed" "__init__") 24),
    tI_MissingNeed := ty_of (c.at_ (f := fun K => tyB K (He.fAd K ("MissingNeed", some "__init__"))) 219),
    tk_MissingNeed_step := (fd_of (c.at_ (f := fun K => fdB K (He.ga K "MissingNeed") ["step"]) 217) (List.mem_of_getElem? (i := 0) rfl)).1,
    nf_MissingNeed_step := (fd_of (c.at_ (f := fun K => fdB K (He.ga K "MissingNeed") ["step"]) 217) (List.mem_of_getElem? (i := 0) rfl)).2,
    kr_MissingNeed := kr_of (c.at_ (f := fun K => kiB K (He.ga K "MissingNeed") (rowL (kiLH K) 2336529317888)) 218),
    iC_NotAvailable := met_of (c.at_ (f := metB "NotAvailable" "__init__") 25),
    tI_NotAvailable := ty_of (c.at_ (f := fun K => tyB K (He.fAd K ("NotAvailable", some "__init__"))) 223),
    tk_NotAvailable_step := (fd_of (c.at_ (f := fun K => fdB K (He.ga K "NotAvailable") ["step"]) 221) (List.mem_of_getElem? (i := 0) rfl)).1,
    nf_NotAvailable_step := (fd_of (c.at_ (f := fun K => fdB K (He.ga K "NotAvailable") ["step"]) 221) (List.mem_of_getElem? (i := 0) rfl)).2,
    kr_NotAvailable := kr_of (c.at_ (f := fun K => kiB K (He.ga K "NotAvailable") (rowL (kiLH K) 2336596426752)) 222),
    iC_Pinned := met_of (c.at_ (f := metB "Pinned" "__init__") 26),
    tI_Pinned := ty_of (c.at_ (f := fun K => tyB K (He.fAd K ("Pinned", some "__init__"))) 227),
    tk_Pinned_module := (fd_of (c.at_ (f := fun K => fdB K (He.ga K "Pinned") ["module", "version"]) 225) (List.mem_of_getElem? (i := 0) rfl)).1,
    nf_Pinned_module := (fd_of (c.at_ (f := fun K => fdB K (He.ga K "Pinned") ["module", "version"]) 225) (List.mem_of_getElem? (i := 0) rfl)).2,
    tk_Pinned_version := (fd_of (c.at_ (f := fun K => fdB K (He.ga K "Pinned") ["module", "version"]) 225) (List.mem_of_getElem? (i := 1) rfl)).1,
    nf_Pinned_version := (fd_of (c.at_ (f := fun K => fdB K (He.ga K "Pinned") ["module", "version"]) 225) (List.mem_of_getElem? (i := 1) rfl)).2,
    kr_Pinned := kr_of (c.at_ (f := fun K => kiB K (He.ga K "Pinned") (rowL (kiLH K) 2336730644480)) 226),
    iC_InUse := met_of (c.at_ (f := metB "InUse" "__init__") 27),
    tI_InUse := ty_of (c.at_ (f := fun K => tyB K (He.fAd K ("InUse", some "__init__"))) 231),
    tk_InUse_module := (fd_of (c.at_ (f := fun K => fdB K (He.ga K "InUse") ["module", "version"]) 229) (List.mem_of_getElem? (i := 0) rfl)).1,
    nf_InUse_module := (fd_of (c.at_ (f := fun K => fdB K (He.ga K "InUse") ["module", "version"]) 229) (List.mem_of_getElem? (i := 0) rfl)).2,
    tk_InUse_version := (fd_of (c.at_ (f := fun K => fdB K (He.ga K "InUse") ["module", "version"]) 229) (List.mem_of_getElem? (i := 1) rfl)).1,
    nf_InUse_version := (fd_of (c.at_ (f := fun K => fdB K (He.ga K "InUse") ["module", "version"]) 229) (List.mem_of_getElem? (i := 1) rfl)).2,
    kr_InUse := kr_of (c.at_ (f := fun K => kiB K (He.ga K "InUse") (rowL (kiLH K) 2336999079936)) 230),
    iC_NameTaken := met_of (c.at_ (f := metB "NameTaken" "__init__") 28),
    tI_NameTaken := ty_of (c.at_ (f := fun K => tyB K (He.fAd K ("NameTaken", some "__init__"))) 235),
    tk_NameTaken_value := (fd_of (c.at_ (f := fun K => fdB K (He.ga K "NameTaken") ["value"]) 233) (List.mem_of_getElem? (i := 0) rfl)).1,
    nf_NameTaken_value := (fd_of (c.at_ (f := fun K => fdB K (He.ga K "NameTaken") ["value"]) 233) (List.mem_of_getElem? (i := 0) rfl)).2,
    kr_NameTaken := kr_of (c.at_ (f := fun K => kiB K (He.ga K "NameTaken") (rowL (kiLH K) 2337535950848)) 234),
    xin_NothingToUndo := (c.at_ (f := fun K => PySem.W.excIn K (He.ga K "NothingToUndo") (tailOf "RuntimeError") "RuntimeError.__new__") 238),
    kr_NothingToUndo := kr_of (c.at_ (f := fun K => kiB K (He.ga K "NothingToUndo") (rowL (kiLH K) 2338609692672)) 237),
    xin_LimitReached := (c.at_ (f := fun K => PySem.W.excIn K (He.ga K "LimitReached") (tailOf "ArithmeticError") "ArithmeticError.__new__") 242),
    kr_LimitReached := kr_of (c.at_ (f := fun K => kiB K (He.ga K "LimitReached") (rowL (kiLH K) 4672924418048)) 240),
    iC_TooMany := met_of (c.at_ (f := metB "TooMany" "__init__") 29),
    tI_TooMany := ty_of (c.at_ (f := fun K => tyB K (He.fAd K ("TooMany", some "__init__"))) 246),
    tk_TooMany_kind := (fd_of (c.at_ (f := fun K => fdB K (He.ga K "TooMany") ["kind", "limit"]) 244) (List.mem_of_getElem? (i := 0) rfl)).1,
    nf_TooMany_kind := (fd_of (c.at_ (f := fun K => fdB K (He.ga K "TooMany") ["kind", "limit"]) 244) (List.mem_of_getElem? (i := 0) rfl)).2,
    tk_TooMany_limit := (fd_of (c.at_ (f := fun K => fdB K (He.ga K "TooMany") ["kind", "limit"]) 244) (List.mem_of_getElem? (i := 1) rfl)).1,
    nf_TooMany_limit := (fd_of (c.at_ (f := fun K => fdB K (He.ga K "TooMany") ["kind", "limit"]) 244) (List.mem_of_getElem? (i := 1) rfl)).2,
    kr_TooMany := kr_of (c.at_ (f := fun K => kiB K (He.ga K "TooMany") (rowL (kiLH K) 4677219385344)) 245),
    iC_NoState := met_of (c.at_ (f := metB "NoState" "__init__") 30),
    tI_NoState := ty_of (c.at_ (f := fun K => tyB K (He.fAd K ("NoState", some "__init__"))) 250),
    tk_NoState_chain := (fd_of (c.at_ (f := fun K => fdB K (He.ga K "NoState") ["chain"]) 248) (List.mem_of_getElem? (i := 0) rfl)).1,
    nf_NoState_chain := (fd_of (c.at_ (f := fun K => fdB K (He.ga K "NoState") ["chain"]) 248) (List.mem_of_getElem? (i := 0) rfl)).2,
    kr_NoState := kr_of (c.at_ (f := fun K => kiB K (He.ga K "NoState") (rowL (kiLH K) 4681514352640)) 249),
    iC_Unreachable := met_of (c.at_ (f := metB "Unreachable" "__init__") 31),
    tI_Unreachable := ty_of (c.at_ (f := fun K => tyB K (He.fAd K ("Unreachable", some "__init__"))) 254),
    tk_Unreachable_chain := (fd_of (c.at_ (f := fun K => fdB K (He.ga K "Unreachable") ["chain"]) 252) (List.mem_of_getElem? (i := 0) rfl)).1,
    nf_Unreachable_chain := (fd_of (c.at_ (f := fun K => fdB K (He.ga K "Unreachable") ["chain"]) 252) (List.mem_of_getElem? (i := 0) rfl)).2,
    kr_Unreachable := kr_of (c.at_ (f := fun K => kiB K (He.ga K "Unreachable") (rowL (kiLH K) 4690104287232)) 253) }
  exact ⟨_, [], sp_law K, fun q hq => (nomatch hq), binds_one D44.F (fun _ _ _ _ _ _ _ => rfl), fun H a ns hl hb _ hS => sp_law_of hl hb hS, fun base _ _ _ => ok_law T⟩
end
end KX
namespace KX
open PySem PySem.Spec PyProof.Rows L2
abbrev hkH : PySem.W.Hook := hookH 4 faL fnL tbL
def obH (s : PySem.W.SharedT) : He.AlD := obsH 4 faL fnL tbL (HandSHeadRun.getT s)
theorem obH_eq (s : PySem.W.SharedT) : obH s = hkH.obs s.abs := obsH_eq (HandSHeadRun.getT_eq s)
theorem runH (w : World) : HandSHeadRun.RunEq RH (PySem.W.view RH.prog [53]) hkH obH 20000 nmL w := run_of (runS w) fun os => obs_run (all_run (runF0 w os) (all_run (runF1 w os) (all_run (runF2 w os) (runF3 w os)))) (runD w os)
end KX
open PySem PySem.W PySem.Calls PyProof.Rows
set_option maxHeartbeats 0 in
theorem PySem.Challenge.cw_groupsteps_k15_errors_created_holds : PySem.Challenge.rw_groupsteps_k15_errors_created.Holds := by
  w_on; o_law
  refine HandSHeadRun.head_any (r := OpenLaw.row PySem.Challenge.rw_groupsteps_k15_errors_created) (q := view (OpenLaw.row PySem.Challenge.rw_groupsteps_k15_errors_created).prog [53]) (H := KX.hkH) (ob := KX.obH) (M := 20000) (loose := KX.nmL) (d := HandSHeadRun.topDef (OpenLaw.row PySem.Challenge.rw_groupsteps_k15_errors_created).prog 53) (kwd := []) KX.obH_eq
    (by kernel_rfl) (fun s => by kernel_rfl) KX.runH (by kernel_rfl) (by kernel_rfl) (by kernel_rfl) (by rfl) (by first | assumption | decide +kernel) (by decide +kernel) ⟨rfl, rfl, rfl, rfl, rfl, by decide +kernel⟩ ?hw ?hc
  case hw => w_witness2
  case hc =>
    refine KX.walkGE (l := PySem.Challenge.rw_groupsteps_k15_errors_created) (n := 63) (k := 4) (x := "_law_script") (CX := fun _ => L2.CX0) rfl (by decide) (by kernel_rfl) ⟨rfl, by decide, by decide⟩ ?F (fun _ _ _ _ _ z => z)
    intro w mg fa h Y G hmg0
    obtain ⟨K, c⟩ := Y
    have hmg : mg ("law" : PySem.Str) = some (.ref fa) := by
      have e : (HandSHeadRun.topDef (OpenLaw.row PySem.Challenge.rw_groupsteps_k15_errors_created).prog 53).name = ("law" : PySem.Str) := by kernel_rfl
      rw [← e]
      exact hmg0
    exact ⟨K, c.inK, KX.facts G hmg c⟩

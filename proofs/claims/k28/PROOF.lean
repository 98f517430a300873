import PyProof.Rows.All
import Wide.All
import OpenK.AllK
import Wide.FinOn
import HandS.ForMost
import HandS.Defaults
import HandS.Head0
import HandS.Head1
import HandS.Head2
import HandS.HeadHook1
import HandS.HeadHook2
import KE.KExcInit
import KE.KIsAll
import KE.KNestM
import HandS.IsInst
import HandS.WideBits
import HandS.Wide
import HandS.Flow
import HandS.RaiseMore
import HandS.EndBits
import HandS.ForExc
import HandS.ExcInit
import HandS.ExcIs
import HandS.ExcField
import HandS.TryMany
import KE.KExcIs
import KE.KExcLine
import KE.RegKIsAll
import HandS.FStr
import HandS.Style
import HandS.Codes
import KE.KRevSl
import KE.GoesEnum
import KE.KDictZip
import HandS.Walk
import HandS.ExcValue
import HandS.TryOnly
import HandS.Lambda
import HandS.WordsExc
import KE.KLam
import HandS.TupAny
import HandS.RevTup
import HandS.DictComp
import HandS.SetBool
import HandS.SetKeys
import KE.KDictOf
import HandS.Zip
import HandS.WordsDict
import HandS.Iter
import HandS.Finally
import HandS.Small
import HandS.More
import KE.GoesMore
import HandS.Conv
import HandS.SetFor
import HandS.GenList
import KE.KDictList
import HandS.Deep
import HandS.DictTup
import HandS.DictEq
import KE.KItemsList
import KE.KDictWalk
import HandS.DeepEq
import PySem.Challenge.RW_groupsteps_k28_greatest_catalogs
set_option Elab.async false
set_option linter.all false
set_option maxRecDepth 100000
set_option maxHeartbeats 4000000
namespace KX
open PySem PySem.Spec PyProof.Rows L2
/-! ### what the run of the head is asked: truth values over the part that the names reach -/
abbrev tailOf (B : String) : List Value := [.type B, .type "Exception", .type "BaseException", .type "object"]
def tabOf (K : PySem.W.Frag) (c : Addr) : Addr := match K.lookup c with
  | some ⟨_, _, .fields vs, _⟩ => (match (vs[11]? : Option Value) with | some (.ref P) => P | _ => 0)
  | _ => 0
abbrev tabO : Obj := { cls := .none, data := .fields #[] }
def exB (K : PySem.W.Frag) (C : Addr) (n : String) (tl : List Value) : Bool := PySem.W.excInitIn K C tl n && (PySem.W.excOver K C tl && (PySem.W.hasDictIn K C && (PySem.W.keepIn K (.ref C) &&
  (PySem.W.findIn K (.ref C) "__setattr__" == some (some (.builtin "object.__setattr__")) && (PySem.W.subIn K (.ref C) (.type "BaseException") == some true && (PySem.W.typeIn K (.ref C) == some (.type "type") &&
  (PySem.W.findIn K (.ref C) "__getattribute__" == some (some (.builtin "BaseException.__getattribute__")) && (PySem.W.findIn K (.ref C) "__getattr__" == some none &&
  (PySem.W.findIn K (.ref C) "__class__" == some (some (.builtin "object.__class__")) && PySem.W.mroIn K C (.type "object") == some true)))))))))
def fdB (K : PySem.W.Frag) (C : Addr) (fs : List Str) : Bool := fs.all fun f => PySem.W.takerIn K C f == some none && PySem.W.findIn K (.ref C) f == some none
def suB (K : PySem.W.Frag) (C : Addr) (l : List (Value × Bool)) : Bool := l.all fun p => PySem.W.subIn K (.ref C) p.1 == some p.2
def kiB (K : PySem.W.Frag) (C : Addr) (l : List (Value × Bool)) : Bool := l.all fun p => PySem.W.kitOne K (.ref C) p.1 == some p.2
/-- a row of truth values, told by a number -/
def bits : Nat → Nat → List Bool
  | 0, _ => []
  | n + 1, m => (m % 2 == 1) :: bits n (m / 2)
def rowL (L : List Value) (m : Nat) : List (Value × Bool) := L.zip (bits L.length m)
def tyB (K : PySem.W.Frag) (f : Addr) : Bool := PySem.W.typeIn K (.ref f) == some (.type "function")
def sysB : PySem.W.Frag → Bool := fun K => match K.lookup sysModules with
  | some o => !(o.cls == Value.type "list")
  | none => false
def emptyB : Obj → Bool
  | ⟨.none, none, .fields vs, sl⟩ => vs.isEmpty && sl.isEmpty
  | _ => false
def frH (g : Addr → Option Obj) (as : List Addr) : PySem.W.Frag := (He.frG g as).filter fun p => !emptyB p.2
/-- the code object of the def at f -/
def codeAt (K : PySem.W.Frag) (f : Addr) : Addr := match K.lookup f with
  | some ⟨_, _, .func fd, _⟩ => (match fd.code with | .ref c => c | _ => 0)
  | _ => 0
abbrev Fc := PySem.W.Frag → Bool
/-- the code object of a def that makes lambdas, its table -/
def mkT (K : PySem.W.Frag) (p : Str × Option Str) : Addr × Addr := (codeAt K (He.fAd K p), tabOf K (codeAt K (He.fAd K p)))
def tbB (g : Addr → Option Obj) (K : PySem.W.Frag) (p : Str × Option Str) : Bool := PySem.W.codeHdIn K (mkT K p).1 (mkT K p).2 && ((K.lookup (mkT K p).2).isNone && (match g (mkT K p).2 with
  | some o => emptyB o
  | none => false))
def obsH (n : Nat) (fa : List Fc) (fn : List He.DefD) (tb : List (Str × Option Str)) (g : Addr → Option Obj) : He.AlD :=
  let K := frH g (sysModules :: cStatics :: He.asD g n)
  ((fa.all fun f => f K) && ((fn.all fun d => d.ok K) && tb.all fun p => tbB g K p), fn.map fun d => He.fnW K d.at_)
/-- what the Hook looks at, but the facts -/
def defsH (n : Nat) (fn : List He.DefD) (tb : List (Str × Option Str)) (g : Addr → Option Obj) : He.AlD :=
  let K := frH g (sysModules :: cStatics :: He.asD g n)
  ((fn.all fun d => d.ok K) && tb.all fun p => tbB g K p, fn.map fun d => He.fnW K d.at_)
def gloB (x : Str) (f : PySem.W.Frag → Addr) : Fc := fun K => PySem.W.nsIn K mainGlobals x == some (some (.ref (f K)))
def freeB (x : Str) : Fc := fun K => PySem.W.nsIn K mainGlobals x == some none
def tokOf (K : PySem.W.Frag) (x : Str) : Tok := match PySem.W.nsIn K mainGlobals x with
  | some (some (.int _ t)) => t
  | some (some (.str _ t)) => t
  | _ => default
def intB (x : Str) (i : Int) : Fc := fun K => PySem.W.nsIn K mainGlobals x == some (some (.int i (tokOf K x)))
def strB (x z : Str) : Fc := fun K => PySem.W.nsIn K mainGlobals x == some (some (.str z (tokOf K x)))
def metB (C : Str) (m : Str) : Fc := fun K => PySem.W.findIn K (.ref (He.ga K C)) m == some (some (.ref (He.fAd K (C, some m))))
def ibB (K : PySem.W.Frag) (C : Addr) (i : String) : Bool := PySem.W.specialIn K (.ref C) "__getattribute__" == some (some (.builtin "type.__getattribute__")) && (PySem.W.readsIn K C (.type "type") && (match PySem.W.findCls K (.ref C) (.type "type") "__init__" with
  | some (.val (.builtin s)) => s == i
  | _ => false))
/-- an own class that is no exception -/
def icB (K : PySem.W.Frag) (C : Addr) : Bool := PySem.W.findIn K (.ref C) "__class__" == some (some (.builtin "object.__class__")) && (PySem.W.specialIn K (.builtin "object.__class__") "__get__" == some (some (.builtin "getset_descriptor.__get__")) && (PySem.W.takesIn K (.builtin "object.__class__") == some true && (PySem.W.mroIn K C (.type "object") == some true && PySem.W.kitOne K (.ref C) (.ref C) == some true)))
def clsB (K : PySem.W.Frag) (C : Addr) : Bool := PySem.W.plainGet K C Str.empty && (PySem.W.hasDictIn K C && (PySem.W.plainOver K C && (PySem.W.findIn K (.ref C) "__setattr__" == some (some (.builtin "object.__setattr__")) && (PySem.W.makesIn K C && PySem.W.keepIn K (.ref C)))))
def naB (K : PySem.W.Frag) (C : Addr) (fs : List Str) : Bool := fs.all fun f => PySem.W.findIn K (.ref C) f == some none
def cgB : Fc := fun K => PySem.W.specialIn K (.builtin "object.__class__") "__get__" == some (some (.builtin "getset_descriptor.__get__")) && PySem.W.takesIn K (.builtin "object.__class__") == some true
end KX

namespace KX
open PySem PySem.Spec PyProof.Rows L2




def topS (i : Nat) : Stmt := PySem.Challenge.pw_groupsteps_k28_greatest_catalogs.main.body.getD i (.Pass ⟨0, 0, 0, 0⟩)
abbrev s_InvalidNamex_initx : Stmt := inClass (topS 3) 0
abbrev s_InvalidWindowx_initx : Stmt := inClass (topS 4) 0
abbrev s_InvalidWindowsx_initx : Stmt := inClass (topS 5) 0
abbrev s_InvalidUsesx_initx : Stmt := inClass (topS 6) 0
abbrev s_UnknownModulex_initx : Stmt := inClass (topS 8) 0
abbrev s_UnknownUsex_initx : Stmt := inClass (topS 9) 0
abbrev s_UnknownVersionx_initx : Stmt := inClass (topS 10) 0
abbrev s_NotRisingx_initx : Stmt := inClass (topS 12) 0
abbrev s_TooManyx_initx : Stmt := inClass (topS 14) 0
abbrev s_NoStatex_initx : Stmt := inClass (topS 15) 0
abbrev s_is_integer : Stmt := topS 19
abbrev s_is_name : Stmt := topS 20
abbrev s_is_version : Stmt := topS 21
abbrev s_is_window : Stmt := topS 23
abbrev s_require_window : Stmt := topS 24
abbrev s_reaches : Stmt := topS 25
abbrev s_rises : Stmt := topS 26
abbrev s_is_row_of_names : Stmt := topS 31
abbrev s_check_uses : Stmt := topS 32
abbrev s_check_new_windows : Stmt := topS 33
abbrev s_Catalogx_initx : Stmt := inClass (topS 34) 0
abbrev s_Catalog_modules : Stmt := inClass (topS 34) 1
abbrev s_Catalog_uses : Stmt := inClass (topS 34) 2
abbrev s_Catalog_versions : Stmt := inClass (topS 34) 4
abbrev s_Catalog_publish : Stmt := inClass (topS 34) 5
abbrev s_Catalog_withdraw : Stmt := inClass (topS 34) 6
abbrev s_Catalog_window : Stmt := inClass (topS 34) 7
abbrev s_Catalog_is_available : Stmt := inClass (topS 34) 8
abbrev s_Catalog_available : Stmt := inClass (topS 34) 9
abbrev s_Catalog_clone : Stmt := inClass (topS 34) 11
abbrev s_Catalogx_eqx : Stmt := inClass (topS 34) 12
abbrev s_Catalogx_lenx : Stmt := inClass (topS 34) 13
abbrev s_require_module : Stmt := topS 35
abbrev s_l_rng : Stmt := topS 37
abbrev s_l_draw : Stmt := topS 38
abbrev s_l_choice : Stmt := topS 39
abbrev s_l_shuffled : Stmt := topS 40
abbrev s_l_name : Stmt := topS 41
abbrev s_l_names : Stmt := topS 42
abbrev s_l_uses : Stmt := topS 43
abbrev s_l_told : Stmt := topS 44
abbrev s_l_filled : Stmt := topS 45
abbrev s_l_right : Stmt := topS 46
abbrev s_law : Stmt := topS 47
def fnL0 : List He.DefD := [⟨("InvalidName", some "__init__"), "__init__", "InvalidName.__init__", defArgs s_InvalidNamex_initx, defBody s_InvalidNamex_initx, defScope s_InvalidNamex_initx, [], []⟩,
  ⟨("InvalidWindow", some "__init__"), "__init__", "InvalidWindow.__init__", defArgs s_InvalidWindowx_initx, defBody s_InvalidWindowx_initx, defScope s_InvalidWindowx_initx, [], []⟩,
  ⟨("InvalidWindows", some "__init__"), "__init__", "InvalidWindows.__init__", defArgs s_InvalidWindowsx_initx, defBody s_InvalidWindowsx_initx, defScope s_InvalidWindowsx_initx, [], []⟩,
  ⟨("InvalidUses", some "__init__"), "__init__", "InvalidUses.__init__", defArgs s_InvalidUsesx_initx, defBody s_InvalidUsesx_initx, defScope s_InvalidUsesx_initx, [], []⟩,
  ⟨("UnknownModule", some "__init__"), "__init__", "UnknownModule.__init__", defArgs s_UnknownModulex_initx, defBody s_UnknownModulex_initx, defScope s_UnknownModulex_initx, [], []⟩,
  ⟨("UnknownUse", some "__init__"), "__init__", "UnknownUse.__init__", defArgs s_UnknownUsex_initx, defBody s_UnknownUsex_initx, defScope s_UnknownUsex_initx, [], []⟩,
  ⟨("UnknownVersion", some "__init__"), "__init__", "UnknownVersion.__init__", defArgs s_UnknownVersionx_initx, defBody s_UnknownVersionx_initx, defScope s_UnknownVersionx_initx, [], []⟩,
  ⟨("NotRising", some "__init__"), "__init__", "NotRising.__init__", defArgs s_NotRisingx_initx, defBody s_NotRisingx_initx, defScope s_NotRisingx_initx, [], []⟩,
  ⟨("TooMany", some "__init__"), "__init__", "TooMany.__init__", defArgs s_TooManyx_initx, defBody s_TooManyx_initx, defScope s_TooManyx_initx, [], []⟩,
  ⟨("NoState", some "__init__"), "__init__", "NoState.__init__", defArgs s_NoStatex_initx, defBody s_NoStatex_initx, defScope s_NoStatex_initx, [], []⟩,
  ⟨("is_integer", none), "is_integer", "is_integer", defArgs s_is_integer, defBody s_is_integer, defScope s_is_integer, [], []⟩,
  ⟨("is_name", none), "is_name", "is_name", defArgs s_is_name, defBody s_is_name, defScope s_is_name, [], []⟩,
  ⟨("is_version", none), "is_version", "is_version", defArgs s_is_version, defBody s_is_version, defScope s_is_version, [], []⟩,
  ⟨("is_window", none), "is_window", "is_window", defArgs s_is_window, defBody s_is_window, defScope s_is_window, [], []⟩,
  ⟨("require_window", none), "require_window", "require_window", defArgs s_require_window, defBody s_require_window, defScope s_require_window, [], []⟩,
  ⟨("reaches", none), "reaches", "reaches", defArgs s_reaches, defBody s_reaches, defScope s_reaches, [], []⟩,
  ⟨("rises", none), "rises", "rises", defArgs s_rises, defBody s_rises, defScope s_rises, [], []⟩,
  ⟨("is_row_of_names", none), "is_row_of_names", "is_row_of_names", defArgs s_is_row_of_names, defBody s_is_row_of_names, defScope s_is_row_of_names, [], []⟩,
  ⟨("check_uses", none), "check_uses", "check_uses", defArgs s_check_uses, defBody s_check_uses, defScope s_check_uses, [], []⟩,
  ⟨("check_new_windows", none), "check_new_windows", "check_new_windows", defArgs s_check_new_windows, defBody s_check_new_windows, defScope s_check_new_windows, [], []⟩]
def fnL1 : List He.DefD := [⟨("Catalog", some "__init__"), "__init__", "Catalog.__init__", defArgs s_Catalogx_initx, defBody s_Catalogx_initx, defScope s_Catalogx_initx, [], []⟩,
  ⟨("Catalog", some "modules"), "modules", "Catalog.modules", defArgs s_Catalog_modules, defBody s_Catalog_modules, defScope s_Catalog_modules, [], []⟩,
  ⟨("Catalog", some "uses"), "uses", "Catalog.uses", defArgs s_Catalog_uses, defBody s_Catalog_uses, defScope s_Catalog_uses, [], []⟩,
  ⟨("Catalog", some "versions"), "versions", "Catalog.versions", defArgs s_Catalog_versions, defBody s_Catalog_versions, defScope s_Catalog_versions, [], []⟩,
  ⟨("Catalog", some "publish"), "publish", "Catalog.publish", defArgs s_Catalog_publish, defBody s_Catalog_publish, defScope s_Catalog_publish, [], []⟩,
  ⟨("Catalog", some "withdraw"), "withdraw", "Catalog.withdraw", defArgs s_Catalog_withdraw, defBody s_Catalog_withdraw, defScope s_Catalog_withdraw, [], []⟩,
  ⟨("Catalog", some "window"), "window", "Catalog.window", defArgs s_Catalog_window, defBody s_Catalog_window, defScope s_Catalog_window, [], []⟩,
  ⟨("Catalog", some "is_available"), "is_available", "Catalog.is_available", defArgs s_Catalog_is_available, defBody s_Catalog_is_available, defScope s_Catalog_is_available, [], []⟩,
  ⟨("Catalog", some "available"), "available", "Catalog.available", defArgs s_Catalog_available, defBody s_Catalog_available, defScope s_Catalog_available, [], []⟩,
  ⟨("Catalog", some "clone"), "clone", "Catalog.clone", defArgs s_Catalog_clone, defBody s_Catalog_clone, defScope s_Catalog_clone, [], []⟩,
  ⟨("Catalog", some "__eq__"), "__eq__", "Catalog.__eq__", defArgs s_Catalogx_eqx, defBody s_Catalogx_eqx, defScope s_Catalogx_eqx, [], []⟩,
  ⟨("Catalog", some "__len__"), "__len__", "Catalog.__len__", defArgs s_Catalogx_lenx, defBody s_Catalogx_lenx, defScope s_Catalogx_lenx, [], []⟩,
  ⟨("require_module", none), "require_module", "require_module", defArgs s_require_module, defBody s_require_module, defScope s_require_module, [], []⟩,
  ⟨("_law_rng", none), "_law_rng", "_law_rng", defArgs s_l_rng, defBody s_l_rng, defScope s_l_rng, [], []⟩,
  ⟨("_law_draw", none), "_law_draw", "_law_draw", defArgs s_l_draw, defBody s_l_draw, defScope s_l_draw, [], []⟩,
  ⟨("_law_choice", none), "_law_choice", "_law_choice", defArgs s_l_choice, defBody s_l_choice, defScope s_l_choice, [], []⟩,
  ⟨("_law_shuffled", none), "_law_shuffled", "_law_shuffled", defArgs s_l_shuffled, defBody s_l_shuffled, defScope s_l_shuffled, [], []⟩,
  ⟨("_law_name", none), "_law_name", "_law_name", defArgs s_l_name, defBody s_l_name, defScope s_l_name, [], []⟩,
  ⟨("_law_names", none), "_law_names", "_law_names", defArgs s_l_names, defBody s_l_names, defScope s_l_names, [], []⟩,
  ⟨("_law_uses", none), "_law_uses", "_law_uses", defArgs s_l_uses, defBody s_l_uses, defScope s_l_uses, [], []⟩]
def fnL2 : List He.DefD := [⟨("_law_told", none), "_law_told", "_law_told", defArgs s_l_told, defBody s_l_told, defScope s_l_told, [], []⟩,
  ⟨("_law_filled", none), "_law_filled", "_law_filled", defArgs s_l_filled, defBody s_l_filled, defScope s_l_filled, [], []⟩,
  ⟨("_law_right", none), "_law_right", "_law_right", defArgs s_l_right, defBody s_l_right, defScope s_l_right, [], []⟩,
  ⟨("law", none), "law", "law", defArgs s_law, defBody s_law, defScope s_law, [], []⟩]
def fnL : List He.DefD := fnL0 ++ (fnL1 ++ (fnL2))
def tbL : List (Str × Option Str) := [("_law_right", none)]
def exL (K : PySem.W.Frag) : List Value := [.ref (He.ga K "TooMany"), .ref (He.ga K "NotRising"), .ref (He.ga K "InvalidWindows")]
def kiLH (K : PySem.W.Frag) : List Value := [.ref (He.ga K "GroupError"), .ref (He.ga K "Missing"), .ref (He.ga K "Refused"), .ref (He.ga K "NoState"), .type "ArithmeticError", .ref (He.ga K "LimitReached")]
def faL0 : List Fc := [metB "InvalidName" "__init__",
  metB "InvalidWindow" "__init__",
  metB "InvalidWindows" "__init__",
  metB "InvalidUses" "__init__",
  metB "UnknownModule" "__init__",
  metB "UnknownUse" "__init__",
  metB "UnknownVersion" "__init__",
  metB "NotRising" "__init__",
  metB "TooMany" "__init__",
  metB "NoState" "__init__",
  gloB "is_integer" (fun K => He.fAd K ("is_integer", none)),
  gloB "is_name" (fun K => He.fAd K ("is_name", none)),
  gloB "is_version" (fun K => He.fAd K ("is_version", none)),
  gloB "is_window" (fun K => He.fAd K ("is_window", none)),
  gloB "require_window" (fun K => He.fAd K ("require_window", none)),
  gloB "reaches" (fun K => He.fAd K ("reaches", none)),
  gloB "rises" (fun K => He.fAd K ("rises", none)),
  gloB "is_row_of_names" (fun K => He.fAd K ("is_row_of_names", none)),
  gloB "check_uses" (fun K => He.fAd K ("check_uses", none)),
  gloB "check_new_windows" (fun K => He.fAd K ("check_new_windows", none)),
  metB "Catalog" "__init__",
  metB "Catalog" "modules",
  metB "Catalog" "uses",
  metB "Catalog" "versions",
  metB "Catalog" "publish",
  metB "Catalog" "withdraw",
  metB "Catalog" "window",
  metB "Catalog" "is_available",
  metB "Catalog" "available",
  metB "Catalog" "clone",
  metB "Catalog" "__eq__",
  metB "Catalog" "__len__",
  gloB "require_module" (fun K => He.fAd K ("require_module", none)),
  gloB "_law_rng" (fun K => He.fAd K ("_law_rng", none)),
  gloB "_law_draw" (fun K => He.fAd K ("_law_draw", none)),
  gloB "_law_choice" (fun K => He.fAd K ("_law_choice", none)),
  gloB "_law_shuffled" (fun K => He.fAd K ("_law_shuffled", none)),
  gloB "_law_name" (fun K => He.fAd K ("_law_name", none)),
  gloB "_law_names" (fun K => He.fAd K ("_law_names", none)),
  gloB "_law_uses" (fun K => He.fAd K ("_law_uses", none)),
  gloB "_law_told" (fun K => He.fAd K ("_law_told", none)),
  gloB "_law_filled" (fun K => He.fAd K ("_law_filled", none)),
  gloB "_law_right" (fun K => He.fAd K ("_law_right", none)),
  gloB "law" (fun K => He.fAd K ("law", none)),
  strB "LETTERS" "abcdefghijklmnopqrstuvwxyz",
  intB "MAX_LETTERS" (8),
  intB "MOST_MODULES" (12),
  intB "MOST_VERSIONS" (16),
  intB "MOST_USES" (40),
  freeB "ArithmeticError",
  freeB "abs",
  freeB "all",
  freeB "bool",
  freeB "dict",
  freeB "divmod",
  freeB "enumerate",
  freeB "int",
  freeB "isinstance",
  freeB "len",
  freeB "list",
  freeB "max",
  freeB "min",
  freeB "range",
  freeB "repr",
  freeB "str",
  freeB "sum",
  freeB "tuple",
  freeB "zip",
  gloB "GroupError" (fun K => He.ga K "GroupError"),
  gloB "InvalidName" (fun K => He.ga K "InvalidName"),
  gloB "InvalidWindow" (fun K => He.ga K "InvalidWindow"),
  gloB "InvalidWindows" (fun K => He.ga K "InvalidWindows"),
  gloB "InvalidUses" (fun K => He.ga K "InvalidUses"),
  gloB "Missing" (fun K => He.ga K "Missing"),
  gloB "UnknownModule" (fun K => He.ga K "UnknownModule"),
  gloB "UnknownUse" (fun K => He.ga K "UnknownUse"),
  gloB "UnknownVersion" (fun K => He.ga K "UnknownVersion"),
  gloB "Refused" (fun K => He.ga K "Refused"),
  gloB "NotRising" (fun K => He.ga K "NotRising"),
  gloB "LimitReached" (fun K => He.ga K "LimitReached")]
def faL1 : List Fc := [gloB "TooMany" (fun K => He.ga K "TooMany"),
  gloB "NoState" (fun K => He.ga K "NoState"),
  gloB "Catalog" (fun K => He.ga K "Catalog"),
  fun K => clsB K (He.ga K "Catalog"),
  fun K => icB K (He.ga K "Catalog"),
  fun K => PySem.W.findIn K (.ref (He.ga K "Catalog")) "__ne__" == some (some (.builtin "object.__ne__")),
  fun K => naB K (He.ga K "Catalog") ["use_table", "window_table", "count_table", "withdrawn_table", "record"],
  fun K => tyB K (He.fAd K ("Catalog", some "__init__")),
  fun K => tyB K (He.fAd K ("Catalog", some "modules")),
  fun K => tyB K (He.fAd K ("Catalog", some "uses")),
  fun K => tyB K (He.fAd K ("Catalog", some "versions")),
  fun K => tyB K (He.fAd K ("Catalog", some "publish")),
  fun K => tyB K (He.fAd K ("Catalog", some "withdraw")),
  fun K => tyB K (He.fAd K ("Catalog", some "window")),
  fun K => tyB K (He.fAd K ("Catalog", some "is_available")),
  fun K => tyB K (He.fAd K ("Catalog", some "available")),
  fun K => tyB K (He.fAd K ("Catalog", some "clone")),
  fun K => tyB K (He.fAd K ("Catalog", some "__eq__")),
  fun K => tyB K (He.fAd K ("Catalog", some "__len__")),
  sysB,
  cgB,
  fun K => exB K (He.ga K "GroupError") "ValueError.__new__" (tailOf "ValueError"),
  fun K => suB K (He.ga K "GroupError") (rowL (exL K) 0),
  fun K => kiB K (He.ga K "GroupError") (rowL (kiLH K) 1),
  fun K => ibB K (He.ga K "GroupError") "ValueError.__init__",
  fun K => exB K (He.ga K "InvalidName") "ValueError.__new__" (tailOf "ValueError"),
  fun K => fdB K (He.ga K "InvalidName") ["value"],
  fun K => suB K (He.ga K "InvalidName") (rowL (exL K) 0),
  fun K => kiB K (He.ga K "InvalidName") (rowL (kiLH K) 1),
  fun K => tyB K (He.fAd K ("InvalidName", some "__init__")),
  fun K => exB K (He.ga K "InvalidWindow") "ValueError.__new__" (tailOf "ValueError"),
  fun K => fdB K (He.ga K "InvalidWindow") ["value"],
  fun K => suB K (He.ga K "InvalidWindow") (rowL (exL K) 0),
  fun K => kiB K (He.ga K "InvalidWindow") (rowL (kiLH K) 1),
  fun K => tyB K (He.fAd K ("InvalidWindow", some "__init__")),
  fun K => exB K (He.ga K "InvalidWindows") "ValueError.__new__" (tailOf "ValueError"),
  fun K => fdB K (He.ga K "InvalidWindows") ["position"],
  fun K => suB K (He.ga K "InvalidWindows") (rowL (exL K) 4),
  fun K => kiB K (He.ga K "InvalidWindows") (rowL (kiLH K) 1),
  fun K => tyB K (He.fAd K ("InvalidWindows", some "__init__")),
  fun K => exB K (He.ga K "InvalidUses") "ValueError.__new__" (tailOf "ValueError"),
  fun K => fdB K (He.ga K "InvalidUses") ["module"],
  fun K => suB K (He.ga K "InvalidUses") (rowL (exL K) 0),
  fun K => kiB K (He.ga K "InvalidUses") (rowL (kiLH K) 1),
  fun K => tyB K (He.fAd K ("InvalidUses", some "__init__")),
  fun K => exB K (He.ga K "Missing") "LookupError.__new__" (tailOf "LookupError"),
  fun K => suB K (He.ga K "Missing") (rowL (exL K) 0),
  fun K => kiB K (He.ga K "Missing") (rowL (kiLH K) 2),
  fun K => ibB K (He.ga K "Missing") "LookupError.__init__",
  fun K => exB K (He.ga K "UnknownModule") "LookupError.__new__" (tailOf "LookupError"),
  fun K => fdB K (He.ga K "UnknownModule") ["value"],
  fun K => suB K (He.ga K "UnknownModule") (rowL (exL K) 0),
  fun K => kiB K (He.ga K "UnknownModule") (rowL (kiLH K) 2),
  fun K => tyB K (He.fAd K ("UnknownModule", some "__init__")),
  fun K => exB K (He.ga K "UnknownUse") "LookupError.__new__" (tailOf "LookupError"),
  fun K => fdB K (He.ga K "UnknownUse") ["user", "used"],
  fun K => suB K (He.ga K "UnknownUse") (rowL (exL K) 0),
  fun K => kiB K (He.ga K "UnknownUse") (rowL (kiLH K) 2),
  fun K => tyB K (He.fAd K ("UnknownUse", some "__init__")),
  fun K => exB K (He.ga K "UnknownVersion") "LookupError.__new__" (tailOf "LookupError"),
  fun K => fdB K (He.ga K "UnknownVersion") ["module", "version"],
  fun K => suB K (He.ga K "UnknownVersion") (rowL (exL K) 0),
  fun K => kiB K (He.ga K "UnknownVersion") (rowL (kiLH K) 2),
  fun K => tyB K (He.fAd K ("UnknownVersion", some "__init__")),
  fun K => exB K (He.ga K "Refused") "RuntimeError.__new__" (tailOf "RuntimeError"),
  fun K => suB K (He.ga K "Refused") (rowL (exL K) 0),
  fun K => kiB K (He.ga K "Refused") (rowL (kiLH K) 4),
  fun K => ibB K (He.ga K "Refused") "RuntimeError.__init__",
  fun K => exB K (He.ga K "NotRising") "RuntimeError.__new__" (tailOf "RuntimeError"),
  fun K => fdB K (He.ga K "NotRising") ["user", "used"],
  fun K => suB K (He.ga K "NotRising") (rowL (exL K) 2),
  fun K => kiB K (He.ga K "NotRising") (rowL (kiLH K) 4),
  fun K => tyB K (He.fAd K ("NotRising", some "__init__")),
  fun K => exB K (He.ga K "LimitReached") "ArithmeticError.__new__" (tailOf "ArithmeticError"),
  fun K => suB K (He.ga K "LimitReached") (rowL (exL K) 0),
  fun K => kiB K (He.ga K "LimitReached") (rowL (kiLH K) 48),
  fun K => ibB K (He.ga K "LimitReached") "ArithmeticError.__init__",
  fun K => exB K (He.ga K "TooMany") "ArithmeticError.__new__" (tailOf "ArithmeticError"),
  fun K => fdB K (He.ga K "TooMany") ["kind", "limit"],
  fun K => suB K (He.ga K "TooMany") (rowL (exL K) 1)]
def faL2 : List Fc := [fun K => kiB K (He.ga K "TooMany") (rowL (kiLH K) 48),
  fun K => tyB K (He.fAd K ("TooMany", some "__init__")),
  fun K => exB K (He.ga K "NoState") "ArithmeticError.__new__" (tailOf "ArithmeticError"),
  fun K => fdB K (He.ga K "NoState") ["chain"],
  fun K => suB K (He.ga K "NoState") (rowL (exL K) 0),
  fun K => kiB K (He.ga K "NoState") (rowL (kiLH K) 56),
  fun K => tyB K (He.fAd K ("NoState", some "__init__"))]
def faL : List Fc := faL0 ++ (faL1 ++ (faL2))
def nmL0 : List PySem.Str := ["_wall", "GroupError", "InvalidName", "InvalidWindow", "InvalidWindows", "InvalidUses", "Missing", "UnknownModule", "UnknownUse", "UnknownVersion", "Refused", "NotRising", "LimitReached", "TooMany", "NoState", "LETTERS", "MAX_LETTERS", "is_integer", "is_name", "is_version"]
def nmL1 : List PySem.Str := ["is_window", "require_window", "reaches", "rises", "MOST_MODULES", "MOST_VERSIONS", "MOST_USES", "is_row_of_names", "check_uses", "check_new_windows", "Catalog", "require_module", "_law_rng", "_law_draw", "_law_choice", "_law_shuffled", "_law_name", "_law_names", "_law_uses", "_law_told"]
def nmL2 : List PySem.Str := ["_law_filled", "_law_right"]
def nmL : List PySem.Str := nmL0 ++ (nmL1 ++ (nmL2))
abbrev RH : PySem.W.OpenRow := PySem.W.OpenLaw.row PySem.Challenge.rw_groupsteps_k28_greatest_catalogs
set_option maxHeartbeats 0 in
theorem runF0 (w : World) (os : OsState) : ((HandSHeadRun.endF (HandSHeadRun.stepQ (HandSHeadRun.denQ HandSHeadRun.tabQ) RH.prog w) 20000 RH.prog w os).map fun s => faL0.all fun f => f (frH (HandSHeadRun.getT s) (sysModules :: cStatics :: He.asD (HandSHeadRun.getT s) 4))) = some true := by kernel_rfl
set_option maxHeartbeats 0 in
theorem runF1 (w : World) (os : OsState) : ((HandSHeadRun.endF (HandSHeadRun.stepQ (HandSHeadRun.denQ HandSHeadRun.tabQ) RH.prog w) 20000 RH.prog w os).map fun s => faL1.all fun f => f (frH (HandSHeadRun.getT s) (sysModules :: cStatics :: He.asD (HandSHeadRun.getT s) 4))) = some true := by kernel_rfl
set_option maxHeartbeats 0 in
theorem runF2 (w : World) (os : OsState) : ((HandSHeadRun.endF (HandSHeadRun.stepQ (HandSHeadRun.denQ HandSHeadRun.tabQ) RH.prog w) 20000 RH.prog w os).map fun s => faL2.all fun f => f (frH (HandSHeadRun.getT s) (sysModules :: cStatics :: He.asD (HandSHeadRun.getT s) 4))) = some true := by kernel_rfl
set_option maxHeartbeats 0 in
theorem runD (w : World) (os : OsState) : ((HandSHeadRun.endF (HandSHeadRun.stepQ (HandSHeadRun.denQ HandSHeadRun.tabQ) RH.prog w) 20000 RH.prog w os).map fun s => defsH 4 fnL tbL (HandSHeadRun.getT s)) = some (He.valD fnL) := by kernel_rfl
set_option maxHeartbeats 0 in
theorem runS (w : World) (os : OsState) : ((HandSHeadRun.endF (HandSHeadRun.stepQ (HandSHeadRun.denQ HandSHeadRun.tabQ) RH.prog w) 20000 RH.prog w os).map fun s => (HandSHeadRun.looksF RH.prog (PySem.W.boot_heap w.params) s.abs, HandSHeadRun.seenQ (PySem.W.view RH.prog [47]) nmL (importedModules RH.prog.main.body) (fun s => PySem.W.xlAt (PySem.W.view RH.prog [47]) [] s && PySem.W.recOk RH.toRowW.records s) s.abs)) = some (true, PySem.W.openGood (PySem.W.view RH.prog [47]) nmL) := by kernel_rfl
end KX

namespace KX
open PySem PySem.Spec PyProof.Rows L2

/-! ### calls where the frames' guards are told (repr of containers asks for them) -/
structure Rg (k : Nat) (A : Around) : Prop where
  room : Room k A
  gd : A.guards = some []
theorem Rg.mono {j k : Nat} {A : Around} (r : Rg k A) (h : j ≤ k) : Rg j A := ⟨r.room.mono h, r.gd⟩
theorem Rg.deeper {k : Nat} {A : Around} (r : Rg (k + 1) A) (env : Env) : Rg k (A.deeper env) := ⟨r.room.deeper env, r.gd⟩

structure Fg (P : Program) (w : World) (K : PySem.W.Frag) (mg : Str → Option Value) (base : Heap) (CX : CXT) (k : Nat) (f : Addr) (fd : FuncData) (ps : List Str) (sp : Sp) : Prop where
  len : ∀ vs H Q E, sp vs H Q E → vs.length = ps.length
  run : ∀ (A : Around) (outer : List Env) (s : Shared) (H : Hp) (args : Args) (us : List Value) (vs : List V) (Q : VK) (E : XK), Rg k A → Env0 P w K mg base A outer s H → BindsTo s fd args (ps.zip us) → Vals vs us → sp vs H Q E →
    codeAny (model P w) A (.call (.ref f) args) (CR CX outer P w H s Q E) s
theorem Fg.mono {P : Program} {w : World} {K : PySem.W.Frag} {mg : Str → Option Value} {base : Heap} {CX : CXT} {j k : Nat} {f : Addr} {fd : FuncData} {ps : List Str} {sp : Sp} (F : Fg P w K mg base CX j f fd ps sp) (h : j ≤ k) :
    Fg P w K mg base CX k f fd ps sp := ⟨F.len, fun A outer s H args us vs Q E hr => F.run A outer s H args us vs Q E (hr.mono h)⟩

section
variable {X : Cx} {CX : CXT} {k : Nat} {f C : Addr} {fd : FuncData} {ps : List Str} {sp : Sp} {dvs : List V} {ds : List Value} {E : XK} {x m : Str} {p pos apos : Pos} {e o : Expr} {es : List Expr} {ta : TE} {t : TA}
theorem run_fn {pins : List (Addr × Obj)} {σ : L2.St} {H : Hp} {s : Shared} {Q : VK} {us : List Value} {vs : List V} (F : Fg X.prog X.w X.K X.mg X.base CX k f fd ps sp) (hr : Rg k X.A) (hb : Binds X.K fd ps ds) (hd : Vals dvs ds) (hx : Passes CX X E)
    (I : Inv X pins σ H s) (r : Vals vs us) (h : sp (vs ++ dvs) H Q E) : wpAny (model X.prog X.w) X.A (call (.ref f) us) (EP X pins σ Q) X.xe s := by
  have r2 : Vals (vs ++ dvs) (us ++ ds) := r.append hd
  have hl : (us ++ ds).length = ps.length := by rw [← r2.length]; exact F.len _ _ _ _ h
  refine wpAny_call (codeAny_mono (F.run X.A X.stack s H ⟨us, []⟩ (us ++ ds) (vs ++ dvs) Q E hr I.env0 (hb s us I.kIn hl) r2 h) fun r s' hq => ?_)
  cases r with
  | error e => exact hx pins σ H s e s' I hq
  | ok fl =>
    cases fl with
    | ret u => exact I.after hq
    | next => exact False.elim hq
    | brk => exact False.elim hq
    | cont => exact False.elim hq
theorem pe_call (F : Fg X.prog X.w X.K X.mg X.base CX k f fd ps sp) (hr : Rg k X.A) (hg : Gl X x) (hm : X.mg x = some (.ref f)) (hk : PySem.W.keepIn X.K (.ref f) = true) (hb : Binds X.K fd ps ds) (hd : Vals dvs ds) (hx : Passes CX X E)
    (ha : PA X (e :: es) t) (hdb : (x == ("__debug__" : Str)) = false := by decide) (he : starEach (e :: es) X.env = (false, eval e X.env) :: starEach es X.env := by rfl) (hpl : (backTo pos (starEach es X.env)).any (·.1) = false := by rfl) :
    PE X (.Call (.Name x p) (e :: es) [] pos) (tCall sp dvs E t) := by
  refine ⟨fun pins s σ H Q I h => ?_⟩
  refine wpAny_Call_Name_kw (ld_glob I hg hm ?_ hdb)
  refine PySem.W.callWith_K (h₀ := X.base) I.ok.mod.kin hk (thn (ha.run pos pins s σ H _ I h) fun us s1 ⟨vs, H1, I1, r, q⟩ => ⟨I1.kIn, ?_⟩) he hpl
  exact run_fn F hr hb hd hx I1 r q
end

theorem fg_of {CX : CXT} {P : Program} {w : World} {K : PySem.W.Frag} {mg : Str → Option Value} {base : Heap} {k : Nat} {f : Addr} {name qual : Str} {params : Arguments} {body : List Stmt} {scope : Scope} {dV kV doc pm cdv ct oc : Value} {an od : Option Addr}
    {osl : Array (Option Value)} {N ps : List Str} {sp : Sp} (lk : K.lookup f = some ⟨oc, od, .func (PySem.W.fnOf name qual params body scope dV kV doc pm an cdv ct), osl⟩) (hcd : PySem.W.codeIn K cdv qual = true) (S : FnScope N ps scope)
    (len : ∀ vs H Q E, sp vs H Q E → vs.length = ps.length)
    (hbody : ∀ (A : Around) (outer : List Env) (s : Shared) (H : Hp) (vs : List V) (Q : VK) (E : XK), Rg k (A.deeper (envOfC qual scope s.heap.objs.size f cdv)) → sp vs H Q E →
      ∃ t, PSs (cxOf CX P w K mg base N qual scope f cdv A outer s H E) body t ∧ t { nx := fun _ H' => Q .non H', rt := Q } (start N vs) H) :
    Fg P w K mg base CX (k + 1) f (PySem.W.fnOf name qual params body scope dV kV doc pm an cdv ct) ps sp := by
  refine ⟨len, fun A outer s H args us vs Q E hrg e0 hb r hsp => ?_⟩
  have hr := hrg.room
  have hl := len _ _ _ _ hsp
  have KX : K.In s.heap := e0.mod.kin.keeps fun b o e => (e0.bs b o e).1
  have lim : s.heap.NoLimit := e0.mod.nolimit.keeps fun b o e => (e0.bs b o e).1
  have hkind : ∀ y ∈ ps.zip us, scope.names.lookup y.1 = some .local ∨ (scope.names.lookup y.1 = some .cell ∧ ((cellsFrom (s.heap.objs.size + 1) scope.names []).lookup y.1).isSome = true) := fun ⟨n, v⟩ hy => by
    rcases S.par n (List.of_mem_zip hy).1 with q | q
    · exact .inl q
    · exact .inr ⟨q, PySem.W.cellsFrom_some _ _ _ (.inl q)⟩
  refine codeAny_call_function hr.depth (KX _ _ lk) rfl S.co S.gen rfl (PySem.W.codeRec_of KX hcd) (hb _ _ _ _ ?_)
  refine wpAny_newFunctionEnv_cells S.kind hkind fun env he s1 x => ?_
  subst he
  refine ⟨lim.keeps x.toInCall.keep, codeAny_func ?_⟩
  obtain ⟨t, ht, hq⟩ := hbody A outer s H vs Q E (hrg.deeper _) hsp
  have I : Inv (cxOf CX P w K mg base N qual scope f cdv A outer s H E) [] (start N vs) H s1 := inv_start S hr.hd e0 hl r x
  refine wpAny_mono (ht.run [] s1 (start N vs) H _ I hq) (fun fl s' hs => ?_) fun e s' hs => hs
  have fin : ∀ {σ' : L2.St} {H' : Hp} {v : V} {u : Value}, Inv (cxOf CX P w K mg base N qual scope f cdv A outer s H E) [] σ' H' s' → RelV v u → Q v H' → CE outer P w H s Q u s' :=
    fun {σ' H' v u} J rv q => ⟨v, H', J.os, J.bare, J.base, J.hok, rv, q⟩
  cases fl with
  | ret u =>
    obtain ⟨v, σ', H', J, rv, q⟩ := hs
    exact fin J rv q
  | next =>
    obtain ⟨σ', H', J, q⟩ := hs
    exact fin (v := V.non) (u := Value.none) J rfl q
  | brk =>
    obtain ⟨_, _, _, q⟩ := hs
    exact False.elim q
  | cont =>
    obtain ⟨_, _, _, q⟩ := hs
    exact False.elim q
section
variable {P : Program} {w : World} {K : PySem.W.Frag} {mg : Str → Option Value} {base : Heap}
theorem ok_g {x qual : Str} {st : Stmt} {f : Addr} {fd : FuncData} {N ps : List Str} {k : Nat} {sp : Sp} (F : Fun K x qual st f fd) (S : FnScope N ps (defScope st)) (len : ∀ vs H Q E, sp vs H Q E → vs.length = ps.length)
    (hbody : ∀ (cdv : Value) (A : Around) (outer : List Env) (s : Shared) (H : Hp) (vs : List V) (Q : VK) (E : XK), Rg k (A.deeper (envOfC qual (defScope st) s.heap.objs.size f cdv)) → sp vs H Q E →
      ∃ t, PSs (cxOf CX0 P w K mg base N qual (defScope st) f cdv A outer s H E).nox (defBody st) t ∧ t { nx := fun _ H' => Q .non H', rt := Q } (start N vs) H) : Fg P w K mg base CX0 (k + 1) f fd ps sp := by
  obtain ⟨oc, od, kV, doc, pm, an, cdv, ct, osl, rfl, lk, hcd⟩ := F.ex
  refine fg_of lk hcd S len fun A outer s H vs Q E hr hsp => ?_
  obtain ⟨t, h, q⟩ := hbody cdv A outer s H vs Q E hr hsp
  exact ⟨t, h.nox, q⟩
end

/-! ### data at any depth, dicts with int and text keys among them -/
def keyD : Key → PyData
  | .inl i => .int i
  | .inr x => .str x
mutual
inductive DaF (b : Bool) (K : PySem.W.Frag) (H : Hp) : V → PyData → Prop
  | non : DaF b K H .non .none
  | bl (c : Bool) : DaF b K H (.bl c) (.bool c)
  | int (i : Int) : DaF b K H (.int i) (.int i)
  | str (x : Str) : DaF b K H (.str x) (.str x)
  | lst {a : Addr} {xs : List V} {ds : List PyData} : SqL K H a xs → (b = true → a ≠ sysModules) → DaAllF b K H xs ds → DaF b K H (.ref a) (.list ds)
  | tup {a : Addr} {xs : List V} {ds : List PyData} : SqT K H a xs → DaAllF b K H xs ds → DaF b K H (.ref a) (.tuple ds)
  | dic {a : Addr} {kvs : List (Key × V)} {dk : List (PyData × PyData)} : Rd H a (.dK kvs) → DaKvF b K H kvs dk → DaF b K H (.ref a) (.dict dk)
inductive DaAllF (b : Bool) (K : PySem.W.Frag) (H : Hp) : List V → List PyData → Prop
  | nil : DaAllF b K H [] []
  | cons {v : V} {vs : List V} {d : PyData} {ds : List PyData} : DaF b K H v d → DaAllF b K H vs ds → DaAllF b K H (v :: vs) (d :: ds)
inductive DaKvF (b : Bool) (K : PySem.W.Frag) (H : Hp) : List (Key × V) → List (PyData × PyData) → Prop
  | nil : DaKvF b K H [] []
  | cons {k : Key} {v : V} {kvs : List (Key × V)} {d : PyData} {ds : List (PyData × PyData)} : DaF b K H v d → DaKvF b K H kvs ds → DaKvF b K H ((k, v) :: kvs) ((keyD k, d) :: ds)
end
theorem Rd.same {H H' : Hp} {a : Addr} {u : HO} (e : Same H H') (r : Rd H a u) : Rd H' a u := by
  rcases r with r | ⟨o, r⟩
  · exact .inl (e _ _ r)
  · exact .inr ⟨o, e _ _ r⟩
theorem same_seqT {K : PySem.W.Frag} {H H' : Hp} {a : Addr} {xs : List V} (e : Same H H') (h : SqT K H a xs) : SqT K H' a xs := by
  rcases h with h | h
  · exact .inl (Rd.same e h)
  · exact .inr h
mutual
theorem DaF.same {b : Bool} {K : PySem.W.Frag} {H H' : Hp} (e : Same H H') : ∀ {v : V} {d : PyData}, DaF b K H v d → DaF b K H' v d
  | _, _, .non => .non
  | _, _, .bl b => .bl b
  | _, _, .int i => .int i
  | _, _, .str x => .str x
  | _, _, .lst h n a => .lst (e.seq h) n (DaAllF.same e a)
  | _, _, .tup h a => .tup (same_seqT e h) (DaAllF.same e a)
  | _, _, .dic h a => .dic (Rd.same e h) (DaKvF.same e a)
theorem DaAllF.same {b : Bool} {K : PySem.W.Frag} {H H' : Hp} (e : Same H H') : ∀ {vs : List V} {ds : List PyData}, DaAllF b K H vs ds → DaAllF b K H' vs ds
  | _, _, .nil => .nil
  | _, _, .cons a r => .cons (DaF.same e a) (DaAllF.same e r)
theorem DaKvF.same {b : Bool} {K : PySem.W.Frag} {H H' : Hp} (e : Same H H') : ∀ {kvs : List (Key × V)} {ds : List (PyData × PyData)}, DaKvF b K H kvs ds → DaKvF b K H' kvs ds
  | _, _, .nil => .nil
  | _, _, .cons a r => .cons (DaF.same e a) (DaKvF.same e r)
end
/-- the records of a dict read -/
theorem kv_reads {P : Program} {w : World} {h : Heap} {vs : List (Key × Value)} : ∀ {es : List DictEntry} {kvs : List (Key × V)} {dk : List (PyData × PyData)}, Pairs (mixKind P w) es vs → (dk.map (·.1)) = vs.map (fun p => keyD p.1) → ∃ as, ReadsAll h (es.map (·.key)) (dk.map (·.1)) as ∧ as = [] := by
  intro es kvs dk hp he
  rw [he]
  clear he
  induction hp with
  | nil => exact ⟨_, ReadsAll.nil, rfl⟩
  | @cons e kv es kvs hk hv hr ih =>
    obtain ⟨as, q, rfl⟩ := ih
    have hk' : keyIs kv.1 e.key = true := hk
    rcases keyIs_shape hk' with ⟨i, t, e1, e2⟩ | ⟨x, t, e1, e2⟩
    · refine ⟨[] ++ [], ReadsAll.cons (d := keyD kv.1) (v := e.key) (as := []) ?_ q, rfl⟩
      rw [e1, e2]; exact Reads.int i t
    · refine ⟨[] ++ [], ReadsAll.cons (d := keyD kv.1) (v := e.key) (as := []) ?_ q, rfl⟩
      rw [e1, e2]; exact Reads.str x t
theorem dakv_keys {b : Bool} {K : PySem.W.Frag} {H : Hp} : ∀ {kvs : List (Key × V)} {dk : List (PyData × PyData)}, DaKvF b K H kvs dk → dk.map (·.1) = kvs.map (fun p => keyD p.1)
  | _, _, .nil => rfl
  | _, _, .cons a r => by rw [List.map_cons, List.map_cons, dakv_keys r]
theorem kv_keys : ∀ {kvs : List (Key × V)} {vs : List (Key × Value)}, KV kvs vs → kvs.map (fun p => keyD p.1) = vs.map (fun p => keyD p.1)
  | _, _, .nil => rfl
  | _, _, .cons a r => by rw [List.map_cons, List.map_cons, kv_keys r, a.1]
theorem kv_vals : ∀ {kvs : List (Key × V)} {vs : List (Key × Value)}, KV kvs vs → Vals (kvs.map (·.2)) (vs.map (·.2))
  | _, _, .nil => .nil
  | _, _, .cons a r => .cons a.2 (kv_vals r)
theorem pairs_vals {P : Program} {w : World} : ∀ {es : List DictEntry} {vs : List (Key × Value)}, Pairs (mixKind P w) es vs → es.map (·.val) = vs.map (·.2)
  | _, _, .nil => rfl
  | _, _, .cons _ hv r => by rw [List.map_cons, List.map_cons, hv, pairs_vals r]
section
variable {X : Cx} {pins : List (Addr × Obj)} {σ : L2.St} {H : Hp} {s : Shared}
mutual
theorem DaF.reads {b : Bool} (I : Inv X pins σ H s) : ∀ (d : PyData) (v : V) (u : Value), DaF b X.K H v d → RelV v u → ∃ as, Reads s.heap u d as ∧ (b = true → sysModules ∉ as)
  | .none, _, _, h, r => by
    cases h; cases r
    exact ⟨_, Reads.none, fun _ => by simp⟩
  | .bool b, _, _, h, r => by
    cases h; cases r
    exact ⟨_, Reads.bool b, fun _ => by simp⟩
  | .int i, _, _, h, r => by
    cases h
    obtain ⟨t, rfl⟩ := r
    exact ⟨_, Reads.int i t, fun _ => by simp⟩
  | .str x, _, _, h, r => by
    cases h
    obtain ⟨t, rfl⟩ := r
    exact ⟨_, Reads.str x t, fun _ => by simp⟩
  | .list ds, _, _, h, r => by
    cases h with
    | lst hq hne ha =>
      cases r
      obtain ⟨its, rv, ⟨o, n, ho, hc, _, hd⟩, _⟩ := I.list hq
      obtain ⟨as, hr, hn⟩ := DaF.readsAll I ds _ its ha rv
      refine ⟨_, Reads.list ho hc hd hr, ?_⟩
      intro hb hm
      rcases List.mem_cons.mp hm with e | hm
      · exact hne hb e.symm
      · exact hn hb hm
  | .tuple ds, _, _, h, r => by
    cases h with
    | tup hq ha =>
      cases r
      obtain ⟨its, rv, ⟨o, ho, hc, n, hd⟩, _⟩ := I.tuple hq
      obtain ⟨as, hr, hn⟩ := DaF.readsAll I ds _ its ha rv
      exact ⟨_, Reads.tuple ho hc hd hr, hn⟩
  | .dict dk, _, _, h, r => by
    cases h with
    | dic hq ha =>
      cases r
      obtain ⟨_, hsys, vs, kv, o, es, ep, ho, hx, hd, _, hp, _⟩ := hq.ok I.hok
      obtain ⟨as1, r1, e1⟩ := kv_reads (h := s.heap) (kvs := []) (dk := dk) hp ((dakv_keys ha).trans (kv_keys kv))
      obtain ⟨as2, r2, hn⟩ := DaF.readsKv I dk _ (vs.map (·.2)) ha (kv_vals kv)
      subst e1
      refine ⟨_, Reads.dict ho hx.1 hd r1 (by rw [pairs_vals hp]; exact r2), ?_⟩
      intro hb hm
      rcases List.mem_append.mp hm with hm | hm
      · rcases List.mem_cons.mp hm with e | hm
        · rw [← e] at hsys; simp at hsys
        · simp at hm
      · exact hn hb hm
theorem DaF.readsAll {b : Bool} (I : Inv X pins σ H s) : ∀ (ds : List PyData) (vs : List V) (us : List Value), DaAllF b X.K H vs ds → Vals vs us → ∃ as, ReadsAll s.heap us ds as ∧ (b = true → sysModules ∉ as)
  | [], _, _, h, r => by
    cases h; cases r
    exact ⟨_, ReadsAll.nil, fun _ => by simp⟩
  | d :: ds, _, _, h, r => by
    cases h with
    | cons h1 h2 =>
      cases r with
      | cons r1 r2 =>
        obtain ⟨as, q1, n1⟩ := DaF.reads I d _ _ h1 r1
        obtain ⟨bs, q2, n2⟩ := DaF.readsAll I ds _ _ h2 r2
        exact ⟨_, ReadsAll.cons q1 q2, fun hb hm => (List.mem_append.mp hm).elim (n1 hb) (n2 hb)⟩
theorem DaF.readsKv {b : Bool} (I : Inv X pins σ H s) : ∀ (dk : List (PyData × PyData)) (kvs : List (Key × V)) (us : List Value), DaKvF b X.K H kvs dk → Vals (kvs.map (·.2)) us → ∃ as, ReadsAll s.heap us (dk.map (·.2)) as ∧ (b = true → sysModules ∉ as)
  | [], _, _, h, r => by
    cases h; cases r
    exact ⟨_, ReadsAll.nil, fun _ => by simp⟩
  | (_, d) :: dk, _, _, h, r => by
    cases h with
    | cons h1 h2 =>
      cases r with
      | cons r1 r2 =>
        obtain ⟨as, q1, n1⟩ := DaF.reads I d _ _ h1 r1
        obtain ⟨bs, q2, n2⟩ := DaF.readsKv I dk _ _ h2 r2
        exact ⟨_, ReadsAll.cons q1 q2, fun hb hm => (List.mem_append.mp hm).elim (n1 hb) (n2 hb)⟩
end
/-- what may be shown -/
structure Shw (d : PyData) : Prop where
  sh : d.showable = true
  dp : d.depth ≤ 20
  sz : d.shown.length ≤ sizeLine
theorem call_reprD (hgd : X.A.guards = some []) (hu : X.A.units + 100 < cLine) : CallR X (.builtin "repr") (fun xs H Q => ∃ b v d, xs = [v] ∧ DaF b X.K H v d ∧ (b = true ∨ d.hasDict = false) ∧ Shw d ∧ Q (.str d.shown) H) := by
  intro pins s σ H xs us Q I r h
  obtain ⟨b, v, d, rfl, hd, hb, hw, q⟩ := h
  obtain ⟨u, rfl, rv⟩ := vals1 r
  cases hd with
  | non =>
    cases rv
    refine PySem.P.repr_of_none ⟨.str _, H, I.tok _, ⟨_, rfl⟩, ?_⟩
    simpa only [PyData.shown] using q
  | bl b =>
    cases rv
    refine PySem.P.repr_of_bool ⟨.str _, H, I.tok _, ⟨_, rfl⟩, ?_⟩
    simpa only [PyData.shown] using q
  | int i =>
    obtain ⟨t, rfl⟩ := rv
    refine PySem.P.repr_of_int (by have := hw.sh; simpa [PyData.showable] using this) ⟨.str _, H, I.tok _, ⟨_, rfl⟩, ?_⟩
    simpa only [PyData.shown] using q
  | str x =>
    obtain ⟨t, rfl⟩ := rv
    refine PySem.P.repr_of_str ⟨.str _, H, I.tok _, ⟨_, rfl⟩, ?_⟩ (by have := hw.sz; simpa only [PyData.shown] using this)
    simpa only [PyData.shown] using q
  | lst h1 h0 h2 =>
    obtain ⟨as, hR, hn⟩ := DaF.reads I _ _ _ (.lst h1 h0 h2) rv
    cases rv
    exact repr_of_reads' hR hw.sh (fun z => hn (hb.resolve_right (by rw [z]; exact Bool.noConfusion))) hgd (by have := hw.dp; omega) (fun _ _ e => e) (fun h' u tk k => ⟨.str _, H, I.kept k, ⟨_, rfl⟩, q⟩) hw.sz
  | tup h1 h2 =>
    obtain ⟨as, hR, hn⟩ := DaF.reads I _ _ _ (.tup h1 h2) rv
    cases rv
    exact repr_of_reads' hR hw.sh (fun z => hn (hb.resolve_right (by rw [z]; exact Bool.noConfusion))) hgd (by have := hw.dp; omega) (fun _ _ e => e) (fun h' u tk k => ⟨.str _, H, I.kept k, ⟨_, rfl⟩, q⟩) hw.sz
  | dic h1 h2 =>
    obtain ⟨as, hR, hn⟩ := DaF.reads I _ _ _ (.dic h1 h2) rv
    cases rv
    exact repr_of_reads' hR hw.sh (fun z => hn (hb.resolve_right (by rw [z]; exact Bool.noConfusion))) hgd (by have := hw.dp; omega) (fun _ _ e => e) (fun h' u tk k => ⟨.str _, H, I.kept k, ⟨_, rfl⟩, q⟩) hw.sz
end
abbrev Da := DaF false
abbrev DaAll := DaAllF false
abbrev DaKv := DaKvF false
abbrev DaS := DaF true
abbrev DaAllS := DaAllF true
theorem Da.lst {K : PySem.W.Frag} {H : Hp} {a : Addr} {xs : List V} {ds : List PyData} (h : SqL K H a xs) (k : DaAll K H xs ds) : Da K H (.ref a) (.list ds) := DaF.lst h Bool.noConfusion k
mutual
theorem DaF.da {b : Bool} {K : PySem.W.Frag} {H : Hp} : ∀ {v : V} {d : PyData}, DaF b K H v d → Da K H v d
  | _, _, .non => DaF.non
  | _, _, .bl c => DaF.bl c
  | _, _, .int i => DaF.int i
  | _, _, .str x => DaF.str x
  | _, _, .lst h _ a => DaF.lst h Bool.noConfusion (DaAllF.da a)
  | _, _, .tup h a => DaF.tup h (DaAllF.da a)
  | _, _, .dic h a => DaF.dic h (DaKvF.da a)
theorem DaAllF.da {b : Bool} {K : PySem.W.Frag} {H : Hp} : ∀ {vs : List V} {ds : List PyData}, DaAllF b K H vs ds → DaAll K H vs ds
  | _, _, .nil => DaAllF.nil
  | _, _, .cons a r => DaAllF.cons (DaF.da a) (DaAllF.da r)
theorem DaKvF.da {b : Bool} {K : PySem.W.Frag} {H : Hp} : ∀ {kvs : List (Key × V)} {ds : List (PyData × PyData)}, DaKvF b K H kvs ds → DaKv K H kvs ds
  | _, _, .nil => DaKvF.nil
  | _, _, .cons a r => DaKvF.cons (DaF.da a) (DaKvF.da r)
end
end KX

namespace KX
open PySem PySem.Spec PyProof.Rows L2
/-! ### the readings, by their heads: one row a reading, for a stepping that looks at the head alone -/
theorem Same.get {H H' : Hp} {a : Addr} {o : HO} (s : Same H H') (h : H a = some o) : H' a = some o := s _ _ h
/-- all but what stands at r is as it was -/
def Off (r : Addr) (H H' : Hp) : Prop := ∀ b o, b ≠ r → H b = some o → H' b = some o
theorem Off.get {r : Addr} {H H' : Hp} {a : Addr} {o : HO} (s : Off r H H') (n : a ≠ r) (h : H a = some o) : H' a = some o := s _ _ n h
theorem Off.refl (r : Addr) (H : Hp) : Off r H H := fun _ _ _ e => e
theorem Off.trans {r : Addr} {H H1 H2 : Hp} (a : Off r H H1) (b : Off r H1 H2) : Off r H H2 := fun c o n e => b c o n (a c o n e)
theorem Off.of_same {r : Addr} {H H' : Hp} (a : Same H H') : Off r H H' := fun c o _ e => a c o e
theorem off_upd {r : Addr} {H : Hp} {o : HO} : Off r H (L2.upd H r o) := fun c u n e => by
  rw [upd_ne n]; exact e
theorem same_new {H : Hp} {p : Addr} {o : HO} (h : H p = none) : Same H (L2.upd H p o) := fun b x e => by
  rw [upd_ne (ne_of_none e h)]; exact e
/-- what is written at an address that was free leaves all as it was -/
theorem Off.new {p : Addr} {H H1 H2 : Hp} (n : H p = none) (a : Same H H1) (b : Off p H1 H2) : Same H H2 := fun c o e => b c o (ne_of_none e n) (a c o e)
theorem Off.thenS {r : Addr} {H H1 H2 : Hp} (b : Same H1 H2) (a : Off r H H1) : Off r H H2 := a.trans (.of_same b)
theorem Off.thenO {r : Addr} {H H1 H2 : Hp} (b : Off r H1 H2) (a : Off r H H1) : Off r H H2 := a.trans b
theorem Off.thenF {r p : Addr} {H H0 H1 H2 : Hp} (b : Off p H1 H2) (n : H0 p = none) (a0 : Off r H H0) (a : Off r H H1) : Off r H H2 := fun c o hc e => b c o (ne_of_none (a0 c o hc e) n) (a c o hc e)
theorem Same.thenS {H H1 H2 : Hp} (b : Same H1 H2) (a : Same H H1) : Same H H2 := a.trans b
theorem Same.thenF {p : Addr} {H H0 H1 H2 : Hp} (b : Off p H1 H2) (n : H0 p = none) (a0 : Same H H0) (a : Same H H1) : Same H H2 := fun c o e => b c o (ne_of_none (a0 c o e) n) (a c o e)
theorem ne_some {H : Hp} {a b : Addr} {o : HO} (h' : H b = none) (h : H a = some o) : a ≠ b := ne_of_none h h'
/-- a new object: what follows, in the rules' form and over a heap that is told by what it holds -/
def NewR (H : Hp) (o : HO) (Q : VK) : Prop := ∀ p, H p = none → Q (.ref p) (upd H p o)
def New (H : Hp) (o : HO) (Q : VK) : Prop := ∀ p H', H p = none → Same H H' → H' p = some o → Q (.ref p) H'
theorem i_new {H : Hp} {o : HO} {Q : VK} (q : ∀ p H', H p = none → Same H H' → H' p = some o → Q (.ref p) H') : NewR H o Q := fun p hp => q p _ hp (same_new hp) upd_same
def PutR (H : Hp) (p : Addr) (o : HO) (R : Hp → Prop) : Prop := R (upd H p o)
theorem i_put {H : Hp} {p : Addr} {o : HO} {R : Hp → Prop} (q : ∀ H', Off p H H' → H' p = some o → R H') : PutR H p o R := q _ off_upd upd_same
def DispR (trs : List (TE × TE)) (σ : L2.St) (H : Hp) (Q : VK) : Prop := ∀ p, H p = none → tPairs trs σ (upd H p (.dK [])) fun ps H2 => H2 p = some (.dK []) ∧ ∃ kvs : List (Key × V), ps = kvs.map (fun kv => (kV kv.1, kv.2)) ∧ kvs.length ≤ 15 ∧ PutR H2 p (.dK (mergeK [] kvs)) (Q (.ref p))
/-- loops and comprehensions over an iterator J -/
def ForR (J : It) (g : TG) (tb : TS) (D : Ends) (σ : L2.St) (H : Hp) : Prop := ∃ W : Nat → Nat → L2.St → Hp → Prop, (∃ m, W 0 m σ H) ∧ ∀ i m σ H, W i m σ H →
  (J.stop i H ∧ D.nx σ H) ∨ (J.go i H ∧ ∃ N : L2.St → Hp → Prop, (∀ σ' H', N σ' H' → ∃ m', m' < m ∧ W (i + 1) m' σ' H') ∧ ∀ x H', J.yld i H x H' → g x σ H' fun σ2 H2 => tb { D with nx := N, ct := N, bk := D.nx } σ2 H2)
def LcR (J : It) (g : TG) (tt : TT) (te : TE) (vs : List Nat) (σ : L2.St) (H1 : Hp) (Q : VK) : Prop := ∀ D, H1 D = none → ∃ W : Nat → Nat → Hp → Prop, (∃ m, W 0 m (upd H1 D (.lst []))) ∧ ∀ i m H, W i m H →
  (J.stop i H ∧ Q (.ref D) H) ∨ (J.go i H ∧ ∃ Nx : Hp → Prop, (∀ H', Nx H' → ∃ m', m' < m ∧ W (i + 1) m' H') ∧ ∀ x H', J.yld i H x H' → g x (wipe σ vs) H' fun σ2 H2 => wipe σ2 vs = wipe σ vs ∧ tt σ2 H2 fun b H3 =>
    if b = true then te σ2 H3 fun y H4 => ∃ acc, H4 D = some (.lst acc) ∧ acc.length < sizeLine ∧ Nx (upd H4 D (.lst (acc ++ [y]))) else Nx H3)
/-- J walks the items xs while G stands -/
structure Wk (J : It) (xs : List V) (G : Hp → Prop) : Prop where
  go : ∀ i H, G H → i < xs.length → J.go i H
  yl : ∀ i H x H', G H → J.yld i H x H' → i < xs.length → H' = H ∧ xs[i]? = some x
  st : ∀ i H, G H → xs.length ≤ i → J.stop i H
theorem wk_list {K : PySem.W.Frag} {a : Addr} {xs : List V} : Wk (Itl K a) xs fun H => SqL K H a xs where
  go := fun i H g h => ⟨xs, xs[i], g, by simp [h]⟩
  yl := fun i H x H' g y _ => ⟨y.1, y.2 xs g⟩
  st := fun i H g h => ⟨xs, g, h⟩
theorem wk_tup {K : PySem.W.Frag} {a : Addr} {xs : List V} : Wk (Itt K a) xs fun H => SqT K H a xs where
  go := fun i H g h => ⟨xs, xs[i], g, by simp [h]⟩
  yl := fun i H x H' g y _ => ⟨y.1, y.2 xs g⟩
  st := fun i H g h => ⟨xs, g, h⟩
def rangeV (lo : Int) (n : Nat) : List V := (List.range n).map fun i : Nat => V.int (lo + i)
theorem rangeV_len (lo : Int) (n : Nat) : (rangeV lo n).length = n := by simp [rangeV]
theorem rangeV_get {lo : Int} {n i : Nat} (h : i < n) : (rangeV lo n)[i]? = some (V.int (lo + i)) := by simp [rangeV, h]
theorem wk_range {lo : Int} {n : Nat} : Wk (Itr lo n) (rangeV lo n) fun _ => True where
  go := fun i H _ h => by rw [rangeV_len] at h; exact h
  yl := fun i H x H' _ y h => ⟨y.1, by rw [rangeV_len] at h; rw [rangeV_get h, y.2]⟩
  st := fun i H _ h => by rw [rangeV_len] at h; exact h
def signsV (x : Str) : List V := x.cps.toList.map fun c => V.str ⟨#[c]⟩
theorem signsV_len (x : Str) : (signsV x).length = x.cps.size := by simp [signsV]
theorem wk_str {x : Str} : Wk (Its x) (signsV x) fun _ => True where
  go := fun i H _ h => by rw [signsV_len] at h; exact h
  yl := fun i H v H' _ y h => by
    obtain ⟨e, c, hc, hv⟩ := y
    refine ⟨e, ?_⟩
    rw [hv]
    simp [signsV, hc]
  st := fun i H _ h => by rw [signsV_len] at h; exact h
theorem f_wk {J : It} {xs : List V} {G : Hp → Prop} (W : Wk J xs G) {g : TG} {tb : TS} {f b k : L2.St → Hp → Prop} {Q : VK} {σ : L2.St} {H : Hp} (Pv : Nat → L2.St → Hp → Prop) (h0 : Pv 0 σ H) (hG : ∀ i σ H, Pv i σ H → G H)
    (hs : ∀ i x σ H, xs[i]? = some x → Pv i σ H → g x σ H fun σ2 H2 => tb ⟨Pv (i + 1), Q, f, Pv (i + 1)⟩ σ2 H2) (hd : ∀ σ H, Pv xs.length σ H → f σ H) : ForR J g tb ⟨f, Q, b, k⟩ σ H := by
  refine ⟨fun i m σ H => m = xs.length - i ∧ i ≤ xs.length ∧ Pv i σ H, ⟨xs.length, by simp, Nat.zero_le _, h0⟩, ?_⟩
  rintro i m σ H ⟨rfl, hi, p⟩
  by_cases hlt : i < xs.length
  · refine .inr ⟨W.go i H (hG _ _ _ p) hlt, Pv (i + 1), fun σ' H' p' => ⟨xs.length - (i + 1), by omega, rfl, hlt, p'⟩, fun x H' y => ?_⟩
    obtain ⟨e, y2⟩ := W.yl i H x H' (hG _ _ _ p) y hlt
    subst e
    exact hs i x σ _ y2 p
  · have e : i = xs.length := by omega
    subst e
    exact .inl ⟨W.st _ H (hG _ _ _ p) (Nat.le_refl _), hd σ H p⟩
/-- the comprehension's list gets its next item -/
def LcEl (D : Addr) (P1 : List V → Hp → Prop) (y : V) (H4 : Hp) : Prop := ∃ acc, H4 D = some (.lst acc) ∧ acc.length < sizeLine ∧ PutR H4 D (.lst (acc ++ [y])) fun H => ∃ ys, P1 ys H
theorem i_lcEl {D : Addr} {P1 : List V → Hp → Prop} {y : V} {H : Hp} {acc : List V} (h : H D = some (.lst acc)) (z : acc.length < sizeLine) (q : ∀ H', Off D H H' → H' D = some (.lst (acc ++ [y])) → P1 (acc ++ [y]) H') : LcEl D P1 y H :=
  ⟨acc, h, z, _, q _ off_upd upd_same⟩
theorem l_wk {J : It} {xs : List V} {G : Hp → Prop} (W : Wk J xs G) {g : TG} {tt : TT} {te : TE} {vs : List Nat} {Q : VK} {σ : L2.St} {H1 : Hp}
    (q : ∀ D H0, H1 D = none → Same H1 H0 → H0 D = some (.lst []) → ∃ Pv : Nat → List V → Hp → Prop, Pv 0 [] H0 ∧ (∀ i ys H, Pv i ys H → G H) ∧
      (∀ i ys x H, xs[i]? = some x → Pv i ys H → g x (wipe σ vs) H fun σ2 H2 => wipe σ2 vs = wipe σ vs ∧ tt σ2 H2 fun b H3 =>
        if b = true then te σ2 H3 fun y H4 => LcEl D (Pv (i + 1)) y H4 else ∃ ys, Pv (i + 1) ys H3) ∧
      (∀ ys H, Pv xs.length ys H → Q (.ref D) H)) : LcR J g tt te vs σ H1 Q := by
  intro D hD
  obtain ⟨Pv, h0, hG, hs, hd⟩ := q D _ hD (same_new hD) upd_same
  refine ⟨fun i m H => m = xs.length - i ∧ i ≤ xs.length ∧ ∃ ys, Pv i ys H, ⟨xs.length, by simp, Nat.zero_le _, _, h0⟩, ?_⟩
  rintro i m H ⟨rfl, hi, ys, p⟩
  by_cases hlt : i < xs.length
  · refine .inr ⟨W.go i H (hG _ _ _ p) hlt, fun H => ∃ ys, Pv (i + 1) ys H, fun H' p' => ⟨xs.length - (i + 1), by omega, rfl, hlt, p'⟩, fun x H' y => ?_⟩
    obtain ⟨e, y2⟩ := W.yl i H x H' (hG _ _ _ p) y hlt
    subst e
    exact hs i ys x _ y2 p
  · have e : i = xs.length := by omega
    subst e
    exact .inl ⟨W.st _ H (hG _ _ _ p) (Nat.le_refl _), hd ys H p⟩
/-- a comprehension whose test and element change nothing of what was tracked: what it lists -/
theorem l_filter {J : It} {xs : List V} {G : Hp → Prop} (W : Wk J xs G) {g : TG} {tt : TT} {te : TE} {vs : List Nat} {Q : VK} {σ : L2.St} {H1 : Hp} (p : V → Bool) (F : V → V) (hlen : xs.length < sizeLine) (hG : ∀ H', Same H1 H' → G H')
    (hs : ∀ (i : Nat) x H' (R : VK) (N : Hp → Prop), xs[i]? = some x → Same H1 H' → (p x = true → ∀ H'', Same H' H'' → R (F x) H'') → (p x = false → ∀ H'', Same H' H'' → N H'') →
      g x (wipe σ vs) H' fun σ2 H2 => wipe σ2 vs = wipe σ vs ∧ tt σ2 H2 fun b H3 => if b = true then te σ2 H3 R else N H3)
    (q : ∀ D H', H1 D = none → Same H1 H' → H' D = some (.lst ((xs.filter p).map F)) → Q (.ref D) H') : LcR J g tt te vs σ H1 Q := by
  refine l_wk W fun D H0 n0 s0 e0 => ⟨fun i ys H => Same H1 H ∧ H D = some (.lst ys) ∧ ys = ((xs.take i).filter p).map F ∧ ys.length ≤ i, ⟨s0, e0, rfl, Nat.le_refl _⟩, fun i ys H h => hG _ h.1, fun i ys x H hx h => ?_, fun ys H h => ?_⟩
  · obtain ⟨s1, e1, hy, hl⟩ := h
    have hi : i < xs.length := by
      have := List.getElem?_eq_some_iff.mp hx
      exact this.1
    have ht : xs.take (i + 1) = xs.take i ++ [x] := by rw [List.take_add_one, hx]; rfl
    refine hs i x H (fun y H4 => LcEl D (fun ys H => Same H1 H ∧ H D = some (.lst ys) ∧ ys = ((xs.take (i + 1)).filter p).map F ∧ ys.length ≤ i + 1) y H4) (fun H3 => ∃ ys, Same H1 H3 ∧ H3 D = some (.lst ys) ∧ ys = ((xs.take (i + 1)).filter p).map F ∧ ys.length ≤ i + 1) hx s1 (fun hp H'' s2 => ?_) fun hp H'' s2 => ?_
    · refine i_lcEl (s2 _ _ e1) (by omega) fun H5 o5 e5 => ⟨Off.new n0 (s1.trans s2) o5, e5, ?_, by simp; omega⟩
      rw [ht, List.filter_append, List.map_append, hy]
      simp [hp]
    · refine ⟨ys, s1.trans s2, s2 _ _ e1, ?_, by omega⟩
      rw [ht, List.filter_append, List.map_append, hy]
      simp [hp]
  · obtain ⟨s1, e1, hy, hl⟩ := h
    rw [List.take_length] at hy
    rw [hy] at e1
    exact q D H n0 s1 e1
theorem l_map {J : It} {xs : List V} {G : Hp → Prop} (W : Wk J xs G) {g : TG} {te : TE} {vs : List Nat} {Q : VK} {σ : L2.St} {H1 : Hp} (F : V → V) (hlen : xs.length < sizeLine) (hG : ∀ H', Same H1 H' → G H')
    (hs : ∀ (i : Nat) x H' (R : VK), xs[i]? = some x → Same H1 H' → (∀ H'', Same H' H'' → R (F x) H'') → g x (wipe σ vs) H' fun σ2 H2 => wipe σ2 vs = wipe σ vs ∧ te σ2 H2 R)
    (q : ∀ D H', H1 D = none → Same H1 H' → H' D = some (.lst (xs.map F)) → Q (.ref D) H') : LcR J g tYes te vs σ H1 Q := by
  refine l_filter W (fun _ => true) F hlen hG (fun i x H' R N hx s1 hR _ => ?_) (fun D H' n s e => q D H' n s (by rw [e, List.filter_eq_self.mpr (by simp)]))
  have e : (fun (σ2 : L2.St) H2 => wipe σ2 vs = wipe σ vs ∧ tYes σ2 H2 fun b H3 => if b = true then te σ2 H3 R else N H3) = fun σ2 H2 => wipe σ2 vs = wipe σ vs ∧ te σ2 H2 R := by
    funext σ2 H2
    show (_ ∧ if true = true then te σ2 H2 R else N H2) = _
    rw [if_pos rfl]
  rw [e]
  exact hs i x H' R hx s1 (hR rfl)
section
variable {K : PySem.W.Frag} {σ σ' : L2.St} {H : Hp} {Q : VK} {D : Ends} {a b c : TE}
theorem i_var {i : Nat} {v : V} (h : σ[i]? = some (some v)) (q : Q v H) : tVar i σ H Q := ⟨v, h, q⟩
theorem i_c {v : V} (q : Q v H) : tC v σ H Q := q
theorem i_op {r : R2} (q : a σ H fun x H1 => b σ H1 fun y H2 => r x y H2 Q) : tOp r a b σ H Q := q
theorem i_un {r : V → Hp → VK → Prop} (q : a σ H fun x H1 => r x H1 Q) : tUn r a σ H Q := q
theorem i_rI {C : Int → Int → Prop} {g : Int → Int → V} {i j : Int} (c : C i j) (q : Q (g i j) H) : rI C g (.int i) (.int j) H Q := ⟨i, j, rfl, rfl, c, q⟩
theorem i_rI0 {g : Int → Int → V} {i j : Int} (q : Q (g i j) H) : rI0 g (.int i) (.int j) H Q := ⟨i, j, rfl, rfl, q⟩
theorem i_rU {g : Int → V} {i : Int} (q : Q (g i) H) : rU g (.int i) H Q := ⟨i, rfl, q⟩
theorem i_rEq {x y : V} (h : scal x y = true) (q : Q (.bl (decide (x = y))) H) : rEq x y H Q := ⟨h, q⟩
theorem i_rNe {x y : V} (h : scal x y = true) (q : Q (.bl (!decide (x = y))) H) : rNe x y H Q := ⟨h, q⟩
theorem i_rIxL {p : Addr} {xs : List V} {i : Int} {v : V} (h : SqL K H p xs) (e : atI xs i = some v) (q : Q v H) : rIxL K (.ref p) (.int i) H Q := ⟨p, xs, i, v, rfl, rfl, h, e, q⟩
theorem i_rIxT {p : Addr} {xs : List V} {i : Int} {v : V} (h : SqT K H p xs) (e : atI xs i = some v) (q : Q v H) : rIxT K (.ref p) (.int i) H Q := ⟨p, xs, i, v, rfl, rfl, h, e, q⟩
theorem i_rIxS {z : Str} {i : Int} {c : Nat} (h : z.length ≤ sizeLine) (e : atI z.cps.toList i = some c) (q : Q (.str ⟨#[c]⟩) H) : rIxS (.str z) (.int i) H Q := ⟨z, i, c, rfl, rfl, h, e, q⟩
theorem i_rSlS {z : Str} {lo hi : Option Int} (h : z.length ≤ sizeLine) (q : Q (.str (cutS z lo hi)) H) : rSlS (.str z) lo hi H Q := ⟨z, rfl, h, q⟩
theorem i_rSlL {p : Addr} {xs : List V} {lo hi : Option Int} (h : SqL K H p xs) (q : NewR H (.lst (cutV xs lo hi)) Q) : rSlL K (.ref p) lo hi H Q := ⟨p, xs, rfl, h, q⟩
theorem i_noPart {R : Option Int → Hp → Prop} (q : R none H) : tNoPart σ H R := q
theorem i_part {R : Option Int → Hp → Prop} (q : a σ H fun x H1 => ∃ i, x = .int i ∧ R (some i) H1) : tPart a σ H R := q
theorem i_sl {r : V → Option Int → Option Int → Hp → VK → Prop} {tl th : TO} (q : a σ H fun x H1 => tl σ H1 fun l H2 => th σ H2 fun u H3 => r x l u H3 Q) : tSl r a tl th σ H Q := q
theorem i_test {R : Bool → Hp → Prop} (q : a σ H fun x H1 => ∃ k, x = .bl k ∧ R k H1) : tTest a σ H R := q
theorem i_tB {R : Bool → Hp → Prop} (q : a σ H fun x H1 => ∃ k, x = .bl k ∧ R k H1) : tB a σ H R := q
theorem i_exbl {R : Bool → Hp → Prop} {k : Bool} (q : R k H) : ∃ k', V.bl k = .bl k' ∧ R k' H := ⟨k, rfl, q⟩
theorem i_exint {R : Int → Prop} {k : Int} (q : R k) : ∃ k', V.int k = .int k' ∧ R k' := ⟨k, rfl, q⟩
theorem i_and {t u : TT} {R : Bool → Hp → Prop} (q : t σ H fun c H1 => if c = true then u σ H1 R else R false H1) : tAnd t u σ H R := q
theorem i_or {t u : TT} {R : Bool → Hp → Prop} (q : t σ H fun c H1 => if c = true then R true H1 else u σ H1 R) : tOr t u σ H R := q
theorem i_not {t : TT} {R : Bool → Hp → Prop} (q : t σ H fun c H1 => R (!c) H1) : tNot t σ H R := q
theorem i_andV (q : a σ H fun x H1 => ∃ c, x = .bl c ∧ if c = true then b σ H1 Q else Q (.bl false) H1) : tAndV a b σ H Q := q
theorem i_orV (q : a σ H fun x H1 => ∃ c, x = .bl c ∧ if c = true then Q (.bl true) H1 else b σ H1 Q) : tOrV a b σ H Q := q
theorem i_notV (q : a σ H fun x H1 => ∃ c, x = .bl c ∧ Q (.bl (!c)) H1) : tNotV a σ H Q := q
theorem i_if {t : TT} (q : t σ H fun c H1 => if c = true then a σ H1 Q else b σ H1 Q) : tIf t a b σ H Q := q
theorem i_chain {r r' : R2} (q : a σ H fun x H1 => b σ H1 fun y H2 => r x y H2 fun z H3 => ∃ k, z = .bl k ∧ (if k = true then c σ H3 fun w' H4 => r' y w' H4 Q else Q (.bl false) H3)) : tChain r r' a b c σ H Q := q
theorem i_next {f g k : L2.St → Hp → Prop} (q : f σ H) : tNext ⟨f, Q, g, k⟩ σ H := q
theorem i_seq {t u : TS} {f g k : L2.St → Hp → Prop} (q : t ⟨u ⟨f, Q, g, k⟩, Q, g, k⟩ σ H) : tSeq t u ⟨f, Q, g, k⟩ σ H := q
theorem i_drop {f g k : L2.St → Hp → Prop} (q : a σ H fun _ H1 => f σ H1) : tDrop a ⟨f, Q, g, k⟩ σ H := q
theorem i_ret {f g k : L2.St → Hp → Prop} (q : a σ H Q) : tRet a ⟨f, Q, g, k⟩ σ H := q
theorem i_retN {f g k : L2.St → Hp → Prop} (q : Q .non H) : tRetN ⟨f, Q, g, k⟩ σ H := q
theorem i_ifS {c : TT} {t u : TS} (q : c σ H fun b H1 => if b = true then t D σ H1 else u D σ H1) : tIfS c t u D σ H := q
theorem i_asg {g : TG} {f g1 k : L2.St → Hp → Prop} (q : a σ H fun x H1 => g x σ H1 f) : tAsg a g ⟨f, Q, g1, k⟩ σ H := q
theorem i_par {i j : Nat} {t : TA} {f g1 k : L2.St → Hp → Prop} (q : t σ H fun vs H1 => ∃ v w, vs = [v, w] ∧ f ((σ.set i (some v)).set j (some w)) H1) : tPar i j t ⟨f, Q, g1, k⟩ σ H := q
theorem i_ex2 {R : V → V → Prop} {v w : V} (q : R v w) : ∃ v' w', [v, w] = [v', w'] ∧ R v' w' := ⟨v, w, rfl, q⟩
theorem i_aug {i : Nat} {x : V} {ti : TIp} {f g1 k : L2.St → Hp → Prop} (h : σ[i]? = some (some x)) (q : a σ H fun y H1 => ti x y H1 fun z H2 => f (σ.set i (some z)) H2) : tAug i a ti ⟨f, Q, g1, k⟩ σ H := ⟨x, h, q⟩
theorem i_gName {i : Nat} {v : V} {R : L2.St → Hp → Prop} (h : σ.set i (some v) = σ') (q : R σ' H) : gName i v σ H R := by
  subst h; exact q
theorem i_gNil {R : L2.St → Hp → Prop} (q : R σ H) : gNil [] σ H R := ⟨rfl, q⟩
theorem i_gCons {v : V} {r : List V} {g : TG} {u : TGs} {R : L2.St → Hp → Prop} (q : g v σ H fun s h => u r s h R) : gCons g u (v :: r) σ H R := ⟨v, r, rfl, q⟩
theorem i_gTup {p : Addr} {xs : List V} {n : Nat} {t : TGs} {R : L2.St → Hp → Prop} (h : SqT K H p xs) (e : xs.length = n) (q : t xs σ H R) : gTup K n t (.ref p) σ H R := ⟨p, xs, rfl, h, e, q⟩
theorem i_gSub {v : V} {t : TSet} {R : L2.St → Hp → Prop} (q : a σ H fun o H1 => b σ H1 fun i H2 => t o i v H2 fun H3 => R σ H3) : gSub a b t v σ H R := q
theorem i_rSetL {p : Addr} {xs : List V} {k : Int} {j : Nat} {v : V} {R : Hp → Prop} (h : H p = some (.lst xs)) (e : ixN xs.length k = some j) (q : PutR H p (.lst (xs.set j v)) R) : rSetL (.ref p) (.int k) v H R := ⟨p, xs, k, j, rfl, rfl, h, e, q⟩
theorem i_nil {R : List V → Hp → Prop} (q : R [] H) : tNil σ H R := q
theorem i_cons {t : TA} {R : List V → Hp → Prop} (q : a σ H fun x H1 => t σ H1 fun xs H2 => R (x :: xs) H2) : tCons a t σ H R := q
theorem i_tup {t : TA} (q : t σ H fun xs H1 => xs.length ≤ sizeLine ∧ NewR H1 (.tup xs) Q) : tTup t σ H Q := q
theorem i_lst {t : TA} (q : t σ H fun xs H1 => xs.length ≤ sizeLine ∧ NewR H1 (.lst xs) Q) : tLst t σ H Q := q
theorem i_newDK (q : NewR H (.dK []) Q) : tDNewK σ H Q := q
theorem i_disp {trs : List (TE × TE)} (q : DispR trs σ H Q) : tDisp trs σ H Q := q
theorem i_pairs0 {R : List (V × V) → Hp → Prop} (q : R [] H) : tPairs [] σ H R := q
theorem i_pairs1 {r : List (TE × TE)} {R : List (V × V) → Hp → Prop} (q : a σ H fun x H1 => b σ H1 fun y H2 => tPairs r σ H2 fun ps H3 => R ((x, y) :: ps) H3) : tPairs ((a, b) :: r) σ H R := q
theorem i_call {sp : Sp} {dvs : List V} {E : XK} {t : TA} (q : t σ H fun vs H1 => sp (vs ++ dvs) H1 Q E) : tCall sp dvs E t σ H Q := q
theorem i_cb {r : List V → Hp → VK → Prop} {t : TA} (q : t σ H fun vs H1 => r vs H1 Q) : tCB r t σ H Q := q
theorem i_bm {T : String} {r : V → List V → Hp → VK → Prop} {t : TA} (q : a σ H fun x H1 => tyV K T x H1 ∧ t σ H1 fun xs H2 => r x xs H2 Q) : tBM K T r a t σ H Q := q
theorem i_m1 {r : V → List V → Hp → VK → Prop} (q : a σ H fun x H1 => (∃ a, x = .str a) ∧ b σ H1 fun y H2 => r x [y] H2 Q) : tM1 r a b σ H Q := q
theorem i_m0 {r : V → List V → Hp → VK → Prop} (q : a σ H fun x H1 => (∃ a, x = .str a) ∧ r x [] H1 Q) : tM0 r a σ H Q := q
theorem i_rAppend {l : Addr} {xs : List V} {y : V} (h : H l = some (.lst xs)) (z : xs.length < sizeLine) (q : PutR H l (.lst (xs ++ [y])) (Q .non)) : rAppend (.ref l) [y] H Q := ⟨l, xs, y, rfl, rfl, h, z, q⟩
theorem i_rAll {p : Addr} {bs : List Bool} (h : SqL K H p (bs.map V.bl)) (q : Q (.bl (bs.all id)) H) : rAll K [.ref p] H Q := ⟨p, bs, rfl, h, q⟩
theorem i_rng1 {t : TA} {R : It → Hp → Prop} (q : t σ H fun vs H1 => ∃ j : Int, vs = [.int j] ∧ -(2 ^ 62) ≤ j ∧ j < 2 ^ 62 ∧ R (Itr 0 j.toNat) H1) : iRng1 t σ H R := q
theorem i_exrng {R : It → Hp → Prop} {j : Int} (h1 : -(2 ^ 62) ≤ j) (h2 : j < 2 ^ 62) (q : R (Itr 0 j.toNat) H) : ∃ j' : Int, [V.int j] = [.int j'] ∧ -(2 ^ 62) ≤ j' ∧ j' < 2 ^ 62 ∧ R (Itr 0 j'.toNat) H := ⟨j, rfl, h1, h2, q⟩
theorem i_iList {R : It → Hp → Prop} (q : a σ H fun x H1 => ∃ p, x = .ref p ∧ (∃ xs, SqL K H1 p xs) ∧ R (Itl K p) H1) : iList K a σ H R := q
theorem i_exl {R : It → Hp → Prop} {p : Addr} {xs : List V} (h : SqL K H p xs) (q : R (Itl K p) H) : ∃ p', V.ref p = .ref p' ∧ (∃ xs, SqL K H p' xs) ∧ R (Itl K p') H := ⟨p, rfl, ⟨xs, h⟩, q⟩
theorem i_iStr {R : It → Hp → Prop} (q : a σ H fun v H1 => ∃ x, v = .str x ∧ R (Its x) H1) : iStr a σ H R := q
theorem i_exs {R : Str → Prop} {x : Str} (q : R x) : ∃ x', V.str x = .str x' ∧ R x' := ⟨x, rfl, q⟩
theorem i_for {wi : TI} {g : TG} {tb : TS} (q : wi σ H fun J H1 => ForR J g tb D σ H1) : tFor wi g tb D σ H := q
theorem i_lc {wi : TI} {g : TG} {tt : TT} {te : TE} {vs : List Nat} (q : wi σ H fun J H1 => LcR J g tt te vs σ H1 Q) : tLc wi g tt te vs σ H Q := q
theorem i_yes {R : Bool → Hp → Prop} (q : R true H) : tYes σ H R := q
theorem i_ite {c : Bool} {A B : Prop} (h1 : c = true → A) (h2 : c = false → B) : if c = true then A else B := by
  cases c with
  | true => rw [if_pos rfl]; exact h1 rfl
  | false => rw [if_neg Bool.false_ne_true]; exact h2 rfl
theorem i_iteT {A B : Prop} (h : A) : if true = true then A else B := by rw [if_pos rfl]; exact h
theorem i_iteF {A B : Prop} (h : B) : if false = true then A else B := by rw [if_neg Bool.false_ne_true]; exact h
/-- divmod, over a heap that is told by what it holds -/
def rDivmod : List V → Hp → VK → Prop := fun xs H Q => ∃ i j, xs = [.int i, .int j] ∧ CDivP i j ∧ NewR H (.tup [.int (i / j), .int (i % j)]) Q
theorem call_divmodN {X : Cx} : CallR X (.builtin "divmod") rDivmod := fun pins s σ H xs us Q I r ⟨i, j, e, c, q⟩ => call_divmodW pins s σ H xs us Q I r ⟨i, j, e, c, q⟩
theorem i_divmod {i j : Int} (c : CDivP i j) (q : NewR H (.tup [.int (i / j), .int (i % j)]) Q) : rDivmod [.int i, .int j] H Q := ⟨i, j, rfl, c, q⟩
theorem i_rCat {l b : Addr} {xs zs : List V} (h : H l = some (.lst xs)) (k : H b = some (.lst zs)) (z : xs.length + zs.length ≤ sizeLine) (q : NewR H (.lst (xs ++ zs)) Q) : rCat (.ref l) (.ref b) H Q := ⟨l, b, xs, zs, rfl, rfl, h, k, z, q⟩
def rCatS : R2 := fun x y H Q => ∃ i j, x = .str i ∧ y = .str j ∧ i.length + j.length ≤ sizeLine ∧ Q (.str (i ++ j)) H
theorem op_catS {X : Cx} : OpR X (binaryOp .Add) rCatS := op_add_str
theorem i_rCatS {i j : Str} (h : i.length + j.length ≤ sizeLine) (q : Q (.str (i ++ j)) H) : rCatS (.str i) (.str j) H Q := ⟨i, j, rfl, rfl, h, q⟩
def rJoin (K : PySem.W.Frag) : V → List V → Hp → VK → Prop := fun x xs H Q => ∃ a p, ∃ ys : List Str, x = .str a ∧ xs = [.ref p] ∧ (SqL K H p (ys.map V.str) ∨ SqT K H p (ys.map V.str)) ∧ (ys.map (·.length)).sum + ys.length * a.length ≤ 16777216 ∧ Q (.str (Txt.join a ys)) H
theorem pe_joinN {X : Cx} {o e : Expr} {to te : TE} {apos pos : Pos} (ho : PE X o to) (he : PE X e te) (hs : starEach [e] X.env = [(false, eval e X.env)] := by rfl) (hbase : attributeBase o "join" X.env (eval o X.env) = eval o X.env := by rfl) (hline : (apos.endLine == pos.line) = true := by rfl) :
    PE X (.Call (.Attribute o "join" apos) [e] [] pos) (tM1 (rJoin X.K) to te) := pe_join ho he hs hbase hline
theorem i_join {a : Str} {p : Addr} {ys : List Str} (h : SqL K H p (ys.map V.str)) (z : (ys.map (·.length)).sum + ys.length * a.length ≤ 16777216) (q : Q (.str (Txt.join a ys)) H) : rJoin K (.str a) [.ref p] H Q := ⟨a, p, ys, rfl, rfl, .inl h, z, q⟩
theorem i_exstr {x : Str} {R : Prop} (q : R) : (∃ a, V.str x = .str a) ∧ R := ⟨⟨x, rfl⟩, q⟩
end
end KX

namespace KX
open PySem PySem.Spec PyProof.Rows L2
/-! ### texts -/
def okS (x : Str) (n : Nat) : Prop := x.length ≤ n ∧ ∀ c ∈ x.cps.toList, c < 1114112
theorem okS.mono {x : Str} {n m : Nat} (h : okS x n) (k : n ≤ m) : okS x m := ⟨Nat.le_trans h.1 k, h.2⟩
theorem okS.app {x y : Str} {n m : Nat} (h : okS x n) (k : okS y m) : okS (x ++ y) (n + m) := by
  refine ⟨?_, fun c hc => ?_⟩
  · rw [Str.length_append]; have := h.1; have := k.1; omega
  · have e : (x ++ y).cps = x.cps ++ y.cps := rfl
    rw [e, Array.toList_append] at hc
    rcases List.mem_append.mp hc with hc | hc
    · exact h.2 c hc
    · exact k.2 c hc
theorem okS.cut {x : Str} {n : Nat} (h : okS x n) (lo hi : Option Int) : okS (cutS x lo hi) n := by
  refine ⟨?_, fun c hc => ?_⟩
  · have e : (cutS x lo hi).length = (cutS x lo hi).cps.toList.length := rfl
    have l : x.length = x.cps.toList.length := rfl
    rw [e]; unfold cutS
    show ((x.cps.toList.drop _).take _).length ≤ n
    rw [List.length_take, List.length_drop]
    have := h.1; omega
  · unfold cutS at hc
    exact h.2 c (List.mem_of_mem_drop (List.mem_of_mem_take hc))
theorem okS.one {c : Nat} (h : c < 1114112) : okS ⟨#[c]⟩ 1 := ⟨Nat.le_refl _, fun d hd => by
  have : d = c := by simpa using hd
  rw [this]; exact h⟩
theorem okS.atI {x : Str} {n : Nat} (h : okS x n) {i : Int} {c : Nat} (e : atI x.cps.toList i = some c) : okS ⟨#[c]⟩ 1 := by
  unfold L2.atI at e
  cases q : ixN x.cps.toList.length i with
  | none => rw [q] at e; cases e
  | some j =>
    rw [q] at e
    exact okS.one (h.2 c (List.mem_of_getElem? e))
theorem okS.line {x : Str} {n : Nat} (h : okS x n) (k : n ≤ 16777216) : x.length ≤ sizeLine := by rw [sizeLine_eq]; exact Nat.le_trans h.1 k
/-! ### what is shown, bounded -/
theorem shown_str_le {x : Str} {n : Nat} (h : okS x n) : (PyData.str x).shown.length ≤ 10 * n + 2 := by
  simp only [PyData.shown]
  have := StrLaws.reprText_len x (fun c hc => Nat.lt_of_lt_of_le (h.2 c hc) (by decide))
  have := h.1; omega
theorem Shw.of_str {x : Str} {n : Nat} (h : okS x n) (k : n ≤ 100000) : Shw (.str x) := ⟨rfl, by simp [PyData.depth], by have := shown_str_le h; rw [sizeLine_eq]; omega⟩
/-! ### kinds -/
def tyN : PyData → String
  | .none => "NoneType" | .bool _ => "bool" | .int _ => "int" | .str _ => "str" | .list _ => "list" | .tuple _ => "tuple" | .dict _ => "dict"
theorem DaF.ty {b : Bool} {K : PySem.W.Frag} {H : Hp} {v : V} {d : PyData} (h : DaF b K H v d) : TyX K H v (.type (tyN d)) := by
  cases h with
  | non => exact .base .non
  | bl b => exact .base (.bl b)
  | int i => exact .base (.int i)
  | str x => exact .base (.str x)
  | lst h _ _ =>
    rcases h with (h | ⟨o, h⟩) | ⟨o, its, n, h, hc, _⟩
    · exact .base (.lst h)
    · exact .base (.frz h)
    · exact .kList h hc
  | tup h _ =>
    rcases h with (h | ⟨o, h⟩) | ⟨o, its, n, h, hc, _⟩
    · exact .base (.tup h)
    · exact .fTuple h
    · exact .kTuple h hc
  | dic h _ =>
    rcases h with h | ⟨o, h⟩
    · exact .base (.dK h)
    · exact .fDict h
def isi (d : PyData) (T : String) : Bool := tyN d == T || (tyN d == "bool" && T == "int")
theorem kit_isi : ∀ (d : PyData) (T : String), T ∈ ["int", "bool", "str", "tuple", "list", "dict"] → kitB (tyN d) T = some (isi d T) := by
  intro d T h
  have all : ∀ a ∈ ["NoneType", "bool", "int", "str", "list", "tuple", "dict"], ∀ T ∈ ["int", "bool", "str", "tuple", "list", "dict"], kitB a T = some (a == T || (a == "bool" && T == "int")) := by decide +kernel
  exact all (tyN d) (by cases d <;> simp [tyN]) T h
def rIsiD (K : PySem.W.Frag) : List V → Hp → VK → Prop := fun xs H Q => ∃ b v d T, xs = [v, .ty T] ∧ DaF b K H v d ∧ T ∈ ["int", "bool", "str", "tuple", "list", "dict"] ∧ Q (.bl (isi d T)) H
theorem call_isiD {X : Cx} : CallR X (.builtin "isinstance") (rIsiD X.K) := by
  intro pins s σ H xs us Q I r h
  obtain ⟨_, v, d, T, rfl, hd, hT, q⟩ := h
  exact call_isi pins s σ H _ us Q I r ⟨v, .ty T, _, _, _, rfl, .ty T, hd.ty, kit_ty (kit_isi d T hT), q⟩
theorem i_isi {b : Bool} {K : PySem.W.Frag} {H : Hp} {Q : VK} {v : V} {d : PyData} {T : String} (h : DaF b K H v d) (hT : T ∈ ["int", "bool", "str", "tuple", "list", "dict"]) (q : Q (.bl (isi d T)) H) : rIsiD K [v, .ty T] H Q := ⟨b, v, d, T, rfl, h, hT, q⟩
/-! ### len -/
def rLen (K : PySem.W.Frag) : List V → Hp → VK → Prop := fun xs H Q => ∃ x n, xs = [x] ∧ LenV K x H n ∧ Q (.int n) H
theorem call_lenN {X : Cx} : CallR X (.builtin "len") (rLen X.K) := call_len
theorem i_lenS {K : PySem.W.Frag} {H : Hp} {Q : VK} {x : Str} (h : x.length ≤ sizeLine) (q : Q (.int x.length) H) : rLen K [.str x] H Q := ⟨_, _, rfl, ⟨h, rfl⟩, q⟩
theorem i_lenL {K : PySem.W.Frag} {H : Hp} {Q : VK} {p : Addr} {xs : List V} (h : SqL K H p xs) (q : Q (.int xs.length) H) : rLen K [.ref p] H Q := ⟨_, _, rfl, .inl ⟨_, h, rfl⟩, q⟩
theorem i_lenT {K : PySem.W.Frag} {H : Hp} {Q : VK} {p : Addr} {xs : List V} (h : SqT K H p xs) (q : Q (.int xs.length) H) : rLen K [.ref p] H Q := ⟨_, _, rfl, .inr ⟨_, h, rfl⟩, q⟩
/-! ### repr -/
def rRepr (K : PySem.W.Frag) : List V → Hp → VK → Prop := fun xs H Q => ∃ b v d, xs = [v] ∧ DaF b K H v d ∧ (b = true ∨ d.hasDict = false) ∧ Shw d ∧ Q (.str d.shown) H
theorem i_repr {b : Bool} {K : PySem.W.Frag} {H : Hp} {Q : VK} {v : V} {d : PyData} (h : DaF b K H v d) (n : b = true ∨ d.hasDict = false) (w : Shw d) (q : Q (.str d.shown) H) : rRepr K [v] H Q := ⟨b, v, d, rfl, h, n, w, q⟩
/-! ### min, max, abs -/
theorem i_abs {H : Hp} {Q : VK} {i : Int} (q : Q (.int (if i < 0 then -i else i)) H) : ∃ j, [V.int i] = [.int j] ∧ Q (.int (if j < 0 then -j else j)) H := ⟨i, rfl, q⟩
theorem i_max {H : Hp} {Q : VK} {i j : Int} (q : Q (.int (if j > i then j else i)) H) : ∃ a b, [V.int i, V.int j] = [.int a, .int b] ∧ Q (.int (if b > a then b else a)) H := ⟨i, j, rfl, q⟩
theorem i_min {H : Hp} {Q : VK} {i j : Int} (q : Q (.int (if j < i then j else i)) H) : ∃ a b, [V.int i, V.int j] = [.int a, .int b] ∧ Q (.int (if b < a then b else a)) H := ⟨i, j, rfl, q⟩
/-! ### deep == -/
mutual
theorem DaF.dp {b : Bool} {K : PySem.W.Frag} {H : Hp} : ∀ {v : V} {d : PyData}, DaF b K H v d → d.hasDict = false → Dp K H v d
  | _, _, .non, _ => .non
  | _, _, .bl b, _ => .bl b
  | _, _, .int i, _ => .int i
  | _, _, .str x, _ => .str x
  | _, _, .lst h _ a, k => .lst h (DaAllF.dp a (by simpa [PyData.hasDict] using k))
  | _, _, .tup h a, k => .tup h (DaAllF.dp a (by simpa [PyData.hasDict] using k))
  | _, _, .dic h a, k => by simp [PyData.hasDict] at k
theorem DaAllF.dp {b : Bool} {K : PySem.W.Frag} {H : Hp} : ∀ {vs : List V} {ds : List PyData}, DaAllF b K H vs ds → PyData.hasDictAll ds = false → DpAll K H vs ds
  | _, _, .nil, _ => .nil
  | _, _, .cons a r, k => by
    simp only [PyData.hasDictAll, Bool.or_eq_false_iff] at k
    exact .cons (DaF.dp a k.1) (DaAllF.dp r k.2)
end
theorem strOk_of {x : Str} {n : Nat} (h : okS x n) : PyData.strOk x = true := by
  unfold PyData.strOk
  rw [Array.all_eq_true]
  intro i hi
  exact decide_eq_true (h.2 _ (by simp))
/-- a list of texts of one sign -/
def signsD (l : List Nat) : List PyData := l.map fun c => .str ⟨#[c]⟩
/-! ### the law's numbers: a list of two ints that each draw turns -/
def Rok (H : Hp) (r : Addr) : Prop := ∃ a b : Int, H r = some (.lst [.int a, .int b]) ∧ 0 ≤ b ∧ b < 2147483588
theorem Rok.same {H H' : Hp} {r : Addr} (s : Same H H') (h : Rok H r) : Rok H' r := let ⟨a, b, e, k⟩ := h; ⟨a, b, s _ _ e, k⟩
theorem Rok.off {H H' : Hp} {r p : Addr} (s : Off p H H') (n : r ≠ p) (h : Rok H r) : Rok H' r := let ⟨a, b, e, k⟩ := h; ⟨a, b, s.get n e, k⟩
theorem Rok.ne {H : Hp} {r p : Addr} (h : Rok H r) (n : H p = none) : p ≠ r := let ⟨_, _, e, _⟩ := h; (ne_of_none e n).symm
/-- a comprehension whose element draws -/
theorem l_rng {J : It} {xs : List V} {G : Hp → Prop} (W : Wk J xs G) {g : TG} {te : TE} {vs : List Nat} {Q : VK} {σ : L2.St} {H1 : Hp} (r : Addr) (ok : Nat → V → Prop) (hlen : xs.length < sizeLine) (h0 : Rok H1 r) (hG : ∀ H', Off r H1 H' → G H')
    (hs : ∀ (i : Nat) x H' (R : VK), xs[i]? = some x → Off r H1 H' → Rok H' r → (∀ y H'', ok i y → Off r H' H'' → Rok H'' r → R y H'') → g x (wipe σ vs) H' fun σ2 H2 => wipe σ2 vs = wipe σ vs ∧ te σ2 H2 R)
    (q : ∀ D H' ys, H1 D = none → D ≠ r → Off r H1 H' → Rok H' r → H' D = some (.lst ys) → ys.length = xs.length → (∀ (i : Nat) y, ys[i]? = some y → ok i y) → Q (.ref D) H') : LcR J g tYes te vs σ H1 Q := by
  refine l_wk W fun D H0 n0 s0 e0 => ⟨fun i ys H => Off r H1 H ∧ Rok H r ∧ H D = some (.lst ys) ∧ ys.length = i ∧ ∀ (j : Nat) y, ys[j]? = some y → ok j y, ⟨.of_same s0, h0.same s0, e0, rfl, fun j y h => by simp at h⟩, fun i ys H h => hG _ h.1, fun i ys x H hx h => ?_, fun ys H h => ?_⟩
  · obtain ⟨o1, r1, e1, hl, hy⟩ := h
    have hi : i < xs.length := (List.getElem?_eq_some_iff.mp hx).1
    have hDr : D ≠ r := h0.ne n0
    let R : VK := fun y H4 => LcEl D (fun ys H => Off r H1 H ∧ Rok H r ∧ H D = some (.lst ys) ∧ ys.length = i + 1 ∧ ∀ (j : Nat) y, ys[j]? = some y → ok j y) y H4
    have e : (fun (σ2 : L2.St) H2 => wipe σ2 vs = wipe σ vs ∧ tYes σ2 H2 fun b H3 => if b = true then te σ2 H3 R else ∃ ys, Off r H1 H3 ∧ Rok H3 r ∧ H3 D = some (.lst ys) ∧ ys.length = i + 1 ∧ ∀ (j : Nat) y, ys[j]? = some y → ok j y) = fun σ2 H2 => wipe σ2 vs = wipe σ vs ∧ te σ2 H2 R := by
      funext σ2 H2
      show (_ ∧ if true = true then te σ2 H2 R else (∃ ys, Off r H1 H2 ∧ Rok H2 r ∧ H2 D = some (.lst ys) ∧ ys.length = i + 1 ∧ ∀ (j : Nat) y, ys[j]? = some y → ok j y)) = _
      rw [if_pos rfl]
    rw [e]
    refine hs i x H R hx o1 r1 fun y H'' hk o2 r2 => ?_
    refine i_lcEl (Off.get o2 hDr e1) (by omega) fun H5 o5 e5 => ⟨Off.thenF o5 n0 (Off.refl _ _) (o1.trans o2), r2.off o5 hDr.symm, e5, by simp [hl], fun j z hj => ?_⟩
    by_cases hlt : j < ys.length
    · rw [List.getElem?_append_left hlt] at hj
      exact hy j z hj
    · have hj' : j = i := by
        have := (List.getElem?_eq_some_iff.mp hj).1
        rw [List.length_append] at this
        simp at this
        omega
      subst hj'
      rw [← hl, List.getElem?_append_right (Nat.le_refl _)] at hj
      simp at hj
      rw [← hj]; exact hk
  · obtain ⟨o1, r1, e1, hl, hy⟩ := h
    exact q D H ys n0 (h0.ne n0) o1 r1 e1 hl hy
end KX

namespace KX
open PySem PySem.Spec PyProof.Rows L2
/-! ### what stands at one address stays -/
def Kp (a : Addr) (H H' : Hp) : Prop := ∀ o, H a = some o → H' a = some o
theorem Kp.refl {a : Addr} {H : Hp} : Kp a H H := fun _ e => e
theorem Kp.thenS {a : Addr} {H H1 H2 : Hp} (b : Same H1 H2) (k : Kp a H H1) : Kp a H H2 := fun o e => b _ _ (k o e)
theorem Kp.thenO {a p : Addr} {H H1 H2 : Hp} (b : Off p H1 H2) (n : a ≠ p) (k : Kp a H H1) : Kp a H H2 := fun o e => b _ _ n (k o e)
theorem Kp.get {a : Addr} {H H' : Hp} {o : HO} (h : H a = some o) (k : Kp a H H') : H' a = some o := k o h
theorem Rok.ne' {H : Hp} {r p : Addr} (n : H p = none) (h : Rok H r) : p ≠ r := h.ne n
theorem Rok.kp {H H' : Hp} {r : Addr} (h : Rok H r) (k : Kp r H H') : Rok H' r := let ⟨a, b, e, z⟩ := h; ⟨a, b, k _ e, z⟩
/-! ### data that may be shown and compared -/
structure OkD (d : PyData) : Prop where
  sh : Shw d
  st : ∀ x, d = .str x → okS x 16777216
def okdB (d : PyData) : Bool := d.showable && (decide (d.depth ≤ 20) && (decide (d.shown.length ≤ 16777216) && match d with
  | .str x => decide (x.length ≤ 16777216) && x.cps.toList.all fun c => decide (c < 1114112)
  | _ => true))
theorem okd_of {d : PyData} (h : okdB d = true) : OkD d := by
  unfold okdB at h
  simp only [Bool.and_eq_true, decide_eq_true_eq] at h
  obtain ⟨h1, h2, h3, h4⟩ := h
  refine ⟨⟨h1, h2, by rw [sizeLine_eq]; exact h3⟩, fun x e => ?_⟩
  subst e
  simp only [Bool.and_eq_true, decide_eq_true_eq, List.all_eq_true] at h4
  exact ⟨h4.1, h4.2⟩
theorem OkD.int {i : Int} (h : i.natAbs.log2 < 1920) : OkD (.int i) := ⟨⟨by simpa [PyData.showable] using h, by simp [PyData.depth], by rw [PyData.shown_int]; exact int_text_fits h⟩, fun x e => by cases e⟩
theorem OkD.str {x : Str} {n : Nat} (h : okS x n) (k : n ≤ 100000) : OkD (.str x) := ⟨Shw.of_str h k, fun y e => by cases e; exact h.mono (by omega)⟩
/-! ### the law's call from the top, where the frames' guards are told -/
section
variable {P : Program} {w : World} {K : PySem.W.Frag} {mg mb : Str → Option Value}
abbrev scrO (us : List Value) : Obj := { cls := .type "list", data := .seq us.toArray }
def scrH (K : PySem.W.Frag) (a : Addr) (us : List Value) (ns : List Int) : Hp := fun b =>
  if b = a ∧ K.lookup a = none then some (.frz (scrO us) (.lst (ns.map V.int))) else none
theorem scrH_or (K : PySem.W.Frag) (a : Addr) (us : List Value) (ns : List Int) (b : Addr) :
    scrH K a us ns b = none ∨ (b = a ∧ K.lookup a = none ∧ scrH K a us ns b = some (.frz (scrO us) (.lst (ns.map V.int)))) := by
  unfold scrH
  by_cases h : b = a ∧ K.lookup a = none
  · exact .inr ⟨h.1, h.2, if_pos h⟩
  · exact .inl (if_neg h)
end
end KX

namespace KX
open PySem PySem.Spec PyProof.Rows L2
/-! ### the heap without one address, and the part that is new -/
def wo (r : Addr) (H : Hp) : Hp := fun b => if b = r then none else H b
theorem wo_get {r b : Addr} {H : Hp} (n : b ≠ r) : wo r H b = H b := if_neg n
theorem wo_same {r : Addr} {H : Hp} : Same (wo r H) H := fun b o e => by
  by_cases h : b = r
  · have e' : wo r H b = none := if_pos h
    rw [e'] at e; cases e
  · rwa [wo_get h] at e
theorem Off.wo {r : Addr} {H H' : Hp} (s : Off r H H') : Same (KX.wo r H) (KX.wo r H') := fun b o e => by
  by_cases h : b = r
  · have e' : KX.wo r H b = none := if_pos h
    rw [e'] at e; cases e
  · rw [wo_get h] at e ⊢
    exact s _ _ h e
theorem Same.wo {r : Addr} {H H' : Hp} (s : Same H H') : Same (KX.wo r H) (KX.wo r H') := Off.wo (.of_same s)
def newP (H H' : Hp) : Hp := fun b => if H b = none then H' b else none
theorem newP_same {H H' : Hp} : Same (newP H H') H' := fun b o e => by
  unfold newP at e
  split at e
  · exact e
  · cases e
theorem newP_get {H H' : Hp} {b : Addr} (h : H b = none) : newP H H' b = H' b := if_pos h
theorem newP_mono {H H1 H2 : Hp} (s : Same H1 H2) : Same (newP H H1) (newP H H2) := fun b o e => by
  unfold newP at e ⊢
  split at e
  · next h => rw [if_pos h]; exact s _ _ e
  · cases e
theorem none_of {H H1 : Hp} (s : Same H H1) {b : Addr} (h : H1 b = none) : H b = none := by
  cases e : H b with
  | none => rfl
  | some o => rw [s _ _ e] at h; cases h
theorem newP_back {H H1 H2 : Hp} (s : Same H H1) : Same (newP H1 H2) (newP H H2) := fun b o e => by
  unfold newP at e ⊢
  split at e
  · next h => rw [if_pos (none_of s h)]; exact e
  · cases e
theorem DaAllF.len {b : Bool} {K : PySem.W.Frag} {H : Hp} : ∀ {vs : List V} {ds : List PyData}, DaAllF b K H vs ds → vs.length = ds.length
  | _, _, .nil => rfl
  | _, _, .cons _ r => congrArg (· + 1) (DaAllF.len r)
theorem DaAllF.mem {b : Bool} {K : PySem.W.Frag} {H : Hp} : ∀ {vs : List V} {ds : List PyData}, DaAllF b K H vs ds → ∀ v ∈ vs, ∃ d ∈ ds, DaF b K H v d
  | _, _, .nil, _, h => (nomatch h)
  | _, _, .cons a r, v, h => by
    rcases List.mem_cons.mp h with e | h
    · subst e; exact ⟨_, List.mem_cons_self, a⟩
    · obtain ⟨d, hd, k⟩ := DaAllF.mem r v h
      exact ⟨d, List.mem_cons_of_mem _ hd, k⟩
theorem DaAllF.app {b : Bool} {K : PySem.W.Frag} {H : Hp} : ∀ {vs us : List V} {ds es : List PyData}, DaAllF b K H vs ds → DaAllF b K H us es → DaAllF b K H (vs ++ us) (ds ++ es)
  | _, _, _, _, .nil, k => k
  | _, _, _, _, .cons a r, k => .cons a (DaAllF.app r k)
/-! ### written data -/
mutual
inductive Lit : Expr → PyData → Prop
  | non {j p} : Lit (.Constant .none j p) .none
  | bl {b j p} : Lit (.Constant (.bool b) j p) (.bool b)
  | int {i j p} : Lit (.Constant (.int i) j p) (.int i)
  | str {x j p} : Lit (.Constant (.str x) j p) (.str x)
  | neg {i j p p'} : Lit (.UnaryOp .USub (.Constant (.int i) j p) p') (.int (-i))
  | negE {a i p} : Lit a (.int i) → Lit (.UnaryOp .USub a p) (.int (-i))
  | sub {a b i j p} : Lit a (.int i) → Lit b (.int j) → Lit (.BinOp a .Sub b p) (.int (i - j))
  | pow {a b i j p} : Lit a (.int i) → Lit b (.int j) → 0 ≤ j → j ≤ 1000000 → i.natAbs < 2 ^ 64 → Lit (.BinOp a .Pow b p) (.int (i ^ j.toNat))
  | lst {es ds p} : LitAll es ds → ds.length ≤ 1000 → Lit (.List es p) (.list ds)
  | tup {es ds x p} : LitAll es ds → ds.length ≤ 1000 → Lit (.Tuple es x p) (.tuple ds)
  | dic0 {p} : Lit (.Dict [] [] p) (.dict [])
  | dicI {i j q v d p} : Lit v d → Lit (.Dict [some (.Constant (.int i) j q)] [v] p) (.dict [(.int i, d)])
  | dicS {x j q v d p} : Lit v d → Lit (.Dict [some (.Constant (.str x) j q)] [v] p) (.dict [(.str x, d)])
inductive LitAll : List Expr → List PyData → Prop
  | nil : LitAll [] []
  | cons {e es d ds} : Lit e d → LitAll es ds → LitAll (e :: es) (d :: ds)
end
theorem Lit.star {e : Expr} {d : PyData} (h : Lit e d) (es : List Expr) (env : Env) : starEach (e :: es) env = (false, eval e env) :: starEach es env := by
  cases h <;> rfl
/-- a list display: its address is told to be none of the run's own -/
def tLstN (t : TA) : TE := fun σ H Q => t σ H fun xs H1 => xs.length ≤ sizeLine ∧ ∀ p, H1 p = none → p ≠ sysModules → Q (.ref p) (upd H1 p (.lst xs))
theorem pe_lstN {X : Cx} {es : List Expr} {t : TA} {pos : Pos} (h : PA X es t) : PE X (.List es pos) (tLstN t) :=
  ⟨fun pins s σ H Q I hq => wpAny_List_spliced (thn (h.run pos pins s σ H _ I hq) fun us t1 ⟨xs, H1, J, r, z, q⟩ => by
    have free : H1 t1.heap.objs.size = none := J.hok.fresh (Nat.le_refl _)
    refine ⟨by rw [← r.length]; exact z, .ref t1.heap.objs.size, L2.upd H1 t1.heap.objs.size (.lst xs), J.laid (t' := t1.toks) (fun b u e => Heap.get?_push_of_some _ e) (Nat.le_refl _) ?_, rfl, q _ free (Nat.ne_of_gt J.big)⟩
    exact ⟨z, us, 0, r, Heap.get?_push_size _ rfl⟩)⟩
def NewN (H : Hp) (o : HO) (Q : VK) : Prop := ∀ p, H p = none → p ≠ sysModules → Q (.ref p) (L2.upd H p o)
theorem i_lstN {t : TA} {σ : L2.St} {H : Hp} {Q : VK} (q : t σ H fun xs H1 => xs.length ≤ sizeLine ∧ NewN H1 (.lst xs) Q) : tLstN t σ H Q := q
def tLit (K : PySem.W.Frag) (d : PyData) : TE := fun _ H Q => ∀ v H', Same H H' → DaS K (newP H H') v d → Q v H'
def tLits (K : PySem.W.Frag) (ds : List PyData) : TA := fun _ H Q => ∀ vs H', Same H H' → DaAllS K (newP H H') vs ds → Q vs H'
def tLitL (K : PySem.W.Frag) (ds : List PyData) : TE := fun _ H Q => ∀ p xs H', H p = none → p ≠ sysModules → Same H H' → H' p = some (.lst xs) → DaAllS K (newP H H') xs ds → Q (.ref p) H'
theorem _root_.L2.PE.imp {X : Cx} {e : Expr} {t u : TE} (h : PE X e t) (k : ∀ σ H Q, u σ H Q → t σ H Q) : PE X e u := ⟨fun pins s σ H Q I q => h.run pins s σ H Q I (k _ _ _ q)⟩
theorem _root_.L2.PA.imp {X : Cx} {es : List Expr} {t u : TA} (h : PA X es t) (k : ∀ σ H Q, u σ H Q → t σ H Q) : PA X es u := ⟨fun pos pins s σ H Q I q => h.run pos pins s σ H Q I (k _ _ _ q)⟩
theorem one_dict {H : Hp} {p : Addr} {k : Key} {v : V} {K : PySem.W.Frag} {H1 H2 : Hp} {d : PyData} (hp : H p = none) (s1 : Same (upd H p (.dK [])) H1) (hd : DaS K (newP (upd H p (.dK [])) H1) v d) (e : H2 = upd H1 p (.dK [(k, v)])) :
    Same H H2 ∧ DaS K (newP H H2) (.ref p) (.dict [(keyD k, d)]) := by
  subst e
  have h1 : H1 p = some (.dK []) := s1 _ _ upd_same
  have sH : Same H H1 := (same_new hp).trans s1
  have sn : Same (newP (upd H p (.dK [])) H1) (newP H (upd H1 p (.dK [(k, v)]))) := fun b o e => by
    unfold newP at e ⊢
    split at e
    · next h =>
      have nb : b ≠ p := fun z => by rw [z, upd_same] at h; cases h
      rw [upd_ne nb] at h
      rw [if_pos h, upd_ne nb]; exact e
    · cases e
  refine ⟨fun b o e => ?_, .dic (kvs := [(k, v)]) (Rd.of ?_) (.cons (hd.same sn) .nil)⟩
  · have nb : b ≠ p := fun z => by rw [z, hp] at e; cases e
    rw [upd_ne nb]; exact sH _ _ e
  · rw [newP_get hp, upd_same]
mutual
theorem Lit.pe {X : Cx} : ∀ {e : Expr} {d : PyData}, Lit e d → PE X e (tLit X.K d)
  | _, _, .non => pe_non.imp fun σ H Q q => q _ _ (Same.refl _) .non
  | _, _, .bl => pe_bl.imp fun σ H Q q => q _ _ (Same.refl _) (.bl _)
  | _, _, .int => pe_int.imp fun σ H Q q => q _ _ (Same.refl _) (.int _)
  | _, _, .str => pe_str.imp fun σ H Q q => q _ _ (Same.refl _) (.str _)
  | _, _, .neg => (pe_un un_neg pe_int).imp fun σ H Q q => ⟨_, rfl, q _ _ (Same.refl _) (.int _)⟩
  | _, _, .negE ha => (pe_un un_neg ha.pe).imp fun σ H Q q v H1 s1 hv => by
      cases hv
      exact ⟨_, rfl, q _ _ s1 (.int _)⟩
  | _, _, .sub ha hb => (pe_op op_sub ha.pe hb.pe).imp fun σ H Q q v H1 s1 hv w H2 s2 hw => by
      cases hv; cases hw
      exact ⟨_, _, rfl, rfl, q _ _ (s1.trans s2) (.int _)⟩
  | _, _, .pow ha hb j0 j1 i1 => (pe_op op_pow ha.pe hb.pe).imp fun σ H Q q v H1 s1 hv w H2 s2 hw => by
      cases hv; cases hw
      exact ⟨_, _, rfl, rfl, ⟨j0, j1, i1⟩, q _ _ (s1.trans s2) (.int _)⟩
  | _, _, .lst h l => (pe_lstN h.pa).imp fun σ H Q q vs H1 s1 hd => ⟨by rw [hd.len, sizeLine_eq]; exact Nat.le_trans l (by decide), fun p hp hn =>
      q _ _ (s1.trans (same_new hp)) (.lst (SqL.of (by rw [newP_get (none_of s1 hp), upd_same])) (fun _ => hn) (hd.same (newP_mono (same_new hp))))⟩
  | _, _, .tup h l => (pe_tup h.pa).imp fun σ H Q q vs H1 s1 hd => ⟨by rw [hd.len, sizeLine_eq]; exact Nat.le_trans l (by decide), fun p hp =>
      q _ _ (s1.trans (same_new hp)) (.tup (SqT.of (by rw [newP_get (none_of s1 hp), upd_same])) (hd.same (newP_mono (same_new hp))))⟩
  | _, _, .dic0 => pe_dnewK.imp fun σ H Q q p hp => q _ _ (same_new hp) (.dic (Rd.of (by rw [newP_get hp, upd_same])) .nil)
  | _, _, .dicI h => (pe_disp (pps_cons pe_int h.pe pps_nil) (by rfl) (by rfl) (fun z => by cases z) (by show 1 ≤ 15; decide)).imp fun σ H Q q p hp v H1 s1 hd => by
      obtain ⟨a, b⟩ := one_dict (k := .inl _) hp s1 hd rfl
      exact ⟨s1 _ _ upd_same, [(.inl _, v)], rfl, (by show 1 ≤ 15; decide), q _ _ a b⟩
  | _, _, .dicS h => (pe_disp (pps_cons pe_str h.pe pps_nil) (by rfl) (by rfl) (fun z => by cases z) (by show 1 ≤ 15; decide)).imp fun σ H Q q p hp v H1 s1 hd => by
      obtain ⟨a, b⟩ := one_dict (k := .inr _) hp s1 hd rfl
      exact ⟨s1 _ _ upd_same, [(.inr _, v)], rfl, (by show 1 ≤ 15; decide), q _ _ a b⟩
theorem LitAll.pa {X : Cx} : ∀ {es : List Expr} {ds : List PyData}, LitAll es ds → PA X es (tLits X.K ds)
  | _, _, .nil => pa_nil.imp fun σ H Q q => q _ _ (Same.refl _) .nil
  | _, _, .cons h t => (pa_cons h.pe t.pa (h.star _ _)).imp fun σ H Q q v H1 s1 hd vs H2 s2 hds =>
      q _ _ (s1.trans s2) (.cons (hd.same (newP_mono s2)) (hds.same (newP_back s1)))
end
theorem pe_litL {X : Cx} {es : List Expr} {ds : List PyData} {p : Pos} (h : LitAll es ds) (l : ds.length ≤ 1000) : PE X (.List es p) (tLitL X.K ds) :=
  (pe_lstN h.pa).imp fun σ H Q q vs H1 s1 hd => ⟨by rw [hd.len, sizeLine_eq]; exact Nat.le_trans l (by decide), fun p hp hn =>
    q _ _ _ (none_of s1 hp) hn (s1.trans (same_new hp)) upd_same (hd.same (newP_mono (same_new hp)))⟩
theorem i_lit {K : PySem.W.Frag} {d : PyData} {σ : L2.St} {H : Hp} {Q : VK} (q : ∀ v H', Same H H' → DaS K (newP H H') v d → Q v H') : tLit K d σ H Q := q
theorem i_litL {K : PySem.W.Frag} {ds : List PyData} {σ : L2.St} {H : Hp} {Q : VK} (q : ∀ p xs H', H p = none → p ≠ sysModules → Same H H' → H' p = some (.lst xs) → DaAllS K (newP H H') xs ds → Q (.ref p) H') : tLitL K ds σ H Q := q
/-! ### bounds on what is shown -/
theorem i_rEqSame {H : Hp} {Q : VK} {x : V} (h : scal x x = true) (q : Q (.bl true) H) : rEq x x H Q := ⟨h, by rw [decide_eq_true (rfl : x = x)]; exact q⟩
theorem i_rNeSame {H : Hp} {Q : VK} {x : V} (h : scal x x = true) (q : Q (.bl false) H) : rNe x x H Q := ⟨h, by rw [decide_eq_true (rfl : x = x)]; exact q⟩
structure Sh (d : PyData) (n k : Nat) : Prop where
  ok : d.showable = true
  dp : d.depth ≤ k
  ln : d.shown.length ≤ n
theorem Sh.mono {d : PyData} {n k n' k' : Nat} (h : Sh d n k) (a : n ≤ n') (b : k ≤ k') : Sh d n' k' := ⟨h.ok, Nat.le_trans h.dp b, Nat.le_trans h.ln a⟩
theorem Sh.shw {d : PyData} {n k : Nat} (h : Sh d n k) (a : n ≤ 16777216) (b : k ≤ 20) : Shw d := ⟨h.ok, Nat.le_trans h.dp b, by rw [sizeLine_eq]; exact Nat.le_trans h.ln a⟩
theorem join_le (sep : Str) {n : Nat} : ∀ ts : List Str, (∀ t ∈ ts, t.length ≤ n) → (Str.join sep ts).length ≤ ts.length * (n + sep.length)
  | [], _ => by show 0 ≤ _; omega
  | [x], h => by
    have := h x (by simp)
    show x.length ≤ 1 * (n + sep.length)
    omega
  | x :: y :: r, h => by
    have h1 := h x (by simp)
    have ih := join_le sep (y :: r) (fun t ht => h t (List.mem_cons_of_mem _ ht))
    show (x ++ sep ++ Str.join sep (y :: r)).length ≤ _
    rw [Str.length_append, Str.length_append]
    have e : (x :: y :: r).length * (n + sep.length) = (y :: r).length * (n + sep.length) + (n + sep.length) := by
      rw [List.length_cons, Nat.add_mul, Nat.one_mul]
    omega
theorem shownAll_mem : ∀ {ds : List PyData} {t : Str}, t ∈ PyData.shownAll ds → ∃ d ∈ ds, d.shown = t
  | [], t, h => by rw [PyData.shownAll_nil] at h; cases h
  | d :: ds, t, h => by
    rw [PyData.shownAll_cons] at h
    rcases List.mem_cons.mp h with e | h
    · exact ⟨d, List.mem_cons_self, e.symm⟩
    · obtain ⟨e, he, k⟩ := shownAll_mem h
      exact ⟨e, List.mem_cons_of_mem _ he, k⟩
theorem depthAll_le {k : Nat} : ∀ {ds : List PyData}, (∀ d ∈ ds, d.depth ≤ k) → PyData.depthAll ds ≤ k
  | [], _ => by simp [PyData.depthAll]
  | d :: ds, h => by
    have h1 := h d List.mem_cons_self
    have h2 := depthAll_le (ds := ds) fun e he => h e (List.mem_cons_of_mem _ he)
    simp only [PyData.depthAll]
    omega
theorem Sh.lst {ds : List PyData} {n k : Nat} (h : ∀ d ∈ ds, Sh d n k) : Sh (.list ds) (ds.length * (n + 2) + 2) (k + 1) := by
  refine ⟨by simp only [PyData.showable]; exact showableAll_of fun d hd => (h d hd).ok, ?_, ?_⟩
  · have := depthAll_le fun d hd => (h d hd).dp
    simp only [PyData.depth]; omega
  · rw [PyData.shown_list, Str.length_append, Str.length_append]
    have := join_le (", " : Str) (n := n) (PyData.shownAll ds) fun t ht => by
      obtain ⟨d, hd, e⟩ := shownAll_mem ht
      rw [← e]; exact (h d hd).ln
    rw [PyData.shownAll_length] at this
    have e1 : ("[" : Str).length = 1 := by decide +kernel
    have e2 : ("]" : Str).length = 1 := by decide +kernel
    have e3 : (", " : Str).length = 2 := by decide +kernel
    rw [e3] at this
    omega
theorem Sh.tup {ds : List PyData} {n k : Nat} (h : ∀ d ∈ ds, Sh d n k) : Sh (.tuple ds) (ds.length * (n + 2) + 3) (k + 1) := by
  refine ⟨by simp only [PyData.showable]; exact showableAll_of fun d hd => (h d hd).ok, ?_, ?_⟩
  · have := depthAll_le fun d hd => (h d hd).dp
    simp only [PyData.depth]; omega
  · rw [PyData.shown_tuple, Str.length_append, Str.length_append]
    have := join_le (", " : Str) (n := n) (PyData.shownAll ds) fun t ht => by
      obtain ⟨d, hd, e⟩ := shownAll_mem ht
      rw [← e]; exact (h d hd).ln
    rw [PyData.shownAll_length] at this
    have e1 : ("(" : Str).length = 1 := by decide +kernel
    have e3 : (", " : Str).length = 2 := by decide +kernel
    have e2 : (((if (ds.length == 1) = true then ",)" else ")" : String) : Str)).length ≤ 2 := by
      split <;> decide +kernel
    rw [e3] at this
    omega
theorem Sh.bl {b : Bool} : Sh (.bool b) 5 0 := by cases b <;> exact ⟨by decide +kernel, by decide +kernel, by decide +kernel⟩
theorem Sh.non : Sh .none 4 0 := ⟨by decide +kernel, by decide +kernel, by decide +kernel⟩
theorem Sh.int {i : Int} (h : i.natAbs.log2 < 1920) : Sh (.int i) 1921 0 := ⟨by simpa [PyData.showable] using h, by simp [PyData.depth], by rw [PyData.shown_int]; exact int_text_len_1921 h⟩
theorem Sh.str {x : Str} {n : Nat} (h : okS x n) : Sh (.str x) (10 * n + 2) 0 := ⟨rfl, by simp [PyData.depth], shown_str_le h⟩
theorem shw_b2 (a b : Bool) : Shw (.list [.bool a, .bool b]) := (Sh.lst (ds := [.bool a, .bool b]) (n := 5) (k := 0) fun d hd => by
  simp only [List.mem_cons, List.not_mem_nil, or_false] at hd
  rcases hd with rfl | rfl <;> exact Sh.bl).shw (by show 2 * 7 + 2 ≤ _; decide) (by decide)
end KX

namespace KX
open PySem PySem.Spec PyProof.Rows L2
/-! ### own exception classes over any built-in base -/
structure BaseF (newId initId : String) (bmB : List Value) : Prop where
  ex : ∃ B, ExcBaseFacts B newId initId bmB ∧ StoreFacts B bmB "object.__setattr__" "object"
  hand : PySem.W.handedIn (.builtin initId) = true
theorem baseV : BaseF "ValueError.__new__" "ValueError.__init__" (tailOf "ValueError") := ⟨⟨_, PySem.F.excBase_ValueError, PySem.F.store_ValueError⟩, by decide +kernel⟩
theorem baseL : BaseF "LookupError.__new__" "LookupError.__init__" (tailOf "LookupError") := ⟨⟨_, PySem.F.excBase_LookupError, PySem.F.store_LookupError⟩, by decide +kernel⟩
theorem baseR : BaseF "RuntimeError.__new__" "RuntimeError.__init__" (tailOf "RuntimeError") := ⟨⟨_, PySem.F.excBase_RuntimeError, PySem.F.store_RuntimeError⟩, by decide +kernel⟩
theorem baseA : BaseF "ArithmeticError.__new__" "ArithmeticError.__init__" (tailOf "ArithmeticError") := ⟨⟨_, PySem.F.excBase_ArithmeticError, PySem.F.store_ArithmeticError⟩, by decide +kernel⟩
/-- what the written part tells of such a class -/
structure OexB (K : PySem.W.Frag) (newId initId : String) (bmB : List Value) (C : Addr) : Prop where
  bf : BaseF newId initId bmB
  ini : PySem.W.excInitIn K C bmB newId = true
  ov : PySem.W.excOver K C bmB = true
  sa : PySem.W.findIn K (.ref C) "__setattr__" = some (some (.builtin "object.__setattr__"))
  hd : PySem.W.hasDictIn K C = true
  exC : PySem.W.subIn K (.ref C) (.type "BaseException") = some true
  tyC : PySem.W.typeIn K (.ref C) = some (.type "type")
  kC : PySem.W.keepIn K (.ref C) = true
section
open PySem.W
variable {prog : Program} {w : World} {A : Around} {R : Result → Shared → Prop} {s : Shared} {K : PySem.W.Frag} {B : String} {bmB : List Value} {C x t1 : Addr} {name : Str} {tk : Tok} {v : Value}
/-- x.name = v, x an exception without a dict as yet -/
theorem osb_new (SF : StoreFacts B bmB "object.__setattr__" "object") (inK : K.In s.heap) (hx : s.heap.get? x = some (excObj C t1 none .none)) (ov : excOver K C bmB = true) (ht : takerIn K C name = some none) (hh : hasDictIn K C = true)
    (q : ∀ h' tk', (∀ b o, b ≠ x → s.heap.get? b = some o → h'.get? b = some o) → h'.get? x = some (excObj C t1 (some s.heap.objs.size) .none) → h'.Ns1 s.heap.objs.size (fun y => if y = name then some v else none) → R (.ok (.ret .none)) { s with heap := h', toks := tk' }) :
    codeAny (model prog w) A (.call (.builtin "object.__setattr__") ⟨[.ref x, .str name tk, v], []⟩) R s := by
  have lt := Heap.lt_size hx
  refine osa_openX (od := none) SF inK ⟨hx, rfl, rfl, trivial⟩ ov ht fun b => ?_
  obtain ⟨cd, hc, hd⟩ := any_some hh
  refine wpAny_bind (wpAny_pure (wpAny_bind (instanceDict_exc hx (looks_clsIn inK hc) hd ?_)))
  show wpAny _ _ (Builtin.ObjectAttr.storeInDict s.heap.objs.size (.str name tk) name v) _ _ _
  obtain ⟨hp, g, d, t, os⟩ := s
  have far : x ≠ hp.objs.size := Nat.ne_of_lt lt
  have at1 : (hp.push (dictOf [] 0)).get? x = some (excObj C t1 none .none) := Heap.get?_push_of_some _ hx
  refine PySem.HandSPX.store_in_new ⟨_, #[], _, (Heap.get?_update_ne _ _ _ _ far.symm).trans (Heap.get?_push_at rfl rfl), rfl, fun e he => absurd he (by simp), fun _ => rfl⟩ fun h' tk' hn hs => ?_
  refine q h' tk' (fun b o nb e => ?_) ?_ hn
  · exact (hs.2 b (Nat.ne_of_lt (Heap.lt_size e))).trans ((Heap.get?_update_ne _ _ _ _ nb).trans (Heap.get?_push_of_some _ e))
  · exact (hs.2 x far).trans (Heap.get?_update_self _ at1 rfl)
/-- .. that has its dict at dx -/
theorem osb_old {dx : Addr} {m0 : Str → Option Value} {nl : List Str} (SF : StoreFacts B bmB "object.__setattr__" "object") (inK : K.In s.heap) (hx : s.heap.get? x = some (excObj C t1 (some dx) .none)) (hns : s.heap.Ns1 dx m0) (hw : Within m0 nl) (few : nl.length ≤ 1000)
    (ov : excOver K C bmB = true) (ht : takerIn K C name = some none) (hh : hasDictIn K C = true)
    (q : ∀ h' tk', (∀ b o, b ≠ dx → s.heap.get? b = some o → h'.get? b = some o) → h'.Ns1 dx (fun y => if y = name then some v else m0 y) → R (.ok (.ret .none)) { s with heap := h', toks := tk' }) :
    codeAny (model prog w) A (.call (.builtin "object.__setattr__") ⟨[.ref x, .str name tk, v], []⟩) R s := by
  obtain ⟨oD, _, _, hoD, _, _⟩ := hns.count hw
  refine osa_openX (od := some oD) SF inK ⟨hx, rfl, rfl, hoD⟩ ov ht fun b => ?_
  obtain ⟨cd, hc, hd⟩ := any_some hh
  refine wpAny_bind (wpAny_pure (wpAny_bind (wpAny_bind (wpAny_loadPart hx (wpAny_bind ((looks_clsIn inK hc).here ?_))))))
  rw [hd]
  refine wpAny_pure (a := some dx) ?_
  show wpAny _ _ (Builtin.ObjectAttr.storeInDict dx (.str name tk) name v) _ _ _
  obtain ⟨hp, g, d, t, os⟩ := s
  exact PySem.OEX.store_in_old hns hw few fun h' tk' hn hs => q h' tk' (fun b o nb e => (hs.2 b nb).trans e) hn
end
section
variable {X : Cx} {pins : List (Addr × Obj)} {σ : L2.St} {H : Hp} {s : Shared} {newId initId : String} {bmB : List Value} {a C dx : Addr} {f : Str} {y : V} {u : Value} {fs : List (Str × V)} {Q : Unit → Shared → Prop} {E : Value → Shared → Prop} {A : Around}
/-- an exception gets its dict: what is held then -/
theorem inv_dict {h' : Heap} {t' : Nat} {t1 : Addr} (I : Inv X pins σ H s) (e : H a = some (exo a C none)) (far : s.heap.objs.size ≤ dx) (k : ∀ b o, b ≠ a → s.heap.get? b = some o → h'.get? b = some o)
    (hx : h'.get? a = some (PySem.W.excObj C t1 (some dx) .none)) (ok : ObjOk X.prog X.w H h' dx (exd dx fs)) :
    Inv X pins σ (L2.upd (L2.upd H dx (exd dx fs)) a (exo a C (some dx))) { s with heap := h', toks := t' } := by
  have free : H dx = none := I.hok.fresh far
  have ad : dx ≠ a := fun z => by rw [z, e] at free; cases free
  have old : ∀ {b o}, s.heap.get? b = some o → b ≠ dx := fun {b o} z => Nat.ne_of_lt (Nat.lt_of_lt_of_le (Heap.lt_size z) far)
  have off : ∀ {b}, b ≠ a → b ≠ dx → L2.upd (L2.upd H dx (exd dx fs)) a (exo a C (some dx)) b = H b := fun {b} z1 z2 => by rw [upd_ne z1, upd_ne z2]
  have nota : ∀ {b}, H b = none → b ≠ a := fun {b} n z => by rw [z, e] at n; cases n
  have tr : ∀ {b o}, H b = some o → exo a C none ≠ o → b ≠ a ∧ b ≠ dx := fun {b o} z n => ⟨at_ne e z n, ne_of_none z free⟩
  refine I.un ⟨fun b o z n _ _ => k b o (nota n) z, fun b o z n _ _ => ⟨o.slots, k b o (nota n) z⟩, fun b o z n _ => by rw [off (nota n) (old z)]; exact n, fun b o z _ => ?_,
    fun b xs z => ?_, fun b o v z => ?_, fun b ps z => ⟨#[], ?_⟩⟩ fun b o z => ?_
  · by_cases q : b = a
    · rw [q]; exact ⟨_, hx⟩
    · exact ⟨o, k b o q z⟩
  · obtain ⟨z1, z2⟩ := tr z exo_tup
    rw [off z1 z2]; exact z
  · obtain ⟨z1, z2⟩ := tr z exo_frz
    rw [off z1 z2]; exact z
  · obtain ⟨z1, z2⟩ := tr z exo_tbl
    rw [off z1 z2, z]; simp
  · have keepO : ∀ c q, H c = some (.own q) → L2.upd (L2.upd H dx (exd dx fs)) a (exo a C (some dx)) c = some (.own q) := fun c q hc => by
      obtain ⟨z1, z2⟩ := tr hc exo_own
      rw [off z1 z2]; exact hc
    have keepT : ∀ c xs, H c = some (.tup xs) → L2.upd (L2.upd H dx (exd dx fs)) a (exo a C (some dx)) c = some (.tup xs) := fun c xs hc => by
      obtain ⟨z1, z2⟩ := tr hc exo_tup
      rw [off z1 z2]; exact hc
    by_cases q : b = a
    · rw [q, upd_same] at z
      cases z
      rw [q]
      exact exo_ok hx
    · rw [upd_ne q] at z
      by_cases qd : b = dx
      · rw [qd, upd_same] at z
        cases z
        rw [qd]
        exact ok.stay (fun c v _ w => w) (keepO · _) keepT
      · rw [upd_ne qd] at z
        refine (I.hok b o z).stay (fun c v hc w => k c v ?_ w) (keepO · _) keepT
        rcases hc with hc | hc
        · rw [hc]; exact q
        · exact (tr hc exo_own).1
/-- self.f = y, the first one -/
theorem stb_new (T : OexB X.K newId initId bmB C) (I : Inv X pins σ H s) (e : H a = some (exo a C none)) (ht : PySem.W.takerIn X.K C f = some none) (ry : RelV y u)
    (q : ∀ dx s', H dx = none → dx ≠ a → Inv X pins σ (L2.upd (L2.upd H dx (exd dx [(f, y)])) a (exo a C (some dx))) s' → Q () s') : wpAny (model X.prog X.w) A (setAttr (.ref a) f u) Q E s := by
  obtain ⟨t1, ho⟩ := exo_at I.hok e
  obtain ⟨_, _, SF⟩ := T.bf.ex
  refine PySem.W.set_plain (od := none) I.kIn ⟨ho, rfl, rfl, trivial⟩ T.sa ?_
  refine osb_new (s := { s with toks := s.toks + 1 }) SF I.kIn ho T.ov ht T.hd fun h' tk' k hx hn => ?_
  have free : H s.heap.objs.size = none := I.hok.fresh (Nat.le_refl _)
  refine q s.heap.objs.size _ free (fun z => by rw [z, e] at free; cases free) (inv_dict (I.tok _) e (Nat.le_refl _) k hx (exd_ok hn (relO_put (fs := []) ry fun _ => True.intro)))
/-- self.f = y, a further one -/
theorem stb_old (T : OexB X.K newId initId bmB C) (I : Inv X pins σ H s) (e : H a = some (exo a C (some dx))) (ed : H dx = some (exd dx fs)) (few : fs.length ≤ 900) (ht : PySem.W.takerIn X.K C f = some none) (ry : RelV y u)
    (q : ∀ s', Inv X pins σ (L2.upd H dx (exd dx ((f, y) :: fs))) s' → Q () s') : wpAny (model X.prog X.w) A (setAttr (.ref a) f u) Q E s := by
  obtain ⟨t1, ho⟩ := exo_at I.hok e
  obtain ⟨mA, hns, rel⟩ := exd_at I.hok ed
  obtain ⟨_, _, SF⟩ := T.bf.ex
  obtain ⟨oD, _, _, hoD, _, _⟩ := hns.count (within_of rel)
  refine PySem.W.set_plain (od := some oD) I.kIn ⟨ho, rfl, rfl, hoD⟩ T.sa ?_
  refine osb_old (s := { s with toks := s.toks + 1 }) SF I.kIn ho hns (within_of rel) (by rw [List.length_map]; omega) T.ov ht T.hd fun h' tk' k hn => ?_
  obtain ⟨o, es, ep, he, r⟩ := id hn
  exact q _ (I.write (t' := tk') (x := dx) (e := dx) (by rw [ed]; exact True.intro) (.inl rfl) k ⟨o, he⟩ (exd_ok hn (relO_put ry rel)))
/-- Base.__init__(self, ..): nothing of it is told -/
theorem initb_ok {us : List Value} {Q : Value → Shared → Prop} (T : OexB X.K newId initId bmB C) (I : Inv X pins σ H s) (e : H a = some (exo a C none)) (few : us.length ≤ sizeLine) (q : ∀ s', Inv X pins σ H s' → Q .none s') :
    wpAny (model X.prog X.w) A (call (.builtin initId) (.ref a :: us)) Q E s := by
  obtain ⟨_, BF, _⟩ := T.bf.ex
  obtain ⟨nm, N, qn, bs, bm, hdct, sn, sub, ab, col, dd, k0, k1, k2, k3, k5, hC, hT⟩ := PySem.W.excInit_of I.kIn T.ini
  obtain ⟨t1, ho⟩ := exo_at I.hok e
  obtain ⟨hp, g, d, t, os⟩ := s
  refine wpAny_call (PySem.HandSPX.init_base BF hT hC ho few fun h' t2 k hx => ?_)
  have J := I.write (t' := t) (x := a) (e := a) (o := exo a C none) (by rw [e]; exact True.intro) (.inl rfl) k ⟨_, hx⟩ (exo_ok hx)
  have same : L2.upd H a (exo a C none) = H := funext fun b => by
    by_cases z : b = a
    · rw [z, upd_same, e]
    · rw [upd_ne z]
  exact q _ (same ▸ J)
end
/-! ### readings and rules -/
def tBI (K : PySem.W.Frag) (newId initId : String) (bmB : List Value) (ta : TA) : TE := fun σ H Q => ta σ H fun vs H1 =>
  ∃ (a C : Addr) (ws : List V), vs = .ref a :: ws ∧ ws.length ≤ 1000 ∧ OexB K newId initId bmB C ∧ H1 a = some (exo a C none) ∧ Q .non H1
def tStB (K : PySem.W.Frag) (newId initId : String) (bmB : List Value) (f : Str) (to te : TE) : TS := fun D σ H => te σ H fun y H1 => to σ H1 fun x H2 => ∃ a C : Addr, x = .ref a ∧ OexB K newId initId bmB C ∧ PySem.W.takerIn K C f = some none ∧
  ((H2 a = some (exo a C none) ∧ ∀ dx, H2 dx = none → dx ≠ a → D.nx σ (L2.upd (L2.upd H2 dx (exd dx [(f, y)])) a (exo a C (some dx)))) ∨
    ∃ (dx : Addr) (fs : List (Str × V)), H2 a = some (exo a C (some dx)) ∧ H2 dx = some (exd dx fs) ∧ fs.length ≤ 900 ∧ D.nx σ (L2.upd H2 dx (exd dx ((f, y) :: fs))))
/-- what the class CB hands out as its __init__: that of its built-in base -/
structure InitB (K : PySem.W.Frag) (initId : String) (CB : Addr) : Prop where
  sp : PySem.W.specialIn K (.ref CB) "__getattribute__" = some (some (.builtin "type.__getattribute__"))
  rd : PySem.W.readsIn K CB (.type "type") = true
  fc : PySem.W.findCls K (.ref CB) (.type "type") "__init__" = some (.val (.builtin initId))
section
variable {X : Cx} {o e : Expr} {es : List Expr} {to te : TE} {ta : TA} {f x : Str} {p p' p1 p2 pos : Pos} {newId initId : String} {bmB : List Value} {CB : Addr}
theorem pe_binit {pl : Sem Bool} (hg : Gl X x) (hm : X.mg x = some (.ref CB)) (hb : BaseF newId initId bmB) (ib : InitB X.K initId CB) (ha : PA X (e :: es) ta)
    (hdb : (x == ("__debug__" : Str)) = false := by decide)
    (hc : eval (.Call (.Attribute (.Name x p1) "__init__" p2) (e :: es) [] pos) X.env = (do
      let ov ← eval (.Name x p1) X.env
      standAt p2.atName
      let (f, first) ← holding [ov] (getMethod ov "__init__" pl)
      callWith pos f first (backTo pos (starEach (e :: es) X.env)) (backToKw pos (keywordEach [] X.env))) := by rfl)
    (he : starEach (e :: es) X.env = (false, eval e X.env) :: starEach es X.env := by rfl) (hpl : (backTo pos (starEach es X.env)).any (·.1) = false := by rfl) :
    PE X (.Call (.Attribute (.Name x p1) "__init__" p2) (e :: es) [] pos) (tBI X.K newId initId bmB ta) := by
  refine ⟨fun pins s σ H Q I q => ?_⟩
  refine PySem.W.methodCall_KW (ld_glob I hg hm ?_ hdb) hc
  refine PySem.W.method_cls I.kIn ib.sp (PySem.W.cls_value I.kIn ib.rd ib.fc hb.hand ?_)
  show wpAny _ _ (callWith pos (Value.builtin initId) [] (backTo pos (starEach (e :: es) X.env)) []) _ _ _
  refine PyProof.Rows.callWith_method1 (thn (ha.run pos pins _ σ H _ (I.tok _) q) fun us s1 ⟨vs, H1, I1, r1, a, C, ws, ev, few, T, ea, q⟩ => ?_) he hpl
  subst ev
  cases r1 with
  | @cons _ u0 _ ur ra rw' =>
    obtain rfl : u0 = Value.ref a := ra
    exact initb_ok T I1 ea (by rw [← Paired.length rw', sizeLine_eq]; omega) fun s' J => ⟨.non, H1, J, rfl, q⟩
theorem ps_stB (ho : PE X o to) (he : PE X e te) (hs : swapsWith e (some (.Attribute o f p')) pos.line X.env = pure false := by rfl) : PS X (.Assign [.Attribute o f p'] e pos) (tStB X.K newId initId bmB f to te) := by
  refine ⟨fun pins s σ H D I q => ?_⟩
  refine plainObj_wpAny_Assign_Attribute (thn (he.run pins s σ H _ I q) fun v s1 ⟨y, H1, I1, r1, q1⟩ => thn (ho.run pins s1 σ H1 _ I1 q1) fun u s2 ⟨x, H2, I2, r2, a, C, ex, T, ht, q⟩ => ?_) hs
  subst ex
  obtain rfl : u = Value.ref a := r2
  rcases q with ⟨ea, q⟩ | ⟨dx, fs, ea, ed, hl, q⟩
  · exact stb_new T I2 ea ht r1 fun dx s' n ne J => ⟨σ, _, J, q dx n ne⟩
  · exact stb_old T I2 ea ed hl ht r1 fun s' J => ⟨σ, _, J, q⟩
/-- C(e, ..) as what is raised -/
theorem pmk_B {CX : CXT} {C fI : Addr} {k : Nat} {fd : FuncData} {ps : List Str} {sp : Sp} (T : OexB X.K newId initId bmB C) (iC : PySem.W.findIn X.K (.ref C) "__init__" = some (some (.ref fI))) (tI : PySem.W.typeIn X.K (.ref fI) = some (.type "function"))
    (G : FnOk X.prog X.w X.K X.mg X.base CX k fI fd ps sp) (hr : Room (k + 1) X.A) (hb : Binds X.K fd ps []) (hx : Passes CX X (fun _ _ _ => False)) (hg : Gl X x) (hm : X.mg x = some (.ref C)) (ha : PA X (e :: es) ta)
    (hdb : (x == ("__debug__" : Str)) = false := by decide) (he : starEach (e :: es) X.env = (false, eval e X.env) :: starEach es X.env := by rfl) (hpl : (backTo pos (starEach es X.env)).any (·.1) = false := by rfl) :
    PMk X (.Call (.Name x p) (e :: es) [] pos) (tMkO C sp [] ta) := by
  intro pins s σ H Q I q
  obtain ⟨_, BF, _⟩ := T.bf.ex
  refine wpAny_Call_Name_kw (ld_glob I hg hm ?_ hdb)
  refine PySem.W.callWith_K (h₀ := X.base) I.ok.mod.kin T.kC (thn (ha.run pos pins s σ H _ I q) fun us s1 ⟨vs, H1, J, r, few, q1⟩ => ⟨J.kIn, ?_⟩) he hpl
  show wpAny _ _ (call (.ref C) us) _ _ _
  obtain ⟨nm, N, qn, bs, bm, hdct, sn, sub, ab, col, dd, k0, k1, k2, k3, k5, hC, hT⟩ := PySem.W.excInit_of J.kIn T.ini
  obtain ⟨hp, g, dr, tk, os⟩ := s1
  have up : hp.objs.size ≤ hp.objs.size + 1 := Nat.le_succ _
  have free : H1 (hp.objs.size + 1) = none := J.hok.fresh up
  have kk : ∀ b o, hp.get? b = some o → ((hp.push (PySem.W.kdv_tup us)).push (PySem.HandSPX.excO C hp.objs.size)).get? b = some o := fun b o z => Heap.get?_push_of_some _ (Heap.get?_push_of_some _ z)
  have there : ((hp.push (PySem.W.kdv_tup us)).push (PySem.HandSPX.excO C hp.objs.size)).get? (hp.objs.size + 1) = some (PySem.HandSPX.excO C hp.objs.size) := by heap_get
  have J2 := J.laid (t' := tk) (a := hp.objs.size + 1) (o := exo (hp.objs.size + 1) C none) (h' := (hp.push (PySem.W.kdv_tup us)).push (PySem.HandSPX.excO C hp.objs.size)) kk up (exo_ok there)
  have q2 := q1 (hp.objs.size + 1) free
  rw [List.append_nil] at q2
  have r2 : Vals (V.ref (hp.objs.size + 1) :: vs) (Value.ref (hp.objs.size + 1) :: us) := .cons rfl r
  have len : (Value.ref (hp.objs.size + 1) :: us ++ []).length = ps.length := by
    rw [List.append_nil]
    exact (r2.length.symm.trans (G.len _ _ _ _ q2))
  have fits : us.length ≤ sizeLine := by rw [← Paired.length r, sizeLine_eq]; omega
  have bind := hb ⟨(hp.push (PySem.W.kdv_tup us)).push (PySem.HandSPX.excO C hp.objs.size), g, dr, tk, os⟩ (Value.ref (hp.objs.size + 1) :: us) J2.kIn len
  rw [List.append_nil] at bind
  refine wpAny_call (PySem.HandSPX.call_own BF hT hC (PySem.W.looks_findIn J.kIn iC) (fun self => PySem.W.bind_fn J.kIn self tI) fits
    (codeAny_mono (G.run _ X.stack _ _ ⟨Value.ref (hp.objs.size + 1) :: us, []⟩ _ _ _ (fun _ _ _ => False) (hr.make C us []) (J2.env0.make C us []) bind r2 q2) fun r s' hq => ?_))
  match r, hq with
  | .error er, hq => exact hx pins σ _ _ er s' J2 hq
  | .ok .next, hq => exact False.elim hq
  | .ok .brk, hq => exact False.elim hq
  | .ok .cont, hq => exact False.elim hq
  | .ok (.ret u), ⟨v, H2, os2, bare2, un2, hok2, rv, ev, d, fs, ea, ed, hd1, q3⟩ =>
    subst ev
    obtain ⟨h2, g2, d2, t2, os'⟩ := s'
    exact ⟨rv, mk_end (raises_own T.exC T.tyC) J up kk un2 hok2 os2 bare2 ea ed hd1 q3⟩
end
/-- all that is asked of an own exception class -/
structure ExT (K : PySem.W.Frag) (newId initId : String) (bmB : List Value) (C : Addr) : Prop where
  o : OexB K newId initId bmB C
  ga : PySem.W.findIn K (.ref C) "__getattribute__" = some (some (.builtin "BaseException.__getattribute__"))
  gg : PySem.W.findIn K (.ref C) "__getattr__" = some none
  cl : PySem.W.findIn K (.ref C) "__class__" = some (some (.builtin "object.__class__"))
  hm : PySem.W.mroIn K C (.type "object") = some true
structure ClassGet (K : PySem.W.Frag) : Prop where
  hn : PySem.W.specialIn K (.builtin "object.__class__") "__get__" = some (some (.builtin "getset_descriptor.__get__"))
  ht : PySem.W.takesIn K (.builtin "object.__class__") = some true
theorem ExT.xf {K : PySem.W.Frag} {newId initId : String} {bmB : List Value} {C : Addr} (T : ExT K newId initId bmB C) : XfC K C := ⟨T.ga, T.gg, T.o.exC, T.o.hd⟩
/-- an except clause's class -/
theorem ExT.exm {K : PySem.W.Frag} {n1 n2 i1 i2 : String} {b1 b2 : List Value} {C D : Addr} {b : Bool} (_T : ExT K n1 i1 b1 C) (S : ExT K n2 i2 b2 D) (h : PySem.W.subIn K (.ref C) (.ref D) = some b) : PySem.W.exmOne K (.ref C) (.ref D) = some b :=
  PySem.W.exm_ref S.o.exC S.o.hd S.o.tyC h
/-- isinstance(e, c), e the exception that the suite holds: its class D and dict are told -/
def rIsX (K : PySem.W.Frag) (cls : Value) (d : Option Addr) (a : Addr) : List V → Hp → VK → Prop := fun xs H Q => ∃ (D : Addr) (c : V) (cv : Value) (b : Bool), cls = .ref D ∧ (∃ n i m, ExT K n i m D) ∧ ClassGet K ∧ xs = [.ref a, c] ∧ (∀ u, RelV c u → u = cv) ∧ PySem.W.kitOne K (.ref D) cv = some b ∧
  (∀ dd, d = some dd → ∃ fs, H dd = some (.xd fs)) ∧ Q (.bl b) H
theorem i_isX {K : PySem.W.Frag} {a D : Addr} {d : Option Addr} {c : V} {cv : Value} {b : Bool} {n i : String} {m : List Value} {H : Hp} {Q : VK} (T : ExT K n i m D) (G : ClassGet K) (h : ∀ u, RelV c u → u = cv) (k : PySem.W.kitOne K (.ref D) cv = some b) (hd : ∀ dd, d = some dd → ∃ fs, H dd = some (.xd fs)) (q : Q (.bl b) H) :
    rIsX K (.ref D) d a [.ref a, c] H Q := ⟨D, c, cv, b, rfl, ⟨n, i, m, T⟩, G, rfl, h, k, hd, q⟩
theorem rel_ref {a : Addr} : ∀ u, RelV (.ref a) u → u = Value.ref a := fun u r => r
theorem rel_ty {n : String} : ∀ u, RelV (.ty n) u → u = Value.type n := fun u r => r
theorem hasD {K : PySem.W.Frag} {C : Addr} (h : PySem.W.hasDictIn K C = true) : (PySem.W.clsIn K C).isSome = true := by
  obtain ⟨cd, hc, _⟩ := PySem.W.any_some h
  rw [hc]; rfl
theorem call_isX {X : Cx} {a : Addr} {cls : Value} {d : Option Addr} {oe : Obj} {pn : List (Addr × Obj)} (hz : Zc cls d oe) (hf : ∃ vs, oe.data = .fields vs) : CallR (X.suite a ((a, oe) :: pn)) (.builtin "isinstance") (rIsX X.K cls d a) := by
  intro pins s σ H xs us Q I r h
  obtain ⟨D, c, cv, b, rfl, ⟨_, _, _, T⟩, G, rfl, hcv, k, hd, q⟩ := h
  obtain ⟨u1, u2, rfl, r1, r2⟩ : ∃ u1 u2, us = [u1, u2] ∧ RelV (.ref a) u1 ∧ RelV c u2 := by
    cases r with
    | cons r1 r => cases r with
      | cons r2 r => cases r; exact ⟨_, _, rfl, r1, r2⟩
  cases r1
  obtain rfl := hcv _ r2
  obtain ⟨there, _⟩ := I.pin (a, oe) (List.mem_append.mpr (.inl List.mem_cons_self))
  obtain ⟨vs, hv⟩ := hf
  have nc : PySem.W.notCls oe = true := by unfold PySem.W.notCls; rw [hv] <;> rfl
  have J : ∃ od, PySem.W.InstAt s.heap a oe D od := by
    cases d with
    | none => exact ⟨none, there, hz.1, nc, by rw [hz.2]; trivial⟩
    | some dd =>
      obtain ⟨fs, e⟩ := hd dd rfl
      obtain ⟨mA, ⟨o, es, ep, ho, _⟩, _⟩ : ObjOk X.prog X.w H s.heap dd (.xd fs) := I.hok dd _ e
      exact ⟨some o, there, hz.1, nc, by rw [hz.2]; exact ho⟩
  obtain ⟨od, J⟩ := J
  exact PySem.W.kia_one (PySem.W.kitx_exc (hasD T.o.hd) T.ga T.gg T.o.exC T.cl G.hn G.ht T.hm) I.kIn J k (fun z => nomatch z) fun tk => ⟨.bl b, H, I.kept (t' := tk) fun _ _ z => z, rfl, q⟩
/-! ### readings -/
section
variable {K : PySem.W.Frag} {σ : L2.St} {H : Hp} {Q : VK} {newId initId : String} {bmB : List Value}
theorem i_bi {ta : TA} (q : ta σ H fun vs H1 => ∃ (a C : Addr) (ws : List V), vs = .ref a :: ws ∧ ws.length ≤ 1000 ∧ OexB K newId initId bmB C ∧ H1 a = some (exo a C none) ∧ Q .non H1) : tBI K newId initId bmB ta σ H Q := q
theorem i_stB {f : Str} {to te : TE} {nx bk ct : L2.St → Hp → Prop} (q : te σ H fun y H1 => to σ H1 fun x H2 => ∃ a C : Addr, x = .ref a ∧ OexB K newId initId bmB C ∧ PySem.W.takerIn K C f = some none ∧
    ((H2 a = some (exo a C none) ∧ ∀ dx, H2 dx = none → dx ≠ a → nx σ (L2.upd (L2.upd H2 dx (exd dx [(f, y)])) a (exo a C (some dx)))) ∨
      ∃ (dx : Addr) (fs : List (Str × V)), H2 a = some (exo a C (some dx)) ∧ H2 dx = some (exd dx fs) ∧ fs.length ≤ 900 ∧ nx σ (L2.upd H2 dx (exd dx ((f, y) :: fs))))) : tStB K newId initId bmB f to te ⟨nx, Q, bk, ct⟩ σ H := q
/-- what an __init__ promises that stores its arguments, in order, as the fields fs -/
def spI (C : Addr) (fs : List Str) : Sp := fun vs H Q _ => ∃ (a : Addr) (ws : List V), vs = .ref a :: ws ∧ ws.length = fs.length ∧ H a = some (exo a C none) ∧
  ∀ d H', H d = none → d ≠ a → H' a = some (exo a C (some d)) → H' d = some (exd d (fs.zip ws).reverse) → (∀ b, b ≠ a → b ≠ d → H' b = H b) → Q .non H'
/-- C(..) that is raised: what is asked behind the arguments -/
def MkR (C : Addr) (sp : Sp) (vs : List V) (H1 : Hp) (W : XK) : Prop := vs.length ≤ 1000 ∧ ∀ a, H1 a = none → sp (.ref a :: (vs ++ [])) (L2.upd H1 a (exo a C none))
  (fun v H2 => v = .non ∧ ∃ (d : Addr) (fs : List (Str × V)), H2 a = some (exo a C (some d)) ∧ H2 d = some (exd d fs) ∧ H1 d = none ∧ W (.ref C) (some d) (L2.upd (del H2 a) d (.xd fs))) (fun _ _ _ => False)
theorem i_mk0 {C : Addr} {sp : Sp} {ta : TA} {W : XK} (q : ta σ H fun vs H1 => MkR C sp vs H1 W) : tMkO C sp [] ta σ H W := q
/-- .. over a heap that is told by what it holds -/
theorem i_mkR {C : Addr} {fs : List Str} {vs : List V} {W : XK} (hl : vs.length = fs.length) (few : fs.length ≤ 1000) (h : ∀ d H2, H d = none → Same H H2 → H2 d = some (.xd (fs.zip vs).reverse) → W (.ref C) (some d) H2) : MkR C (spI C fs) vs H W := by
  refine ⟨by omega, fun a ha => ⟨a, vs, by rw [List.append_nil], hl, upd_same, fun d H' hd ne ea ed off => ⟨rfl, d, _, ea, ed, by rwa [upd_ne ne] at hd, ?_⟩⟩⟩
  rw [upd_ne ne] at hd
  refine h d _ hd (fun b o e => ?_) upd_same
  have n1 : b ≠ a := ne_of_none e ha
  have n2 : b ≠ d := ne_of_none e hd
  rw [upd_ne n2, del_ne n1, off b n1 n2, upd_ne n1]
  exact e
end
def tRaise (t : L2.St → Hp → XK → Prop) (W : WX) : TS := fun _ σ H => t σ H fun cls d H' => W cls d σ H'
theorem ps_raiseN {X : Cx} {W : WX} {e : Expr} {t : L2.St → Hp → XK → Prop} {pos : Pos} (hc : X.calm = true) (tk : Takes X W) (he : PMk X e t) : PS X (.Raise (some e) none pos) (tRaise t W) := ps_raise hc tk he
theorem i_raise {t : L2.St → Hp → XK → Prop} {W : WX} {D : Ends} {σ : L2.St} {H : Hp} (q : t σ H fun cls d H' => W cls d σ H') : tRaise t W D σ H := q
/-- a call that may raise, in a try's body -/
def tCallX (sp : Sp) (E : L2.St → XK) (t : TA) : TE := fun σ H Q => t σ H fun vs H1 => sp vs H1 Q (E σ)
theorem i_callX {sp : Sp} {E : L2.St → XK} {t : TA} {σ : L2.St} {H : Hp} {Q : VK} (q : t σ H fun vs H1 => sp vs H1 Q (E σ)) : tCallX sp E t σ H Q := q
/-- try: tb / except c as n (slot i): ts -/
def tTryAs (K : PySem.W.Frag) (c : Value) (i : Nat) (tb : WX → TS) (ts : Addr → Value → Option Addr → TS) (Wout : WX) : TS := fun D σ H => tb (wAs K c i ts Wout D) D σ H
theorem i_tryN {K : PySem.W.Frag} {c : Value} {i : Nat} {tb : WX → TS} {ts : Addr → Value → Option Addr → TS} {Wout : WX} {D : Ends} {σ : L2.St} {H : Hp} (q : tb (wAs K c i ts Wout D) D σ H) : tTryAs K c i tb ts Wout D σ H := q
/-- e.n, e the exception that the suite holds -/
def tXn (K : PySem.W.Frag) (a : Addr) (cls : Value) (d : Option Addr) (n : Str) (te : TE) : TE := fun σ H Q => ∃ C : Addr, cls = .ref C ∧ XfC K C ∧ PySem.W.findIn K (.ref C) n = some none ∧ tXf a cls d C n te σ H Q
theorem pe_xfN {X : Cx} {a : Addr} {oe : Obj} {cls : Value} {d : Option Addr} {pn : List (Addr × Obj)} {e : Expr} {te : TE} {pos : Pos} {n : Str} (hz : Zc cls d oe) (hf : ∃ vs, oe.data = .fields vs) (he : PE (X.suite a ((a, oe) :: pn)) e te)
    (hb : attributeBase e n X.env (eval e X.env) = eval e X.env := by rfl) : PE (X.suite a ((a, oe) :: pn)) (.Attribute e n pos) (tXn X.K a cls d n te) :=
  ⟨fun pins s σ H Q I ⟨_, _, T, hno, q⟩ => (pe_xf T hno hz hf he hb).run pins s σ H Q I q⟩
/-- .. at a slot -/
theorem i_xfV {K : PySem.W.Frag} {a C dd : Addr} {n : Str} {i : Nat} {σ : L2.St} {H : Hp} {Q : VK} {fs : List (Str × V)} {v : V} (T : XfC K C) (hno : PySem.W.findIn K (.ref C) n = some none) (h : σ[i]? = some (some (.ref a))) (e : H dd = some (.xd fs)) (l : fs.lookup n = some v) (q : Q v H) :
    tXn K a (.ref C) (some dd) n (tVar i) σ H Q := ⟨C, rfl, T, hno, .ref a, h, rfl, rfl, dd, fs, v, rfl, e, l, q⟩
end KX

namespace KX
open PySem PySem.Spec PyProof.Rows L2
/-! ### further readings: texts, is, == of data -/
def rIsN : R2 := fun x y H Q => y = .non ∧ Q (.bl (decide (x = .non))) H
def rIsNotN : R2 := fun x y H Q => y = .non ∧ Q (.bl (!decide (x = .non))) H
theorem op_isNN {X : Cx} : OpR X (compareOp .Is) rIsN := op_isN
def rSplit : V → List V → Hp → VK → Prop := fun x xs H Q => ∃ a b, x = .str a ∧ xs = [.str b] ∧ (b.length == 0) = false ∧ a.length + 2 ≤ sizeLine ∧ NewR H (.lst ((Txt.split a b).map V.str)) Q
def rFind : V → List V → Hp → VK → Prop := fun x xs H Q => ∃ a b, x = .str a ∧ xs = [.str b] ∧ Q (.int (Txt.find a b)) H
def rStrI : List V → Hp → VK → Prop := fun xs H Q => ∃ i, xs = [.int i] ∧ i.natAbs.log2 < 1920 ∧ Q (.str (toString i)) H
def rIntS : List V → Hp → VK → Prop := fun xs H Q => ∃ a n, xs = [.str a] ∧ PySem.intText? a = some n ∧ a.length ≤ 640 ∧ Q (.int n) H
/-- f'..{x}..' -/
def tFmtN (te : TE) : TE := fun σ H Q => te σ H fun x H1 => ((∃ y : Str, x = .str y ∧ y.length ≤ sizeLine ∧ Q (.str y) H1) ∨ ∃ i : Int, x = .int i ∧ i.natAbs.log2 < 1920 ∧ Q (.str (toString i)) H1)
def FmR (x : V) (H : Hp) (Q : VK) : Prop := (∃ y : Str, x = .str y ∧ y.length ≤ sizeLine ∧ Q (.str y) H) ∨ ∃ i : Int, x = .int i ∧ i.natAbs.log2 < 1920 ∧ Q (.str (toString i)) H
def tJn (ts : List TE) : TE := fun σ H Q => tJs ts Str.empty σ H fun out H1 => Q (.str out) H1
def JsR (ts : List TE) (acc : Str) (σ : L2.St) (R : Str → Hp → Prop) (x : V) (H : Hp) : Prop := ∃ y : Str, x = .str y ∧ (acc ++ y).length ≤ sizeLine ∧ tJs ts (acc ++ y) σ H R
/-- text[::-1] -/
def tRevS (te : TE) : TE := fun σ H Q => te σ H fun x H1 => ∃ z : Str, x = .str z ∧ z.length ≤ sizeLine ∧ Q (.str ⟨z.cps.toList.reverse.toArray⟩) H1
def tRevLN (K : PySem.W.Frag) (te : TE) : TE := fun σ H Q => te σ H fun x H1 => ∃ a xs, x = .ref a ∧ SqL K H1 a xs ∧ NewR H1 (.lst xs.reverse) Q
theorem shaped_lay {d : PyData} (h : SeqAt.shaped d = true) : d.canLay0 = true := by
  unfold SeqAt.shaped at h
  exact (Bool.and_eq_true_iff.mp h).1
section
variable {K : PySem.W.Frag} {σ : L2.St} {H : Hp} {Q : VK}
theorem i_isNon {x : V} (q : Q (.bl (decide (x = .non))) H) : rIsN x .non H Q := ⟨rfl, q⟩
theorem i_isNotNon {x : V} (q : Q (.bl (!decide (x = .non))) H) : rIsNotN x .non H Q := ⟨rfl, q⟩
theorem i_split {a b : Str} (h : (b.length == 0) = false) (z : a.length + 2 ≤ sizeLine) (q : NewR H (.lst ((Txt.split a b).map V.str)) Q) : rSplit (.str a) [.str b] H Q := ⟨a, b, rfl, rfl, h, z, q⟩
theorem i_find {a b : Str} (q : Q (.int (Txt.find a b)) H) : rFind (.str a) [.str b] H Q := ⟨a, b, rfl, rfl, q⟩
theorem i_strI {i : Int} (h : i.natAbs.log2 < 1920) (q : Q (.str (toString i)) H) : rStrI [.int i] H Q := ⟨i, rfl, h, q⟩
theorem i_fmt {te : TE} (q : te σ H fun x H1 => FmR x H1 Q) : tFmt te σ H Q := q
theorem i_fmS {y : Str} (h : y.length ≤ sizeLine) (q : Q (.str y) H) : FmR (.str y) H Q := .inl ⟨y, rfl, h, q⟩
theorem i_fmI {i : Int} (h : i.natAbs.log2 < 1920) (q : Q (.str (toString i)) H) : FmR (.int i) H Q := .inr ⟨i, rfl, h, q⟩
theorem i_jn {ts : List TE} (q : tJs ts Str.empty σ H fun out H1 => Q (.str out) H1) : tJn ts σ H Q := q
theorem i_js0 {acc : Str} {R : Str → Hp → Prop} (q : R acc H) : tJs [] acc σ H R := q
theorem i_js1 {t : TE} {ts : List TE} {acc : Str} {R : Str → Hp → Prop} (q : t σ H fun x H1 => JsR ts acc σ R x H1) : tJs (t :: ts) acc σ H R := q
theorem i_jsR {y : Str} {ts : List TE} {acc : Str} {R : Str → Hp → Prop} (z : (acc ++ y).length ≤ sizeLine) (q : tJs ts (acc ++ y) σ H R) : JsR ts acc σ R (.str y) H := ⟨y, rfl, z, q⟩
theorem i_revS {te : TE} (q : te σ H fun x H1 => ∃ z : Str, x = .str z ∧ z.length ≤ sizeLine ∧ Q (.str ⟨z.cps.toList.reverse.toArray⟩) H1) : tRevS te σ H Q := q
theorem i_exrev {z : Str} {R : Prop} (h : z.length ≤ sizeLine) (q : Q (.str ⟨z.cps.toList.reverse.toArray⟩) H) : ∃ z' : Str, V.str z = .str z' ∧ z'.length ≤ sizeLine ∧ Q (.str ⟨z'.cps.toList.reverse.toArray⟩) H := ⟨z, rfl, h, q⟩
theorem i_revL {te : TE} (q : te σ H fun x H1 => ∃ a xs, x = .ref a ∧ SqL K H1 a xs ∧ NewR H1 (.lst xs.reverse) Q) : tRevLN K te σ H Q := q
theorem i_exrevL {a : Addr} {xs : List V} (h : SqL K H a xs) (q : NewR H (.lst xs.reverse) Q) : ∃ a' xs', V.ref a = .ref a' ∧ SqL K H a' xs' ∧ NewR H (.lst xs'.reverse) Q := ⟨a, xs, rfl, h, q⟩
theorem i_par3 {i j l : Nat} {t : TA} {f g1 k : L2.St → Hp → Prop} (q : t σ H fun vs H1 => ∃ u v w, vs = [u, v, w] ∧ f (((σ.set i (some u)).set j (some v)).set l (some w)) H1) : tPar3 i j l t ⟨f, Q, g1, k⟩ σ H := q
theorem i_ex3 {R : V → V → V → Prop} {u v w : V} (q : R u v w) : ∃ u' v' w', [u, v, w] = [u', v', w'] ∧ R u' v' w' := ⟨u, v, w, rfl, q⟩
theorem i_neD {b c : Bool} {x y : V} {d e : PyData} (h : DaF b K H x d) (k : DaF c K H y e) (hd : d.hasDict = false) (he : e.hasDict = false) (sd : SeqAt.shaped d = true) (se : SeqAt.shaped e = true) (q : Q (.bl (!PyData.eqv d e)) H) : rNeD K x y H Q :=
  ⟨d, e, h.dp hd, k.dp he, sd, se, q⟩
/-- the same data -/
theorem i_neDsame {b c : Bool} {x y : V} {d : PyData} (h : DaF b K H x d) (k : DaF c K H y d) (hd : d.hasDict = false) (sd : SeqAt.shaped d = true) (q : Q (.bl false) H) : rNeD K x y H Q :=
  i_neD h k hd hd sd sd (by rw [SeqAt.eqv_refl _ (shaped_lay sd)]; exact q)
end
end KX

namespace KX
open PySem PySem.Spec PyProof.Rows L2
/-! ### versions and windows as data -/
def verD : PyData → Bool
  | .int i => decide (0 ≤ i)
  | _ => false
def winP : PyData → Option (Int × Option Int)
  | .tuple [.int l, .none] => if 0 ≤ l then some (l, none) else none
  | .tuple [.int l, .int h] => if 0 ≤ l ∧ 0 ≤ h ∧ l ≤ h then some (l, some h) else none
  | _ => none
def winB (d : PyData) : Bool := (winP d).isSome
def isN : PyData → Bool
  | .none => true
  | _ => false
def leD : PyData → PyData → Bool
  | .int i, .int k => decide (i ≤ k)
  | _, _ => false
theorem winB_two (a b : PyData) : winB (.tuple [a, b]) = (verD a && (isN b || (verD b && leD a b))) := by
  unfold winB winP verD isN leD
  cases a <;> cases b <;> simp
  all_goals (split <;> simp_all <;> omega)
theorem winB_len {ds : List PyData} (h : ds.length ≠ 2) : winB (.tuple ds) = false := by
  match ds, h with
  | [], _ => rfl
  | [_], _ => cases ‹PyData› <;> rfl
  | [_, _], h => exact absurd rfl h
  | a :: b :: c :: r, _ =>
    unfold winB
    cases a <;> cases b <;> rfl
theorem da_non {b : Bool} {K : PySem.W.Frag} {H : Hp} {v : V} {d : PyData} (h : DaF b K H v d) : decide (v = .non) = isN d := by cases h <;> rfl
theorem verD_int {b : Bool} {K : PySem.W.Frag} {H : Hp} {v : V} {d : PyData} (h : DaF b K H v d) (k : verD d = true) : ∃ i, v = .int i ∧ d = .int i ∧ 0 ≤ i := by
  cases h <;> first | cases k | exact ⟨_, rfl, rfl, of_decide_eq_true k⟩
theorem da_two {b : Bool} {K : PySem.W.Frag} {H : Hp} {xs : List V} {ds : List PyData} (h : DaAllF b K H xs ds) (l : ds.length = 2) : ∃ x1 x2 d1 d2, xs = [x1, x2] ∧ ds = [d1, d2] ∧ DaF b K H x1 d1 ∧ DaF b K H x2 d2 := by
  cases h with
  | nil => cases l
  | cons h1 h => cases h with
    | nil => cases l
    | cons h2 h => cases h with
      | nil => exact ⟨_, _, _, _, rfl, rfl, h1, h2⟩
      | cons _ _ => simp at l
/-- a window as data -/
def hiD : Option Int → PyData
  | none => .none
  | some h => .int h
def hiV : Option Int → V
  | none => .non
  | some h => .int h
def winD (w : Int × Option Int) : PyData := .tuple [.int w.1, hiD w.2]
def okW (w : Int × Option Int) : Prop := 0 ≤ w.1 ∧ ∀ h, w.2 = some h → w.1 ≤ h
theorem winP_D {w : Int × Option Int} (h : okW w) : winP (winD w) = some w := by
  obtain ⟨l, hi⟩ := w
  obtain ⟨h1, h2⟩ := h
  cases hi with
  | none => show (if 0 ≤ l then _ else _) = _; rw [if_pos h1]
  | some k =>
    have := h2 k rfl
    show (if 0 ≤ l ∧ 0 ≤ k ∧ l ≤ k then _ else _) = _
    rw [if_pos ⟨h1, by omega, this⟩]
theorem winP_some {d : PyData} {w : Int × Option Int} (h : winP d = some w) : d = winD w ∧ okW w := by
  unfold winP at h
  split at h
  · split at h
    · cases h; exact ⟨rfl, by assumption, fun k e => nomatch e⟩
    · cases h
  · split at h
    · next c => cases h; exact ⟨rfl, c.1, fun k e => by cases e; exact c.2.2⟩
    · cases h
  · cases h
theorem da_hi {b : Bool} {K : PySem.W.Frag} {H : Hp} : ∀ {o : Option Int} {v : V}, DaF b K H v (hiD o) → v = hiV o
  | none, _, h => by cases h; rfl
  | some _, _, h => by cases h; rfl
/-- a window among the values -/
theorem da_win {b : Bool} {K : PySem.W.Frag} {H : Hp} {w : Int × Option Int} {v : V} (h : DaF b K H v (winD w)) : ∃ a, v = .ref a ∧ SqT K H a [.int w.1, hiV w.2] := by
  cases h with
  | tup hq ha =>
    cases ha with
    | cons h1 r => cases r with
      | cons h2 r =>
        cases r
        cases h1
        have e := da_hi h2
        subst e
        exact ⟨_, rfl, hq⟩
def sp_dat (K : PySem.W.Frag) (f : PyData → Bool) : Sp := fun vs H Q _ => ∃ v d, vs = [v] ∧ Da K H v d ∧ ∀ H', Same H H' → Q (.bl (f d)) H'
def sp_req (K : PySem.W.Frag) (f : PyData → Bool) (C : Addr) (n : Str) : Sp := fun vs H Q E => ∃ v d, vs = [v] ∧ Da K H v d ∧ (f d = true → ∀ H', Same H H' → Q .non H') ∧
  (f d = false → ∀ c H', H c = none → Same H H' → H' c = some (.xd [(n, v)]) → E (.ref C) (some c) H')
/-! ### numbers in texts -/
def dg : List Nat := (Str.ofString "0123456789").cps.toList
def digs (x : Str) : Bool := x.cps.toList.all fun c => decide (c ∈ dg)
def valS (x : Str) : Int := ((PySem.NumText.digitsVal x.cps.toList : Nat) : Int)
/-- decimal without leading zeros -/
def canS (x : Str) : Bool := !(decide (x.cps.toList.head? = some 48) && !decide (x = Str.ofString "0"))
/-- the program's reading: at most sixty digits -/
def pnum (x : Str) : Option Int := if (decide (1 ≤ x.length) && decide (x.length ≤ 60) && digs x) = true then (if canS x = true then some (valS x) else none) else none
def oV : Option Int → V
  | none => .non
  | some i => .int i
/-- the program's reading of a window's text -/
def winAB (b : Str) : Option Int → Option Int → Option (Int × Option Int)
  | some l, some h => if l ≤ h then some (l, some h) else none
  | some l, none => if b = Str.ofString "" then some (l, none) else none
  | none, _ => none
def winS (x : Str) : Option (Int × Option Int) := match Txt.split x (Str.ofString "..") with
  | [a, b] => winAB b (pnum a) (pnum b)
  | _ => none
/-- what is written of a window -/
def fmtS (w : Int × Option Int) : Str := match w.2 with
  | none => Str.empty ++ (toString w.1 : String) ++ ".."
  | some h => Str.empty ++ (toString w.1 : String) ++ ".." ++ (toString h : String)
def shortW (w : Int × Option Int) : Prop := w.1.natAbs < 2 ^ 200 ∧ ∀ h, w.2 = some h → h.natAbs < 2 ^ 200
end KX

namespace KX
open PySem PySem.Spec PyProof.Rows L2
/-! ### texts cut at two dots -/
abbrev DD : List Nat := [46, 46]
/-- the first cut -/
theorem par_spl {L acc : List Nat} : (∃ a r, TL.par DD acc L = some (acc ++ a, r) ∧ L = a ++ DD ++ r ∧ TL.spl DD 0 acc L = (acc ++ a) :: TL.spl DD 0 [] r ∧ ∀ i, i < a.length → TL.pre DD (L.drop i) = false) ∨
    (TL.par DD acc L = none ∧ TL.spl DD 0 acc L = [acc ++ L] ∧ ∀ i, TL.pre DD (L.drop i) = false) := by
  induction L generalizing acc with
  | nil => exact .inr ⟨rfl, by rw [TL.spl_nil, List.append_nil], fun i => by rw [List.drop_nil]; rfl⟩
  | cons c r ih =>
    by_cases hp : TL.pre DD (c :: r) = true
    · refine .inl ⟨[], (c :: r).drop 2, ?_, ?_, ?_, fun i hi => absurd hi (Nat.not_lt_zero _)⟩
      · rw [TL.par_hit hp, List.append_nil]; rfl
      · have e : (c :: r).take 2 = DD := eq_of_beq hp
        rw [List.nil_append, ← e, List.take_append_drop]
      · rw [TL.spl_hit hp, TL.spl_pass, List.append_nil]; rfl
    · have hp' : TL.pre DD (c :: r) = false := by simpa using hp
      rcases ih (acc := acc ++ [c]) with ⟨a, b, h1, h2, h3, h4⟩ | ⟨h1, h2, h3⟩
      · refine .inl ⟨c :: a, b, ?_, ?_, ?_, fun i hi => ?_⟩
        · rw [TL.par_miss hp', h1]; simp
        · rw [h2]; simp
        · rw [TL.spl_miss hp', h3]; simp
        · cases i with
          | zero => exact hp'
          | succ i => exact h4 i (by simpa using hi)
      · refine .inr ⟨?_, ?_, fun i => ?_⟩
        · rw [TL.par_miss hp', h1]
        · rw [TL.spl_miss hp', h2]; simp
        · cases i with
          | zero => exact hp'
          | succ i => exact h3 i
/-! ### the law's reading -/
def dgN (c : Nat) : Prop := 48 ≤ c ∧ c ≤ 57
instance (c : Nat) : Decidable (dgN c) := inferInstanceAs (Decidable (_ ∧ _))
abbrev dgs (l : List Nat) : Prop := PySem.NumText.AllDigits l
/-- decimal, without leading zeros -/
def canL (w : List Nat) : Prop := w ≠ [] ∧ dgs w ∧ (w.head? = some 48 → w = [48])
instance (w : List Nat) : Decidable (dgs w) := inferInstanceAs (Decidable (∀ c ∈ w, 48 ≤ c ∧ c ≤ 57))
instance (w : List Nat) : Decidable (canL w) := inferInstanceAs (Decidable (_ ∧ _ ∧ _))
def lnum (w : List Nat) : Option Int := if canL w then some ((PySem.NumText.digitsVal w : Nat) : Int) else none
def lAB (r : List Nat) (l : Option Int) : Option (Int × Option Int) := match l with
  | none => none
  | some l => if r = [] then some (l, none) else match lnum r with
    | none => none
    | some h => if h < l then none else some (l, some h)
def lread (x : Str) : Option (Int × Option Int) := match TL.par DD [] (TL.tl x) with
  | none => none
  | some (a, r) => lAB r (lnum a)
/-- where a text is short enough beside its dots, the two readings are one -/
def goodL (L : List Nat) : Prop := ∀ a r, L = a ++ DD ++ r → (dgs a → a.length ≤ 60) ∧ (dgs r → r.length ≤ 60)
end KX

namespace KX
open PySem PySem.Spec PyProof.Rows L2
/-! ### numbers written -/
/-! ### a window's text -/
def tailL : Option Int → List Nat
  | none => []
  | some h => TL.numL h.toNat
def fmtL (w : Int × Option Int) : List Nat := TL.numL w.1.toNat ++ DD ++ tailL w.2
theorem tl_app (x y : Str) : TL.tl (x ++ y) = TL.tl x ++ TL.tl y := TL.tl_append x y
/-! ### runs of digits -/
def Run (n : Nat) (L : List Nat) : Prop := ∀ a u b, L = a ++ u ++ b → dgs u → u.length ≤ n
theorem Run.len {n : Nat} {L : List Nat} (h : L.length ≤ n) : Run n L := fun a u b e _ => by rw [e] at h; simp at h; omega
theorem Run.mono {n m : Nat} {L : List Nat} (h : Run n L) (k : n ≤ m) : Run m L := fun a u b e d => Nat.le_trans (h a u b e d) k
theorem Run.mid {n : Nat} {a L b : List Nat} (h : Run n (a ++ L ++ b)) : Run n L := fun p u q e d => h (a ++ p) u (q ++ b) (by rw [e]; simp) d
theorem Run.app {n : Nat} {A B : List Nat} {c : Nat} (ha : Run n A) (hb : Run n B) (nc : ¬ dgN c) : Run n (A ++ c :: B) := by
  intro p u q e d
  rw [List.append_assoc] at e
  rcases List.append_eq_append_iff.mp e with ⟨x, e1, e2⟩ | ⟨x, e1, e2⟩
  · -- p = A ++ x
    cases x with
    | nil =>
      cases u with
      | nil => exact Nat.zero_le _
      | cons v u =>
        rw [List.nil_append] at e2
        injection e2 with z _
        exact absurd (d v List.mem_cons_self) (by rw [← z]; exact nc)
    | cons y x =>
      injection e2 with _ z
      exact hb x u q (by rw [z]; simp) d
  · -- A = p ++ x, x ++ c :: B = u ++ q
    rcases List.append_eq_append_iff.mp e2 with ⟨y, f1, f2⟩ | ⟨y, f1, f2⟩
    · exact ha p u y (by rw [e1, f1]; simp) d
    · cases y with
      | nil =>
        rw [List.append_nil] at f1
        exact ha p u [] (by rw [e1, f1]; simp) d
      | cons v y =>
        injection f2 with z _
        exact absurd (d c (by rw [f1, z]; simp)) nc
theorem Run.rev {n : Nat} {L : List Nat} (h : Run n L) : Run n L.reverse := fun a u b e d => by
  have := h b.reverse u.reverse a.reverse (by rw [← L.reverse_reverse, e]; simp) (fun c hc => d c (List.mem_reverse.mp hc))
  simpa using this
theorem Run.good {L : List Nat} (h : Run 60 L) : goodL L := fun a r e => ⟨fun d => h [] a (DD ++ r) (by rw [e]; simp) d, fun d => h (a ++ DD) r [] (by rw [e]; simp) d⟩
theorem dots_good {L : List Nat} (h : L.count 46 ≤ 1) : goodL L := fun a r e => by
  rw [e] at h
  simp [List.count_append] at h
  omega
/-! ### changed in one place -/
/-- two signs that are no digits, at most one sign between them, beside them at most n signs -/
def Two (n : Nat) (L : List Nat) : Prop := ∃ A c M e B, L = A ++ c :: (M ++ e :: B) ∧ ¬ dgN c ∧ ¬ dgN e ∧ A.length ≤ n ∧ M.length ≤ 1 ∧ B.length ≤ n
def Low (n : Nat) (L : List Nat) : Prop := L.count 46 ≤ 1 ∧ Run n L
theorem Two.run {n : Nat} {L : List Nat} (h : Two n L) (k : 1 ≤ n) : Run n L := by
  obtain ⟨A, c, M, e, B, rfl, hc, he, a, m, b⟩ := h
  exact .app (.len a) (.app (.len (by omega)) (.len b) he) hc
/-- at place i k signs are taken out, X put in -/
def edit (L : List Nat) (i : Nat) (X : List Nat) (k : Nat) : List Nat := L.take i ++ X ++ L.drop (i + k)
theorem edit_left {U V X : List Nat} {i k : Nat} (h : i + k ≤ U.length) : edit (U ++ V) i X k = edit U i X k ++ V := by
  unfold edit
  rw [List.take_append_of_le_length (by omega), List.drop_append_of_le_length h]
  simp
theorem edit_right {U V X : List Nat} {i k : Nat} (h : U.length ≤ i) : edit (U ++ V) i X k = U ++ edit V (i - U.length) X k := by
  unfold edit
  rw [List.take_append, List.drop_append, List.take_of_length_le h, List.drop_of_length_le (l := U) (by omega), List.nil_append]
  have e : i + k - U.length = i - U.length + k := by omega
  rw [e]
  simp
theorem edit_len {L X : List Nat} {i k n : Nat} (h : L.length ≤ n) (hx : X.length ≤ 1) : (edit L i X k).length ≤ n + 1 := by
  unfold edit
  simp only [List.length_append, List.length_take, List.length_drop]
  omega
/-- from two to one: the runs stay short -/
theorem Two.edit {n : Nat} {L X : List Nat} {i k : Nat} (h : Two n L) (hx : X.length ≤ 1) (hk : k ≤ 1) : Run (n + 3) (KX.edit L i X k) := by
  obtain ⟨A, c, M, e, B, rfl, hc, he, a, m, b⟩ := h
  by_cases hi : i ≤ A.length
  · have eq : A ++ c :: (M ++ e :: B) = (A ++ c :: M) ++ e :: B := by simp
    rw [eq, edit_left (by simp; omega)]
    exact .app (.len (Nat.le_trans (edit_len (n := n + 2) (by simp; omega) hx) (by omega))) (.len (by omega)) he
  · have eq : A ++ c :: (M ++ e :: B) = (A ++ [c]) ++ (M ++ e :: B) := by simp
    rw [eq, edit_right (by simp; omega)]
    have eq2 : A ++ [c] ++ KX.edit (M ++ e :: B) (i - (A ++ [c]).length) X k = A ++ c :: KX.edit (M ++ e :: B) (i - (A ++ [c]).length) X k := by simp
    rw [eq2]
    exact .app (.len (by omega)) (.len (Nat.le_trans (edit_len (n := n + 2) (by simp; omega) hx) (by omega))) hc
theorem count_edit {L : List Nat} {i k : Nat} {X : List Nat} (hX : X.count 46 = 0) : (edit L i X k).count 46 ≤ L.count 46 := by
  unfold edit
  have e : L.count 46 = (L.take i).count 46 + (L.drop i).count 46 := by rw [← List.count_append, List.take_append_drop]
  have f : (L.drop (i + k)).count 46 ≤ (L.drop i).count 46 := by
    rw [← List.drop_drop]
    exact (List.drop_sublist _ _).count_le 46
  rw [List.count_append, List.count_append, hX]
  omega
theorem Low.edit {n : Nat} {L X : List Nat} {i k : Nat} (h : Low n L) (hx : X.length ≤ 1) : goodL (KX.edit L i X k) ∨ Run n (KX.edit L i X k) := by
  obtain ⟨h1, h2⟩ := h
  match X, hx with
  | [], _ => exact .inl (dots_good (Nat.le_trans (count_edit rfl) h1))
  | [s], _ =>
    by_cases hs : dgN s
    · exact .inl (dots_good (Nat.le_trans (count_edit (by
        have : s ≠ 46 := fun z => by rw [z] at hs; revert hs; unfold dgN; omega
        simp [this])) h1))
    · right
      have e : KX.edit L i [s] k = L.take i ++ s :: L.drop (i + k) := by unfold KX.edit; simp
      rw [e]
      refine .app ?_ ?_ hs
      · exact Run.mid (a := []) (b := L.drop i) (by rw [List.nil_append, List.take_append_drop]; exact h2)
      · exact Run.mid (a := L.take (i + k)) (b := []) (by rw [List.append_nil, List.take_append_drop]; exact h2)
/-- the text of a window -/
theorem fmt_two {n : Nat} {A B : List Nat} (a : A.length ≤ n) (b : B.length ≤ n) : Two n (A ++ DD ++ B) := ⟨A, 46, [], 46, B, by simp, by decide, by decide, a, by simp, b⟩
theorem fmt_edit {n : Nat} {A B X : List Nat} {i k : Nat} (a : A.length ≤ n) (b : B.length ≤ n) (da : dgs A) (db : dgs B) (hx : X.length ≤ 1) (hk : k ≤ 1) : Two (n + 1) (edit (A ++ DD ++ B) i X k) ∨ Low (n + 1) (edit (A ++ DD ++ B) i X k) := by
  have ca : A.count 46 = 0 := List.count_eq_zero.mpr fun z => by have := da _ z; omega
  have cb : B.count 46 = 0 := List.count_eq_zero.mpr fun z => by have := db _ z; omega
  have e0 : A ++ DD ++ B = A ++ (46 :: 46 :: B) := by simp
  rw [e0]
  by_cases h1 : i + k ≤ A.length
  · left
    rw [edit_left h1]
    exact ⟨edit A i X k, 46, [], 46, B, by simp, by decide, by decide, edit_len a hx, by simp, by omega⟩
  · by_cases h2 : i ≤ A.length
    · -- i = |A|, k = 1: the first dot goes
      have hi : i = A.length := by omega
      have hk1 : k = 1 := by omega
      subst hi hk1
      rw [edit_right (Nat.le_refl _), Nat.sub_self]
      have e : A ++ edit (46 :: 46 :: B) 0 X 1 = A ++ X ++ 46 :: B := by unfold edit; simp
      rw [e]
      match X, hx with
      | [], _ =>
        refine .inr ⟨by simp [List.count_append, ca, cb], ?_⟩
        rw [List.append_nil]
        exact .app (.len (by omega)) (.len (by omega)) (by decide)
      | [s], _ =>
        by_cases hs : dgN s
        · have : s ≠ 46 := fun z => by rw [z] at hs; revert hs; unfold dgN; omega
          exact .inr ⟨by simp [List.count_append, ca, cb, this], .app (.len (by simp; omega)) (.len (by omega)) (by decide)⟩
        · exact .inl ⟨A, s, [], 46, B, by simp, hs, by decide, by omega, by simp, by omega⟩
    · have h3 : A.length < i := by omega
      by_cases h4 : i ≤ A.length + 1
      · have hi : i = A.length + 1 := by omega
        subst hi
        have e1 : A ++ (46 :: 46 :: B) = (A ++ [46]) ++ (46 :: B) := by simp
        rw [e1, edit_right (by simp)]
        have e2 : A.length + 1 - (A ++ [46]).length = 0 := by simp
        rw [e2]
        by_cases hk0 : k = 0
        · subst hk0
          have e : A ++ [46] ++ edit (46 :: B) 0 X 0 = A ++ 46 :: (X ++ 46 :: B) := by unfold edit; simp
          rw [e]
          exact .inl ⟨A, 46, X, 46, B, rfl, by decide, by decide, by omega, hx, by omega⟩
        · have hk1 : k = 1 := by omega
          subst hk1
          have e : A ++ [46] ++ edit (46 :: B) 0 X 1 = A ++ 46 :: (X ++ B) := by unfold edit; simp
          rw [e]
          match X, hx with
          | [], _ => exact .inr ⟨by simp [List.count_append, ca, cb], .app (.len (by omega)) (.len (by simp; omega)) (by decide)⟩
          | [s], _ =>
            by_cases hs : dgN s
            · have : s ≠ 46 := fun z => by rw [z] at hs; revert hs; unfold dgN; omega
              exact .inr ⟨by simp [List.count_append, ca, cb, this], .app (.len (by omega)) (.len (by simp; omega)) (by decide)⟩
            · exact .inl ⟨A, 46, [], s, B, by simp, by decide, hs, by omega, by simp, by omega⟩
      · have e1 : A ++ (46 :: 46 :: B) = (A ++ DD) ++ B := by simp
        rw [e1, edit_right (by simp; omega)]
        exact .inl ⟨A, 46, [], 46, edit B (i - (A ++ DD).length) X k, by simp, by decide, by decide, by omega, by simp, edit_len b hx⟩
/-- what the law's change may make -/
inductive Chg (L : List Nat) : List Nat → Prop
  | ed (i : Nat) (X : List Nat) (k : Nat) : X.length ≤ 1 → k ≤ 1 → Chg L (edit L i X k)
  | rev : Chg L L.reverse
  | turn : Chg L (TL.joinL DD (TL.spl DD 0 [] L).reverse)
theorem joinL_run {n : Nat} : ∀ ps : List (List Nat), (∀ p ∈ ps, Run n p) → Run n (TL.joinL DD ps)
  | [], _ => .len (by simp [TL.joinL])
  | [p], h => h p (by simp)
  | p :: q :: r, h => by
    have ih := joinL_run (q :: r) fun x hx => h x (List.mem_cons_of_mem _ hx)
    show Run n (p ++ 46 :: ([] ++ 46 :: TL.joinL DD (q :: r)))
    exact .app (h p (by simp)) (.app (.len (by simp)) ih (by decide)) (by decide)
theorem spl_run' {n : Nat} : ∀ m (L : List Nat), L.length ≤ m → Run n L → ∀ p ∈ TL.spl DD 0 [] L, Run n p
  | m, L, hm, h, p, hp => by
    rcases par_spl (L := L) (acc := []) with ⟨a, r, _, e, s, _⟩ | ⟨_, s, _⟩
    · rw [s] at hp
      rcases List.mem_cons.mp hp with z | z
      · rw [z, List.nil_append]
        exact Run.mid (a := []) (b := DD ++ r) (by rw [List.nil_append, ← List.append_assoc, ← e]; exact h)
      · match m, hm with
        | 0, hm => rw [e] at hm; simp at hm
        | m + 1, hm => exact spl_run' m r (by rw [e] at hm; simp at hm; omega) (Run.mid (a := a ++ DD) (b := []) (by rw [List.append_nil, ← e]; exact h)) p z
    · rw [s] at hp
      rw [List.mem_singleton.mp hp, List.nil_append]
      exact h
def St0 (L : List Nat) : Prop := ∃ A B, L = A ++ DD ++ B ∧ A.length ≤ 56 ∧ B.length ≤ 56 ∧ dgs A ∧ dgs B
def St1 (L : List Nat) : Prop := Two 57 L ∨ Low 57 L
theorem St0.good {L : List Nat} (h : St0 L) : goodL L := by
  obtain ⟨A, B, rfl, a, b, _, _⟩ := h
  exact ((fmt_two a b).run (by decide)).mono (by decide) |>.good
theorem St1.good {L : List Nat} (h : St1 L) : goodL L := h.elim (fun z => ((z.run (by decide)).mono (by decide)).good) fun z => dots_good z.1
theorem St0.step {L L' : List Nat} (h : St0 L) (c : Chg L L') : St1 L' := by
  obtain ⟨A, B, rfl, a, b, da, db⟩ := h
  cases c with
  | ed i X k hx hk => exact fmt_edit a b da db hx hk
  | rev => exact .inl ⟨B.reverse, 46, [], 46, A.reverse, by simp, by decide, by decide, by simp; omega, by simp, by simp; omega⟩
  | turn =>
    have ha : 46 ∉ A := fun z => by have := da _ z; omega
    have hb : 46 ∉ B := fun z => by have := db _ z; omega
    have e : TL.spl DD 0 [] (A ++ DD ++ B) = [A, B] := by
      have h1 := TL.spl_part1 (s := 46) (S := [46]) (p := A) (rest := B) (acc := []) ha
      have h2 := TL.spl_last1 (s := 46) (S := [46]) (p := B) (acc := []) hb
      rw [h2] at h1
      rw [List.append_assoc]
      exact h1
    rw [e]
    show St1 (B ++ (DD ++ A))
    exact .inl ⟨B, 46, [], 46, A, rfl, by decide, by decide, by omega, by simp, by omega⟩
theorem St1.step {L L' : List Nat} (h : St1 L) (c : Chg L L') : goodL L' := by
  rcases h with h | h
  · cases c with
    | ed i X k hx hk => exact (h.edit hx hk).good
    | rev => exact ((h.run (by decide)).rev.mono (by decide)).good
    | turn =>
      have r := h.run (by decide)
      exact ((joinL_run _ fun p hp => spl_run' _ L (Nat.le_refl _) r p (List.mem_reverse.mp hp)).mono (by decide)).good
  · cases c with
    | ed i X k hx hk => exact (h.edit hx).elim id fun z => (z.mono (by decide)).good
    | rev => exact dots_good (by rw [List.count_reverse]; exact h.1)
    | turn =>
      have e : TL.spl DD 0 [] L = [L] := by
        rcases par_spl (L := L) (acc := []) with ⟨a, r, _, e, _, _⟩ | ⟨_, s, _⟩
        · have := h.1
          rw [e] at this
          simp [List.count_append] at this
          omega
        · rw [s, List.nil_append]
      rw [e]
      exact dots_good h.1
/-! ### slices by places -/
theorem tl_cut_to {z : Str} {i : Int} (h : 0 ≤ i) : TL.tl (cutS z none (some i)) = (TL.tl z).take i.toNat := by
  have e : TL.tl (cutS z none (some i)) = ((TL.tl z).drop (HT.sIx z.length 0 none)).take (HT.sIx z.length z.length (some i) - HT.sIx z.length 0 none) := rfl
  rw [e]
  have l : z.length = (TL.tl z).length := rfl
  unfold HT.sIx
  dsimp only
  rw [List.drop_zero, Nat.sub_zero, if_neg (by omega)]
  by_cases k : i.toNat ≤ z.length
  · congr 1; omega
  · rw [List.take_of_length_le (by omega), List.take_of_length_le (by omega)]
end KX

namespace KX
open PySem PySem.Spec PyProof.Rows L2
/-! ### where the two dots of a text are, behind some changes -/
/-- the dots in the first n signs are at least m more than those behind -/
def Lead (n : Nat) (m : Int) (L : List Nat) : Prop := m + (L.count 46 : Int) ≤ 2 * ((L.take n).count 46 : Int)
theorem count_take_le {a b : Nat} (h : a ≤ b) (R : List Nat) : (R.take a).count 46 ≤ (R.take b).count 46 := by
  have e : R.take a = (R.take b).take a := by rw [List.take_take]; congr 1; omega
  rw [e]
  exact (List.take_sublist _ _).count_le 46
theorem count_split (R : List Nat) (k : Nat) : R.count 46 = (R.take k).count 46 + (R.drop k).count 46 := by
  rw [← List.count_append, List.take_append_drop]
theorem count_take_two (R : List Nat) (a k : Nat) : (R.take a).count 46 ≤ (R.take k).count 46 + ((R.drop k).take (a - k)).count 46 := by
  by_cases h : k ≤ a
  · have e : a = k + (a - k) := by omega
    have : R.take a = R.take k ++ (R.drop k).take (a - k) := by
      conv => lhs; rw [e]
      rw [List.take_add]
    rw [this, List.count_append]
    exact Nat.le_refl _
  · exact Nat.le_trans (count_take_le (by omega) R) (Nat.le_add_right _ _)
theorem Lead.edit {n : Nat} {m : Int} {L X : List Nat} {i k : Nat} (h : Lead n m L) (hx : X.length ≤ 1) (hk : k ≤ 1) : Lead (n + 1) (m - 1) (KX.edit L i X k) := by
  unfold Lead at *
  unfold KX.edit
  have x1 : X.count 46 ≤ 1 := Nat.le_trans List.count_le_length hx
  have y1 : ((L.drop i).take k).count 46 ≤ 1 := Nat.le_trans List.count_le_length (by rw [List.length_take]; omega)
  have c1 := count_split L i
  have c2 := count_split (L.drop i) k
  rw [List.drop_drop] at c2
  rw [List.count_append, List.count_append]
  by_cases hi : i ≤ n
  · have t1 : (L.take n).count 46 ≤ (L.take i).count 46 + ((L.drop i).take (n - i)).count 46 := count_take_two L n i
    have t2 := count_take_two (L.drop i) (n - i) k
    rw [List.drop_drop] at t2
    have li : (L.take i).length ≤ i := by rw [List.length_take]; omega
    have t3 : (L.take i).count 46 + X.count 46 + ((L.drop (i + k)).take (n - i - k)).count 46 ≤ ((L.take i ++ X ++ L.drop (i + k)).take (n + 1)).count 46 := by
      rw [List.take_append, List.take_of_length_le (l := L.take i ++ X) (by rw [List.length_append]; omega), List.count_append, List.count_append]
      have := count_take_le (a := n - i - k) (b := n + 1 - (L.take i ++ X).length) (by rw [List.length_append]; omega) (L.drop (i + k))
      omega
    omega
  · have t1 : (L.take n).count 46 ≤ ((L.take i ++ X ++ L.drop (i + k)).take (n + 1)).count 46 := by
      have e : (L.take n) = (L.take i ++ X ++ L.drop (i + k)).take (min n L.length) := by
        rw [List.append_assoc, List.take_append_of_le_length (by rw [List.length_take]; omega), List.take_take]
        by_cases z : n ≤ L.length
        · congr 1; omega
        · rw [List.take_of_length_le (by omega), List.take_of_length_le (by omega)]
      rw [e]
      exact count_take_le (by omega) _
    omega
theorem edit_rev (L X : List Nat) (i k : Nat) (hi : i ≤ L.length) : (edit L i X k).reverse = edit L.reverse (L.length - (i + k)) X.reverse ((L.length - i) - (L.length - (i + k))) := by
  unfold edit
  rw [List.reverse_append, List.reverse_append, List.reverse_take, List.reverse_drop, ← List.append_assoc]
  congr 2
  omega
structure Near (n : Nat) (m : Int) (L : List Nat) : Prop where
  a : Lead n m L
  b : Lead n m L.reverse
theorem Near.edit {n : Nat} {m : Int} {L X : List Nat} {i k : Nat} (h : Near n m L) (hi : i ≤ L.length) (hx : X.length ≤ 1) (hk : k ≤ 1) : Near (n + 1) (m - 1) (KX.edit L i X k) :=
  ⟨h.a.edit hx hk, by rw [edit_rev _ _ _ _ hi]; exact h.b.edit (by rw [List.length_reverse]; exact hx) (by omega)⟩
theorem Lead.left {n : Nat} {m : Int} {a r : List Nat} (h : Lead n m (a ++ [46, 46] ++ r)) (hm : -1 ≤ m) (ha : a.count 46 = 0) : a.length ≤ n := by
  unfold Lead at h
  rcases Nat.lt_or_ge n a.length with z | z
  · rw [List.append_assoc, List.take_append_of_le_length (by omega)] at h
    have : (a.take n).count 46 ≤ a.count 46 := (List.take_sublist _ _).count_le 46
    simp only [List.count_append] at h
    have e : List.count 46 [46, 46] = 2 := by decide
    rw [e] at h
    omega
  · exact z
theorem Near.of {n : Nat} {A B : List Nat} (ha : A.count 46 = 0) (hb : B.count 46 = 0) (la : A.length ≤ n) (lb : B.length ≤ n) : Near (n + 2) 2 (A ++ [46, 46] ++ B) := by
  have one : ∀ A B : List Nat, A.count 46 = 0 → B.count 46 = 0 → A.length ≤ n → Lead (n + 2) 2 (A ++ [46, 46] ++ B) := fun A B ha hb la => by
    unfold Lead
    have e : List.count 46 [46, 46] = 2 := by decide
    have t : List.count 46 (A ++ [46, 46]) ≤ List.count 46 (List.take (n + 2) (A ++ [46, 46] ++ B)) := by
      rw [List.take_append, List.take_of_length_le (l := A ++ [46, 46]) (by simp; omega)]
      simp only [List.count_append]
      omega
    simp only [List.count_append] at t ⊢
    rw [e] at t ⊢
    omega
  refine ⟨one A B ha hb la, ?_⟩
  have e : (A ++ [46, 46] ++ B).reverse = B.reverse ++ [46, 46] ++ A.reverse := by simp
  rw [e]
  exact one _ _ (by rw [List.count_reverse]; exact hb) (by rw [List.count_reverse]; exact ha) (by rw [List.length_reverse]; exact lb)
theorem dgs_count {a : List Nat} (h : dgs a) : a.count 46 = 0 := List.count_eq_zero.mpr fun z => by have := h _ z; omega
theorem Near.good {n : Nat} {m : Int} {L : List Nat} (h : Near n m L) (hn : n ≤ 60) (hm : -1 ≤ m) : goodL L := fun a r e => by
  refine ⟨fun d => ?_, fun d => ?_⟩
  · have := h.a
    rw [e] at this
    exact Nat.le_trans (this.left hm (dgs_count d)) hn
  · have := h.b
    have e2 : L.reverse = r.reverse ++ [46, 46] ++ a.reverse := by rw [e]; simp
    rw [e2] at this
    have k := this.left hm (by rw [List.count_reverse]; exact dgs_count d)
    rw [List.length_reverse] at k
    exact Nat.le_trans k hn
end KX

namespace KX
open PySem PySem.Spec PyProof.Rows L2
/-! ### a zip whose pair is held by another -/
/-- a zip over the iterators in TI; f0, f1: what it knows of the pair it has handed out -/
abbrev ZipO (h : Heap) (z TI TO : Addr) (f0 : Value) (f1 : Bool) : Prop :=
  h.get? z = some { cls := .type "zip", dict := none, data := .fields #[f0, .bool f1, .bool false, .ref TI, .ref TO], slots := #[] }
section
variable {prog : Program} {w : World} {A : Around} {E : Value → Shared → Prop} {s : Shared}
/-- its own pair is free -/
theorem free_none {z TI TO : Addr} {f1 : Bool} (hz : ZipO s.heap z TI TO .none f1) {Q : Bool → Shared → Prop} (h : Q true s) : wpAny (model prog w) A (Builtin.SmallTypes.ownedTupleIsFree (.ref z)) Q E s := by
  unfold Builtin.SmallTypes.ownedTupleIsFree
  exact wpAny_bind (wpAny_field hz rfl (x := .none) rfl (wpAny_pure h))
/-- what it knows: nothing as yet, or a pair handed out before -/
def ZipS (h : Heap) (z TI TO : Addr) : Prop := ∃ f0 f1, ZipO h z TI TO f0 f1 ∧ (f0 = .none ∨ ∃ T : Addr, f0 = rawInt T)
end
/-! ### enumerate(zip(a, b), k) -/
/-- the lists at a and b as they stand at each turn, the items in new pairs, each in a new pair with its number -/
def Itez (K : PySem.W.Frag) (k0 : Int) (a b : Addr) : It :=
  ⟨fun i H => ∃ (xs ys : List V) (x y : V), SqL K H a xs ∧ SqL K H b ys ∧ xs[i]? = some x ∧ ys[i]? = some y,
    fun i H v H' => ∃ T U x y, v = .ref T ∧ H U = none ∧ H T = none ∧ T ≠ U ∧ H' = upd (upd H U (.tup [x, y])) T (.tup [.int (k0 + (i : Nat)), .ref U]) ∧ (∀ xs, SqL K H a xs → xs[i]? = some x) ∧ ∀ ys, SqL K H b ys → ys[i]? = some y,
    fun i H => ∃ xs ys : List V, SqL K H a xs ∧ SqL K H b ys ∧ (xs.length ≤ i ∨ ys.length ≤ i)⟩
/-- the enumerate lies apart from the zip's cells -/
structure EzApart (e z TI TO i1 i2 : Addr) : Prop where
  ez : e ≠ z
  eTI : e ≠ TI
  eTO : e ≠ TO
  ei1 : e ≠ i1
  ei2 : e ≠ i2
def EzSt (e z TI TO i1 i2 a b : Addr) (k0 : Int) (i : Nat) (h : Heap) : Prop :=
  (∃ old, IsEnum h e z (k0 + (i : Nat)) old) ∧ ZipS h z TI TO ∧ PySem.IsPair h TI (.ref i1) (.ref i2) ∧ (∃ x y, PySem.IsPair h TO x y) ∧ h.IsListIter i1 a i ∧ h.IsListIter i2 b i
def iEnumZip (K : PySem.W.Frag) (k : Int) (ta : TA) : TI := fun σ H R => ta σ H fun vs H1 => ∃ a b xs ys, vs = [.ref a, .ref b] ∧ SqL K H1 a xs ∧ SqL K H1 b ys ∧ R (Itez K k a b) H1
end KX

namespace KX
open PySem PySem.Spec PyProof.Rows L2
/-! ### walks that may lay new pairs: n turns, what comes at turn i is told by R -/
structure Wq (J : It) (n : Nat) (G : Hp → Prop) (R : Nat → V → Hp → Prop) : Prop where
  go : ∀ i H, G H → i < n → J.go i H
  yl : ∀ i H x H', G H → J.yld i H x H' → i < n → Same H H' ∧ R i x H'
  st : ∀ H, G H → J.stop n H
theorem Wk.q {J : It} {xs : List V} {G : Hp → Prop} (W : Wk J xs G) : Wq J xs.length G fun i x _ => xs[i]? = some x :=
  ⟨W.go, fun i H x H' g y h => by obtain ⟨e, k⟩ := W.yl i H x H' g y h; subst e; exact ⟨Same.refl _, k⟩, fun H g => W.st _ H g (Nat.le_refl _)⟩
/-- a pair at its address -/
def PairAt (f g : Nat → Option V) : Nat → V → Hp → Prop := fun i v H => ∃ T x y, v = .ref T ∧ H T = some (.tup [x, y]) ∧ f i = some x ∧ g i = some y
theorem wq_enum {K : PySem.W.Frag} {a : Addr} {xs : List V} : Wq (Ite K a) xs.length (fun H => SqL K H a xs) (PairAt (fun i => some (.int (i : Nat))) (fun i => xs[i]?)) := by
  have W := walk_enum (K := K) (a := a) (xs := xs)
  refine ⟨fun i H g h => W.goes i H h g, fun i H x H' g y h => ?_, fun H g => W.stops H g⟩
  obtain ⟨T, u, v, e, n, e2, h1, h2⟩ := W.yields i H x H' h g y
  subst e2
  exact ⟨same_new n, T, u, v, e, upd_same, h1, h2⟩
def PairAt2 (k0 : Int) (f g : Nat → Option V) : Nat → V → Hp → Prop := fun i v H => ∃ T U x y, v = .ref T ∧ H T = some (.tup [.int (k0 + (i : Nat)), .ref U]) ∧ H U = some (.tup [x, y]) ∧ f i = some x ∧ g i = some y
theorem f_wq {J : It} {n : Nat} {G : Hp → Prop} {R : Nat → V → Hp → Prop} (W : Wq J n G R) {g : TG} {tb : TS} {f b k : L2.St → Hp → Prop} {Q : VK} {σ : L2.St} {H : Hp} (Pv : Nat → L2.St → Hp → Prop) (h0 : Pv 0 σ H) (hG : ∀ i σ H, Pv i σ H → G H)
    (hs : ∀ i x σ H H', i < n → Pv i σ H → Same H H' → R i x H' → g x σ H' fun σ2 H2 => tb ⟨Pv (i + 1), Q, f, Pv (i + 1)⟩ σ2 H2) (hd : ∀ σ H, Pv n σ H → f σ H) : ForR J g tb ⟨f, Q, b, k⟩ σ H := by
  refine ⟨fun i m σ H => m = n - i ∧ i ≤ n ∧ Pv i σ H, ⟨n, by simp, Nat.zero_le _, h0⟩, ?_⟩
  rintro i m σ H ⟨rfl, hi, p⟩
  by_cases hlt : i < n
  · refine .inr ⟨W.go i H (hG _ _ _ p) hlt, Pv (i + 1), fun σ' H' p' => ⟨n - (i + 1), by omega, rfl, hlt, p'⟩, fun x H' y => ?_⟩
    obtain ⟨s, r⟩ := W.yl i H x H' (hG _ _ _ p) y hlt
    exact hs i x σ H H' hlt p s r
  · have e : i = n := by omega
    subst e
    exact .inl ⟨W.st H (hG _ _ _ p), hd σ H p⟩
theorem l_wq {J : It} {n : Nat} {G : Hp → Prop} {R : Nat → V → Hp → Prop} (W : Wq J n G R) {g : TG} {tt : TT} {te : TE} {vs : List Nat} {Q : VK} {σ : L2.St} {H1 : Hp}
    (q : ∀ D H0, H1 D = none → Same H1 H0 → H0 D = some (.lst []) → ∃ Pv : Nat → List V → Hp → Prop, Pv 0 [] H0 ∧ (∀ i ys H, Pv i ys H → G H) ∧
      (∀ i ys x H H', i < n → Pv i ys H → Same H H' → R i x H' → g x (wipe σ vs) H' fun σ2 H2 => wipe σ2 vs = wipe σ vs ∧ tt σ2 H2 fun b H3 =>
        if b = true then te σ2 H3 fun y H4 => LcEl D (Pv (i + 1)) y H4 else ∃ ys, Pv (i + 1) ys H3) ∧
      (∀ ys H, Pv n ys H → Q (.ref D) H)) : LcR J g tt te vs σ H1 Q := by
  intro D hD
  obtain ⟨Pv, h0, hG, hs, hd⟩ := q D _ hD (same_new hD) upd_same
  refine ⟨fun i m H => m = n - i ∧ i ≤ n ∧ ∃ ys, Pv i ys H, ⟨n, by simp, Nat.zero_le _, _, h0⟩, ?_⟩
  rintro i m H ⟨rfl, hi, ys, p⟩
  by_cases hlt : i < n
  · refine .inr ⟨W.go i H (hG _ _ _ p) hlt, fun H => ∃ ys, Pv (i + 1) ys H, fun H' p' => ⟨n - (i + 1), by omega, rfl, hlt, p'⟩, fun x H' y => ?_⟩
    obtain ⟨s, r⟩ := W.yl i H x H' (hG _ _ _ p) y hlt
    exact hs i ys x H H' hlt p s r
  · have e : i = n := by omega
    subst e
    exact .inl ⟨W.st H (hG _ _ _ p), hd ys H p⟩
/-- .. the test and the element change nothing of what was tracked, the elements are no new objects -/
theorem l_fq {J : It} {n : Nat} {G : Hp → Prop} {R : Nat → V → Hp → Prop} (W : Wq J n G R) {g : TG} {tt : TT} {te : TE} {vs : List Nat} {Q : VK} {σ : L2.St} {H1 : Hp} (p : Nat → Bool) (F : Nat → V) (hlen : n < sizeLine) (hG : ∀ H', Same H1 H' → G H')
    (hs : ∀ (i : Nat) x H' (S : VK) (N : Hp → Prop), i < n → R i x H' → Same H1 H' → (p i = true → ∀ H'', Same H' H'' → S (F i) H'') → (p i = false → ∀ H'', Same H' H'' → N H'') →
      g x (wipe σ vs) H' fun σ2 H2 => wipe σ2 vs = wipe σ vs ∧ tt σ2 H2 fun b H3 => if b = true then te σ2 H3 S else N H3)
    (q : ∀ D H', H1 D = none → Same H1 H' → H' D = some (.lst (((List.range n).filter p).map F)) → Q (.ref D) H') : LcR J g tt te vs σ H1 Q := by
  refine l_wq W fun D H0 n0 s0 e0 => ⟨fun i ys H => Same H1 H ∧ H D = some (.lst ys) ∧ ys = ((List.range i).filter p).map F ∧ ys.length ≤ i, ⟨s0, e0, rfl, Nat.le_refl _⟩, fun i ys H h => hG _ h.1, fun i ys x Ha H hi h sa hr => ?_, fun ys H h => ?_⟩
  · obtain ⟨s1, e1, hy, hl⟩ := h
    replace s1 := s1.trans sa
    replace e1 := sa _ _ e1
    have ht : List.range (i + 1) = List.range i ++ [i] := List.range_succ
    refine hs i x H (fun y H4 => LcEl D (fun ys H => Same H1 H ∧ H D = some (.lst ys) ∧ ys = ((List.range (i + 1)).filter p).map F ∧ ys.length ≤ i + 1) y H4) (fun H3 => ∃ ys, Same H1 H3 ∧ H3 D = some (.lst ys) ∧ ys = ((List.range (i + 1)).filter p).map F ∧ ys.length ≤ i + 1) hi hr s1 (fun hp H'' s2 => ?_) fun hp H'' s2 => ?_
    · refine i_lcEl (s2 _ _ e1) (by omega) fun H5 o5 e5 => ⟨Off.new n0 (s1.trans s2) o5, e5, ?_, by simp; omega⟩
      rw [ht, List.filter_append, List.map_append, hy]
      simp [hp]
    · refine ⟨ys, s1.trans s2, s2 _ _ e1, ?_, by omega⟩
      rw [ht, List.filter_append, List.map_append, hy]
      simp [hp]
  · obtain ⟨s1, e1, hy, hl⟩ := h
    rw [hy] at e1
    exact q D H n0 s1 e1
theorem lc_yes {g : TG} {te : TE} {x : V} {σ σ1 : L2.St} {H : Hp} {vs : List Nat} {S : VK} {N : Hp → Prop} (h : g x σ1 H fun σ2 H2 => wipe σ2 vs = wipe σ vs ∧ te σ2 H2 S) : g x σ1 H fun σ2 H2 => wipe σ2 vs = wipe σ vs ∧ tYes σ2 H2 fun b H3 => if b = true then te σ2 H3 S else N H3 := by
  have e : (fun (σ2 : L2.St) H2 => wipe σ2 vs = wipe σ vs ∧ tYes σ2 H2 fun b H3 => if b = true then te σ2 H3 S else N H3) = fun σ2 H2 => wipe σ2 vs = wipe σ vs ∧ te σ2 H2 S := by
    funext σ2 H2
    show (_ ∧ if true = true then te σ2 H2 S else N H2) = _
    rw [if_pos rfl]
  rw [e]; exact h
theorem l_mq {J : It} {n : Nat} {G : Hp → Prop} {R : Nat → V → Hp → Prop} (W : Wq J n G R) {g : TG} {te : TE} {vs : List Nat} {Q : VK} {σ : L2.St} {H1 : Hp} (F : Nat → V) (hlen : n < sizeLine) (hG : ∀ H', Same H1 H' → G H')
    (hs : ∀ (i : Nat) x H' (S : VK), i < n → R i x H' → Same H1 H' → (∀ H'', Same H' H'' → S (F i) H'') → g x (wipe σ vs) H' fun σ2 H2 => wipe σ2 vs = wipe σ vs ∧ te σ2 H2 S)
    (q : ∀ D H', H1 D = none → Same H1 H' → H' D = some (.lst ((List.range n).map F)) → Q (.ref D) H') : LcR J g tYes te vs σ H1 Q :=
  l_fq W (fun _ => true) F hlen hG (fun i x H' S N hi hr s1 hS _ => lc_yes (hs i x H' S hi hr s1 (hS rfl))) (fun D H' n0 s e => q D H' n0 s (by rw [e, List.filter_eq_self.mpr (by simp)]))
/-- .. each element is data that is laid anew -/
theorem Off.newP {D : Addr} {H0 H H' : Hp} (s : Off D H H') : Same (KX.wo D (KX.newP H0 H)) (KX.wo D (KX.newP H0 H')) := fun b o e => by
  by_cases h : b = D
  · have e' : KX.wo D (KX.newP H0 H) b = none := if_pos h
    rw [e'] at e; cases e
  · rw [wo_get h] at e ⊢
    unfold KX.newP at e ⊢
    split at e
    · next z => rw [if_pos z]; exact s _ _ h e
    · cases e
/-! ### readings -/
section
variable {K : PySem.W.Frag} {σ : L2.St} {H : Hp} {Q : VK}
theorem i_iEnum {ta : TA} {R : It → Hp → Prop} (q : ta σ H fun vs H1 => ∃ a xs, vs = [.ref a] ∧ SqL K H1 a xs ∧ R (Ite K a) H1) : iEnum K ta σ H R := q
theorem i_exen {p : Addr} {xs : List V} {F : Addr → Prop} (h : SqL K H p xs) (q : F p) : ∃ a xs, [V.ref p] = [.ref a] ∧ SqL K H a xs ∧ F a := ⟨p, xs, rfl, h, q⟩
theorem i_iZip {ta : TA} {R : It → Hp → Prop} (q : ta σ H fun vs H1 => ∃ a b xs ys, vs = [.ref a, .ref b] ∧ SqL K H1 a xs ∧ SqL K H1 b ys ∧ R (Itz K a b) H1) : iZip K ta σ H R := q
theorem i_exz {p r : Addr} {xs ys : List V} {F : Addr → Addr → Prop} (h : SqL K H p xs) (k : SqL K H r ys) (q : F p r) : ∃ a b xs ys, [V.ref p, V.ref r] = [.ref a, .ref b] ∧ SqL K H a xs ∧ SqL K H b ys ∧ F a b := ⟨p, r, xs, ys, rfl, h, k, q⟩
theorem i_ez {k0 : Int} {ta : TA} {R : It → Hp → Prop} (q : ta σ H fun vs H1 => ∃ a b xs ys, vs = [.ref a, .ref b] ∧ SqL K H1 a xs ∧ SqL K H1 b ys ∧ R (Itez K k0 a b) H1) : iEnumZip K k0 ta σ H R := q
/-- list(xs), xs a list -/
def rListN (K : PySem.W.Frag) : List V → Hp → VK → Prop := fun xs H Q => ∃ p ys, xs = [.ref p] ∧ SqL K H p ys ∧ NewR H (.lst ys) Q
theorem call_listN {X : Cx} : CallR X (.type "list") (rListN X.K) := fun pins s σ H xs us Q I r ⟨p, ys, e, h, q⟩ => call_list_of pins s σ H xs us Q I r ⟨p, ys, e, .inl h, q⟩
theorem i_listN {p : Addr} {ys : List V} (h : SqL K H p ys) (q : NewR H (.lst ys) Q) : rListN K [.ref p] H Q := ⟨p, ys, rfl, h, q⟩
/-- int(b), b a bool -/
def rIntB : List V → Hp → VK → Prop := fun xs H Q => ∃ k, xs = [.bl k] ∧ Q (.int (if k then 1 else 0)) H
theorem call_intB {X : Cx} : CallR X (.type "int") rIntB := fun pins s σ H xs us Q I r h => call_int1 pins s σ H xs us Q I r (.inr h)
theorem i_intB {k : Bool} (q : Q (.int (if k then 1 else 0)) H) : rIntB [.bl k] H Q := ⟨k, rfl, q⟩
theorem i_tyL {p : Addr} {xs : List V} {B : Prop} (h : SqL K H p xs) (q : B) : tyV K "list" (.ref p) H ∧ B := ⟨.inl ⟨rfl, xs, h⟩, q⟩
theorem i_isBl {a b : Bool} (q : Q (.bl (decide (a = b))) H) : rIsB (.bl a) (.bl b) H Q := ⟨a, b, rfl, rfl, q⟩
end
/-! ### rules within a comprehension: the written part by its own name -/
section
variable {X : Cx} {K : PySem.W.Frag}
theorem ix_listK (h : X.K = K) : IxR X (rIxL K) := h ▸ ix_list
theorem call_lenNK (h : X.K = K) : CallR X (.builtin "len") (rLen K) := h ▸ call_lenN
end
/-! ### calls by keywords alone -/
def pmL {α : Type} (pm : List Nat) (l : List α) : List α := pm.filterMap (l[·]?)
structure KB0 (K : PySem.W.Frag) (fd : FuncData) (ps ks : List Str) (pm : List Nat) : Prop where
  to : ∀ (s : Shared) (ws : List Value), K.In s.heap → ws.length = ks.length → BindsTo s fd ⟨[], ks.zip ws⟩ (ps.zip (pmL pm ws))
def tCallW (sp : Sp) (n : Nat) (pm : List Nat) (E : XK) (tk : TA) : TE := fun σ H Q => tk σ H fun zs H2 => zs.length = n ∧ sp (pmL pm zs) H2 Q E
theorem i_callW {sp : Sp} {n : Nat} {pm : List Nat} {E : XK} {tk : TA} {σ : L2.St} {H : Hp} {Q : VK} (q : tk σ H fun zs H2 => zs.length = n ∧ sp (pmL pm zs) H2 Q E) : tCallW sp n pm E tk σ H Q := q
end KX

namespace KX
open PySem PySem.Spec PyProof.Rows L2
/-! ### lists of windows -/
theorem da_list {b : Bool} {K : PySem.W.Frag} {H : Hp} {v : V} {d : PyData} (h : DaF b K H v d) (e : isi d "list" = true) : ∃ a xs ds, v = .ref a ∧ d = .list ds ∧ SqL K H a xs ∧ DaAllF b K H xs ds := by
  cases h with
  | lst hq _ ha => exact ⟨_, _, _, rfl, rfl, hq, ha⟩
  | _ => cases e
theorem da_get {b : Bool} {K : PySem.W.Frag} {H : Hp} : ∀ {xs : List V} {ds : List PyData}, DaAllF b K H xs ds → ∀ {i : Nat} {x : V}, xs[i]? = some x → ∃ d, ds[i]? = some d ∧ DaF b K H x d
  | _, _, .nil, i, x, h => by simp at h
  | _, _, .cons h r, 0, x, e => by cases e; exact ⟨_, rfl, h⟩
  | _, _, .cons h r, i + 1, x, e => da_get r (by simpa using e)
/-- the position of the first one that is no window, None for what is no list -/
def badV : PyData → Option V
  | .list ds => (ds.findIdx? fun d => !winB d).map fun i => .int (i : Nat)
  | _ => some .non
theorem badV_none {ds : List PyData} (h : ∀ d ∈ ds, winB d = true) : badV (.list ds) = none := by
  show (ds.findIdx? fun d => !winB d).map (fun i => V.int (i : Nat)) = none
  rw [List.findIdx?_eq_none_iff.mpr fun d hd => by rw [h d hd]; rfl]; rfl
theorem badV_at {ds : List PyData} {i : Nat} {d : PyData} (hj : ∀ j, j < i → ∀ d, ds[j]? = some d → winB d = true) (hd : ds[i]? = some d) (h : winB d = false) : badV (.list ds) = some (.int i) := by
  obtain ⟨hi, e⟩ := List.getElem?_eq_some_iff.mp hd
  have : ds.findIdx? (fun d => !winB d) = some i := by
    rw [List.findIdx?_eq_some_iff_getElem]
    refine ⟨hi, by rw [e, h]; rfl, fun j hji => ?_⟩
    have hl : j < ds.length := Nat.lt_trans hji hi
    rw [hj j hji _ (List.getElem?_eq_getElem hl)]; decide
  show (ds.findIdx? fun d => !winB d).map (fun i => V.int (i : Nat)) = _
  rw [this]; rfl
theorem badV_all {ds : List PyData} (h : badV (.list ds) = none) : ∀ d ∈ ds, winB d = true := by
  replace h : (ds.findIdx? fun d => !winB d).map (fun i => V.int (i : Nat)) = none := h
  have h' : ds.findIdx? (fun d => !winB d) = none := by simpa using h
  intro d hd
  have := List.findIdx?_eq_none_iff.mp h' d hd
  simpa using this
/-- what reaches, contains, rises -/
def reachW (w : Int × Option Int) (n : Int) : Bool := match w.2 with
  | none => true
  | some h => decide (h ≥ n)
def contW (w : Int × Option Int) (n : Int) : Bool := decide (w.1 ≤ n) && reachW w n
def risesW (w u : Int × Option Int) : Bool := !decide (u.1 < w.1) && (match w.2 with
  | none => u.2.isNone
  | some h => reachW u h)
def posV : Option Nat → V
  | none => .non
  | some i => .int (i : Nat)
/-- the first fall, from place i on -/
def fallAt : Nat → (Int × Option Int) → List (Int × Option Int) → Option Nat
  | _, _, [] => none
  | i, w, u :: r => if risesW w u = true then fallAt (i + 1) u r else some i
def fallI : List (Int × Option Int) → Option Nat
  | [] => none
  | w :: r => fallAt 1 w r
def leastI (n : Int) (ws : List (Int × Option Int)) : Option Nat := ws.findIdx? fun w => reachW w n
theorem cutV_to {xs : List V} {i : Int} (h : 0 ≤ i) : cutV xs none (some i) = xs.take i.toNat := by
  unfold cutV HT.sIx
  dsimp only
  rw [List.drop_zero, Nat.sub_zero, if_neg (by omega)]
  by_cases k : i.toNat ≤ xs.length
  · congr 1; omega
  · rw [List.take_of_length_le (by omega), List.take_of_length_le (by omega)]
/-! ### a list of windows at a, apart from the law's numbers at r -/
def WLs (K : PySem.W.Frag) (H : Hp) (r a : Addr) (ws : List (Int × Option Int)) : Prop := a ≠ r ∧ ∃ xs, H a = some (.lst xs) ∧ DaAll K (wo a (wo r H)) xs (ws.map winD)
theorem wo_off {r a : Addr} {H H' : Hp} (s : Off r H H') : Same (wo a (wo r H)) (wo a (wo r H')) := Same.wo s.wo
theorem wo_off2 {r a : Addr} {H H' : Hp} (s : Off a H H') : Same (wo a (wo r H)) (wo a (wo r H')) := fun b o e => by
  by_cases h : b = a
  · have e' : wo a (wo r H) b = none := if_pos h
    rw [e'] at e; cases e
  · rw [wo_get h] at e ⊢
    by_cases k : b = r
    · have e' : wo r H b = none := if_pos k
      rw [e'] at e; cases e
    · rw [wo_get k] at e ⊢
      exact s _ _ h e
theorem WLs.off {K : PySem.W.Frag} {H H' : Hp} {r a : Addr} {ws : List (Int × Option Int)} (h : WLs K H r a ws) (s : Off r H H') : WLs K H' r a ws := by
  obtain ⟨n, xs, e, d⟩ := h
  exact ⟨n, xs, s.get n e, d.same (wo_off s)⟩
theorem WLs.da {K : PySem.W.Frag} {H : Hp} {r a : Addr} {ws : List (Int × Option Int)} (h : WLs K H r a ws) : Da K H (.ref a) (.list (ws.map winD)) := by
  obtain ⟨n, xs, e, d⟩ := h
  exact Da.lst (SqL.of e) ((d.same wo_same).same wo_same)
theorem da_set {b : Bool} {K : PySem.W.Frag} {H : Hp} {v : V} {d : PyData} (h : DaF b K H v d) : ∀ {xs : List V} {ds : List PyData}, DaAllF b K H xs ds → ∀ i : Nat, DaAllF b K H (xs.set i v) (ds.set i d)
  | _, _, .nil, _ => .nil
  | _, _, .cons _ r, 0 => .cons h r
  | _, _, .cons k r, i + 1 => .cons k (da_set h r i)
theorem WLs.app {K : PySem.W.Frag} {H H' : Hp} {r a : Addr} {ws : List (Int × Option Int)} {w : Int × Option Int} {v : V} {xs : List V} (h : WLs K H r a ws) (e : H a = some (.lst xs)) (o : Off a H H') (e' : H' a = some (.lst (xs ++ [v]))) (d : Da K (wo a (wo r H)) v (winD w)) : WLs K H' r a (ws ++ [w]) := by
  obtain ⟨n, xs', e2, k⟩ := h
  rw [e] at e2
  cases e2
  refine ⟨n, _, e', ?_⟩
  rw [List.map_append]
  exact (k.same (wo_off2 o)).app (.cons (d.same (wo_off2 o)) .nil)
theorem WLs.set {K : PySem.W.Frag} {H H' : Hp} {r a : Addr} {ws : List (Int × Option Int)} {w : Int × Option Int} {v : V} {xs : List V} {i : Nat} (h : WLs K H r a ws) (e : H a = some (.lst xs)) (o : Off a H H') (e' : H' a = some (.lst (xs.set i v))) (d : Da K (wo a (wo r H)) v (winD w)) : WLs K H' r a (ws.set i w) := by
  obtain ⟨n, xs', e2, k⟩ := h
  rw [e] at e2
  cases e2
  refine ⟨n, _, e', ?_⟩
  rw [List.map_set]
  exact da_set (d.same (wo_off2 o)) (k.same (wo_off2 o)) i
theorem WLs.len {K : PySem.W.Frag} {H : Hp} {r a : Addr} {ws : List (Int × Option Int)} {xs : List V} (h : WLs K H r a ws) (e : H a = some (.lst xs)) : xs.length = ws.length := by
  obtain ⟨_, xs', e2, k⟩ := h
  rw [e] at e2
  cases e2
  rw [k.len]; simp
/-! ### the law's own look -/
def topW (w : Int × Option Int) : Int := match w.2 with
  | none => 10 ^ Int.toNat 64
  | some h => h
def fallsW (w u : Int × Option Int) : Bool := decide (u.1 < w.1) || decide (topW u < topW w)
/-- what the law's numbers stay below -/
def W60 (w : Int × Option Int) : Prop := okW w ∧ w.1 < 10 ^ 60 ∧ ∀ h, w.2 = some h → h < 10 ^ 60
def firstI (bs : List Bool) : Option Nat := (List.range bs.length).find? fun i => bs.getD i false
/-- the law's flags: none at the first window, then where it falls -/
def flagI (ws : List (Int × Option Int)) (i : Nat) : Bool := match ws[i]?, ws[i + 1]? with
  | some a, some b => !risesW a b
  | _, _ => false
def flagsB (ws : List (Int × Option Int)) : List Bool := false :: (List.range (ws.length - 1)).map (flagI ws)
theorem nd_win {w : Int × Option Int} : PyData.hasDict (winD w) = false := by
  obtain ⟨l, hi⟩ := w
  cases hi <;> rfl
theorem shaped_win {w : Int × Option Int} : SeqAt.shaped (winD w) = true := by
  obtain ⟨l, hi⟩ := w
  cases hi <;> (unfold SeqAt.shaped; simp [winD, hiD, PyData.canLay0, PyData.canLayAll0, PyData.depth, PyData.depthAll])
theorem lay_all : ∀ {ds : List PyData}, (∀ d ∈ ds, d.canLay0 = true) → PyData.canLayAll0 ds = true
  | [], _ => rfl
  | d :: ds, h => by
    show (PyData.canLay0 d && PyData.canLayAll0 ds) = true
    rw [h d (by simp), lay_all fun x hx => h x (List.mem_cons_of_mem _ hx)]; rfl
theorem nd_all : ∀ {ds : List PyData}, (∀ d ∈ ds, d.hasDict = false) → PyData.hasDictAll ds = false
  | [], _ => rfl
  | d :: ds, h => by
    show (PyData.hasDict d || PyData.hasDictAll ds) = false
    rw [h d (by simp), nd_all fun x hx => h x (List.mem_cons_of_mem _ hx)]; rfl
theorem shaped_list {ds : List PyData} (h : ∀ d ∈ ds, d.canLay0 = true ∧ d.depth ≤ 60) : SeqAt.shaped (.list ds) = true := by
  unfold SeqAt.shaped
  have e1 : PyData.canLay0 (.list ds) = true := lay_all fun d hd => (h d hd).1
  have e2 : PyData.depth (.list ds) ≤ 64 := by
    have := depthAll_le fun d hd => (h d hd).2
    simp only [PyData.depth]; omega
  rw [e1]
  simpa using e2
theorem shaped_wins (ws : List (Int × Option Int)) : SeqAt.shaped (.list (ws.map winD)) = true := shaped_list fun d hd => by
  obtain ⟨⟨l, o⟩, _, rfl⟩ := List.mem_map.mp hd
  refine ⟨shaped_lay shaped_win, ?_⟩
  cases o <;> simp [winD, hiD, PyData.depth, PyData.depthAll]
theorem nd_wins (ws : List (Int × Option Int)) : PyData.hasDict (.list (ws.map winD)) = false := nd_all fun d hd => by
  obtain ⟨w, _, rfl⟩ := List.mem_map.mp hd
  exact nd_win
def posD : Option Nat → PyData
  | none => .none
  | some i => .int (i : Nat)
theorem winB_ok {w : Int × Option Int} (h : okW w) : winB (winD w) = true := by
  unfold winB
  rw [winP_D h]; rfl
end KX

namespace KX
open PySem PySem.Spec PyProof.Rows L2
/-! ### exceptions as values -/
section
open PySem.HandSPX PySem.Builtin
variable {prog : Program} {w : World} {M : Model} {A : Around} {E : Value → Shared → Prop} {R : Result → Shared → Prop} {h : Heap} {g : Array GenState} {d : Drawn} {t : Nat} {os : OsState}
variable {nm q : Str} {C N : Addr} {bs bm bmB : List Value} {hdct : Bool} {sn : List Str} {sub : List Value} {ab : Bool} {col : Option Bool} {dd : Option Addr} {k0 k1 k2 k3 k5 : Option Value} {B newId initId : String} {kw : List (Str × Value)}
end
/-! ### rules -/
def MkV (C : Addr) (sp : Sp) (vs : List V) (H1 : Hp) (Q : VK) : Prop := vs.length ≤ 1000 ∧ ∀ a, H1 a = none → sp (.ref a :: vs) (L2.upd H1 a (exo a C none)) (fun v H2 => v = .non ∧ Q (.ref a) H2) fun _ _ _ => False
def tMkV (C : Addr) (sp : Sp) (ta : TA) : TE := fun σ H Q => ta σ H fun vs H1 => MkV C sp vs H1 Q
section
variable {X : Cx} {o e : Expr} {es : List Expr} {to te : TE} {ta : TA} {f x : Str} {p p' p1 p2 pos : Pos} {newId initId : String} {bmB : List Value}
/-- how an __init__ takes named arguments -/
structure KBI (K : PySem.W.Frag) (fd : FuncData) (ps ks : List Str) (pm : List Nat) : Prop where
  to : ∀ (s : Shared) (self : Value) (ws : List Value), K.In s.heap → ws.length = ks.length → BindsTo s fd ⟨[self], ks.zip ws⟩ (ps.zip (self :: pmL pm ws))
def tMkW (C : Addr) (sp : Sp) (n : Nat) (pm : List Nat) (tk : TA) : TE := fun σ H Q => tk σ H fun zs H1 => zs.length = n ∧ MkV C sp (pmL pm zs) H1 Q
/-- C(e), the class without own __init__ -/
def tMk0 (C : Addr) (te : TE) : TE := fun σ H Q => te σ H fun _ H1 => ∀ a, H1 a = none → Q (.ref a) (L2.upd H1 a (exo a C none))
/-- x.f, x an exception of which the heap tells -/
def XQ (C : Addr) (f : Str) (Q : VK) : VK := fun x H => ∃ a d fs v, x = .ref a ∧ H a = some (exo a C (some d)) ∧ H d = some (exd d fs) ∧ fs.lookup f = some v ∧ Q v H
/-- C(..).f -/
def tMkX (C : Addr) (fs : List Str) (f : Str) (ta : TA) : TE := fun σ H Q => ta σ H fun vs H1 => MkV C (spI C fs) vs H1 (XQ C f Q)
def tMkY (C : Addr) (fs : List Str) (f : Str) (n : Nat) (pm : List Nat) (ta : TA) : TE := fun σ H Q => ta σ H fun zs H1 => zs.length = n ∧ MkV C (spI C fs) (pmL pm zs) H1 (XQ C f Q)
/-- .. its class told by the hypotheses -/
def XvQ (K : PySem.W.Frag) (f : Str) (Q : VK) : VK := fun x H => ∃ C n i m, ExT K n i m C ∧ PySem.W.findIn K (.ref C) f = some none ∧ XQ C f Q x H
def tXv (K : PySem.W.Frag) (f : Str) (te : TE) : TE := fun σ H Q => te σ H (XvQ K f Q)
end
/-- an exception of the class at C, with or without fields -/
def XI (H : Hp) (a C : Addr) : Prop := ∃ od, H a = some (exo a C od) ∧ ∀ d, od = some d → ∃ fs, H d = some (exd d fs)
theorem XI.same {H H' : Hp} {a C : Addr} (s : Same H H') (h : XI H a C) : XI H' a C := by
  obtain ⟨od, h1, h2⟩ := h
  exact ⟨od, s _ _ h1, fun d e => let ⟨fs, h⟩ := h2 d e; ⟨fs, s _ _ h⟩⟩
def rIsV (K : PySem.W.Frag) : List V → Hp → VK → Prop := fun xs H Q => ∃ (a C : Addr) (c : V) (cv : Value) (b : Bool) (n i : String) (m : List Value), xs = [.ref a, c] ∧ XI H a C ∧ ExT K n i m C ∧ ClassGet K ∧ (∀ u, RelV c u → u = cv) ∧ PySem.W.kitOne K (.ref C) cv = some b ∧ Q (.bl b) H
/-- what isinstance answers, class by class -/
def KR (K : PySem.W.Frag) (t : Value) : List Value → List Bool → Prop
  | [], [] => True
  | c :: cs, b :: bs => PySem.W.kitOne K t c = some b ∧ KR K t cs bs
  | _, _ => False
theorem KR.cons {K : PySem.W.Frag} {t c : Value} {cs : List Value} {b : Bool} {bs : List Bool} (h : PySem.W.kitOne K t c = some b) (r : KR K t cs bs) : KR K t (c :: cs) (b :: bs) := ⟨h, r⟩
theorem KR.nil {K : PySem.W.Frag} {t : Value} : KR K t [] [] := trivial
def NewX (H : Hp) (C : Addr) (Q : VK) : Prop := ∀ a, H a = none → Q (.ref a) (L2.upd H a (exo a C none))
/-! ### readings -/
section
variable {K : PySem.W.Frag} {σ : L2.St} {H : Hp} {Q : VK} {C : Addr} {sp : Sp} {ta : TA} {te : TE} {fs : List Str} {f : Str} {n : Nat} {pm : List Nat}
theorem i_mkV0 (q : ta σ H fun vs H1 => MkV C sp vs H1 Q) : tMkV C sp ta σ H Q := q
theorem i_mkW0 (q : ta σ H fun zs H1 => zs.length = n ∧ MkV C sp (pmL pm zs) H1 Q) : tMkW C sp n pm ta σ H Q := q
theorem i_mkX0 (q : ta σ H fun vs H1 => MkV C (spI C fs) vs H1 (XQ C f Q)) : tMkX C fs f ta σ H Q := q
theorem i_mkY0 (q : ta σ H fun zs H1 => zs.length = n ∧ MkV C (spI C fs) (pmL pm zs) H1 (XQ C f Q)) : tMkY C fs f n pm ta σ H Q := q
theorem i_xv0 (q : te σ H (XvQ K f Q)) : tXv K f te σ H Q := q
theorem i_mk00 (q : te σ H fun _ H1 => NewX H1 C Q) : tMk0 C te σ H Q := q
theorem i_mkV {vs : List V} (hl : vs.length = fs.length) (few : fs.length ≤ 1000) (q : ∀ a d H2, Same H H2 → H2 a = some (exo a C (some d)) → H2 d = some (exd d (fs.zip vs).reverse) → Q (.ref a) H2) : MkV C (spI C fs) vs H Q := by
  refine ⟨by omega, fun a ha => ⟨a, vs, rfl, hl, upd_same, fun d H' hd ne ea ed off => ⟨rfl, ?_⟩⟩⟩
  rw [upd_ne ne] at hd
  refine q a d H' (fun b o e => ?_) ea ed
  have n1 : b ≠ a := ne_of_none e ha
  have n2 : b ≠ d := ne_of_none e hd
  rw [off b n1 n2, upd_ne n1]
  exact e
/-- C(..).f is what was given -/
theorem i_mkX {vs : List V} {v : V} (hl : vs.length = fs.length) (few : fs.length ≤ 1000) (lk : (fs.zip vs).reverse.lookup f = some v) (q : ∀ H2, Same H H2 → Q v H2) : MkV C (spI C fs) vs H (XQ C f Q) :=
  i_mkV hl few fun a d H2 s ea ed => ⟨a, d, _, v, rfl, ea, ed, lk, q H2 s⟩
theorem i_xvQ {a d : Addr} {gs : List (Str × V)} {v : V} {n i : String} {m : List Value} (T : ExT K n i m C) (nf : PySem.W.findIn K (.ref C) f = some none) (ea : H a = some (exo a C (some d))) (ed : H d = some (exd d gs)) (lk : gs.lookup f = some v) (q : Q v H) : XvQ K f Q (.ref a) H :=
  ⟨C, n, i, m, T, nf, a, d, gs, v, rfl, ea, ed, lk, q⟩
theorem i_isVr {a D : Addr} {b : Bool} {n i : String} {m : List Value} (T : ExT K n i m C) (G : ClassGet K) (h : XI H a C) (k : PySem.W.kitOne K (.ref C) (.ref D) = some b) (q : Q (.bl b) H) : rIsV K [.ref a, .ref D] H Q := ⟨a, C, _, _, b, n, i, m, rfl, h, T, G, rel_ref, k, q⟩
theorem i_isVt {a : Addr} {t : String} {b : Bool} {n i : String} {m : List Value} (T : ExT K n i m C) (G : ClassGet K) (h : XI H a C) (k : PySem.W.kitOne K (.ref C) (.type t) = some b) (q : Q (.bl b) H) : rIsV K [.ref a, .ty t] H Q := ⟨a, C, _, _, b, n, i, m, rfl, h, T, G, rel_ty, k, q⟩
theorem i_gLst {p : Addr} {xs : List V} {n : Nat} {t : TGs} {R : L2.St → Hp → Prop} (h : SqL K H p xs) (e : xs.length = n) (q : t xs σ H R) : gLst K n t (.ref p) σ H R := ⟨p, xs, rfl, h, e, q⟩
end
/-! ### lists whose addresses are told to be none of the run's own -/
def rCatN : R2 := fun x y H Q => ∃ l b xs zs, x = .ref l ∧ y = .ref b ∧ H l = some (.lst xs) ∧ H b = some (.lst zs) ∧ xs.length + zs.length ≤ sizeLine ∧ NewN H (.lst (xs ++ zs)) Q
theorem i_rCatN {H : Hp} {Q : VK} {l b : Addr} {xs zs : List V} (h : H l = some (.lst xs)) (k : H b = some (.lst zs)) (z : xs.length + zs.length ≤ sizeLine) (q : NewN H (.lst (xs ++ zs)) Q) : rCatN (.ref l) (.ref b) H Q := ⟨l, b, xs, zs, rfl, rfl, h, k, z, q⟩
def rRepN : R2 := fun x y H Q => ∃ l k xs, x = .ref l ∧ y = .int k ∧ H l = some (.lst xs) ∧ 0 ≤ k ∧ k ≤ 1000 ∧ xs.length ≤ 1000 ∧ NewN H (.lst (List.replicate k.toNat xs).flatten) Q
theorem i_rRepN {H : Hp} {Q : VK} {l : Addr} {k : Int} {xs : List V} (h : H l = some (.lst xs)) (h1 : 0 ≤ k ∧ k ≤ 1000) (h3 : xs.length ≤ 1000) (q : NewN H (.lst (List.replicate k.toNat xs).flatten) Q) : rRepN (.ref l) (.int k) H Q := ⟨l, k, xs, rfl, rfl, h, h1.1, h1.2, h3, q⟩
/-- an exception with two fields -/
def PX (H : Hp) (e C : Addr) (fs : List Str) (a b : V) : Prop := ∃ d, H e = some (exo e C (some d)) ∧ H d = some (exd d (fs.zip [a, b]).reverse)
theorem PX.same {H H' : Hp} {e C : Addr} {fs : List Str} {a b : V} (s : Same H H') (h : PX H e C fs a b) : PX H' e C fs a b := let ⟨d, h1, h2⟩ := h; ⟨d, s _ _ h1, s _ _ h2⟩
theorem KR.head {K : PySem.W.Frag} {t c : Value} {cs : List Value} : ∀ {bs : List Bool}, KR K t (c :: cs) bs → ∃ b r, bs = b :: r ∧ PySem.W.kitOne K t c = some b ∧ KR K t cs r
  | [], h => h.elim
  | b :: r, h => ⟨b, r, rfl, h.1, h.2⟩
theorem KR.done {K : PySem.W.Frag} {t : Value} : ∀ {bs : List Bool}, KR K t [] bs → bs = []
  | [], _ => rfl
  | _ :: _, h => h.elim
def idx (bs : List Bool) : List Nat := (List.range bs.length).filter fun i => bs.getD i false
end KX

namespace KX
open PySem PySem.Spec PyProof.Rows L2
/-! ### facts of the written part, several at once: each is closed by the kernel -/
section
variable {K : PySem.W.Frag}
theorem exT_of {C : Addr} {n i : String} {tl : List Value} (bf : BaseF n i tl) (h : exB K C n tl = true) : ExT K n i tl C := by
  unfold exB at h
  simp only [Bool.and_eq_true, beq_iff_eq] at h
  obtain ⟨h1, h2, h3, h4, h5, h6, h7, h8, h9, h10, h11⟩ := h
  exact ⟨⟨bf, h1, h2, h5, h3, h6, h7, h4⟩, h8, h9, h10, h11⟩
theorem fd_of {C : Addr} {fs : List Str} (h : fdB K C fs = true) {f : Str} (m : f ∈ fs) : PySem.W.takerIn K C f = some none ∧ PySem.W.findIn K (.ref C) f = some none := by
  have := List.all_eq_true.mp h f m
  simpa only [Bool.and_eq_true, beq_iff_eq] using this
theorem su_of {C : Addr} {l : List (Value × Bool)} (h : suB K C l = true) {v : Value} {b : Bool} (m : (v, b) ∈ l) : PySem.W.subIn K (.ref C) v = some b := beq_iff_eq.mp (List.all_eq_true.mp h _ m)
theorem ki_of {C : Addr} {l : List (Value × Bool)} (h : kiB K C l = true) {v : Value} {b : Bool} (m : (v, b) ∈ l) : PySem.W.kitOne K (.ref C) v = some b := beq_iff_eq.mp (List.all_eq_true.mp h _ m)
theorem ty_of {f : Addr} (h : tyB K f = true) : PySem.W.typeIn K (.ref f) = some (.type "function") := beq_iff_eq.mp h
def ckB (K : PySem.W.Frag) (cd : Value) (q : Str) (f : Addr) : Bool := PySem.W.codeIn K cd q && PySem.W.keepIn K (.ref f)
/-- a def of the text, its function object's data not told -/
def DefK (K : PySem.W.Frag) (x qual : Str) (st : Stmt) (f : Addr) : Prop := ∃ fd, Fun K x qual st f fd
noncomputable def DefK.fd {x qual : Str} {st : Stmt} {f : Addr} (h : DefK K x qual st f) : FuncData := Classical.choose h
theorem DefK.F {x qual : Str} {st : Stmt} {f : Addr} (h : DefK K x qual st f) : Fun K x qual st f h.fd := Classical.choose_spec h
theorem binds_one {x qual : Str} {st : Stmt} {f : Addr} {fd : FuncData} {n : Str} (F : Fun K x qual st f fd) (h : ∀ (kV doc pm : Value) (an : Option Addr) (cdv ct : Value) (v : Value), bindArgs (PySem.W.fnOf x qual (defArgs st) (defBody st) (defScope st) .none kV doc pm an cdv ct) ⟨[v], []⟩ = pure [(n, v)]) :
    ∀ (s : Shared) (v : Value), BindsTo s fd ⟨[v], []⟩ [(n, v)] := by
  obtain ⟨oc, od, kV, doc, pm, an, cdv, ct, osl, rfl, lk, hcd⟩ := F.ex
  exact fun s v => .of_eq (h kV doc pm an cdv ct v)
end
end KX

namespace KX
open PySem PySem.Spec PyProof.Rows L2
open LamX (CodeO TabS Tabs ExtN LamS lamEnv lamCx TabB)
/-! ### a lambda without parameters, handed to a def of one parameter: what is raised is told at the receiver's slots -/
/-- what a call of the lambda reads, in the def that holds it in its first slot -/
def tAct (f c' : Addr) (q : Str) (tl : XK → Hp → VK → Prop) (W : WX) : TE := fun σ H Q =>
  σ[0]? = some (some (.ref f)) ∧ H c' = some (CodeO c' q) ∧ tl (WE W σ) H Q
section
variable {X : Cx}
/-- the receiver's context -/
abbrev recvCx (X : Cx) (N : List Str) (x : Str) (sc : Scope) (g : Addr) (cdv : Value) (s : Shared) (H : Hp) : Cx :=
  cxOf CX0 X.prog X.w X.K X.mg X.base N x sc g cdv X.A X.stack s H (fun _ _ _ => False)
theorem lam_act {pins : List (Addr × Obj)} {σ : L2.St} {H : Hp} {s : Shared} {N : List Str} {x a : Str} {sc scope : Scope} {g f c' : Addr} {cdv pm ctv : Value} {params : Arguments} {body : Expr} {k : Nat} {pn : List (Addr × Obj)} {xe : Value → Shared → Prop} {W : WX} {tb : XK → TE} {p1 p2 : Pos}
    (I : Inv X pins σ H s) (L : LamS X.env.scope scope) (made : s.heap.get? f = some (PySem.W.kla_obj "<lambda>" (X.env.qual ++ "<lambda>") params body scope (cloFrom X.env.cells scope.names []) pm c' ctv)) (free : H f = none) (off : f ∉ frs X.stack)
    (none0 : ∀ cv ct : Value, bindArgs (PySem.W.kla_fn "<lambda>" (X.env.qual ++ "<lambda>") params body scope (cloFrom X.env.cells scope.names []) pm cv ct) ⟨[], []⟩ = pure [])
    (tk : Takes ((recvCx X N x sc g cdv s H).tr pn xe) W) (hr : Rg (k + 1) (X.A.deeper (envOfC x sc s.heap.objs.size g cdv)))
    (inner : ∀ (B : Around) (outer : List Env) (t : Shared) (H' : Hp) (E : XK), Rg k (B.deeper (lamEnv X scope t.heap.objs.size f c')) → PE (lamCx X B outer t H' E scope f c') body (tb E))
    (at0 : N[0]? = some a) (vis : Vis sc a) (nd : (a == ("__debug__" : Str)) = false) (nc : (a == ("__classdict__" : Str)) = false) :
    PE ((recvCx X N x sc g cdv s H).tr pn xe) (.Call (.Name a p1) [] [] p2) (tAct f c' (X.env.qual ++ "<lambda>") (fun E => tb E σ) W) := by
  refine ⟨fun pinsZ t σZ HZ Q J ⟨slot, code, told⟩ => ?_⟩
  have read := (pe_var (X := (recvCx X N x sc g cdv s H).tr pn xe) (pos := p1) (i := 0) at0 vis nd nc).run pinsZ t σZ HZ (fun v H1 => v = .ref f ∧ H1 = HZ) J ⟨_, slot, rfl, rfl⟩
  refine wpAny_Call_Name_kw (thn read fun u t1 ⟨v, H1, J1, rel, ev, eH⟩ => ?_)
  subst ev eH
  obtain rfl : u = Value.ref f := rel
  have stays : t1.heap.get? f = _ := J1.base.keep f _ made free off (fun z => nomatch (show f ∈ ([] : List Addr) from z))
  refine PySem.W.callWith_F0 ⟨_, _, _, _, stays⟩ ?_
  have since : Un (frs X.stack) [] H H1 s.heap t1.heap := J1.base
  obtain ⟨⟨oc, vs, tk', e1, e2, e3⟩, _⟩ := J1.hok c' _ code
  have run : codeAny (model X.prog X.w) (X.A.deeper (envOfC x sc s.heap.objs.size g cdv)) (.call (.ref f) ⟨[], []⟩) (CR (L2.CX X.prog X.w) (envOfC x sc s.heap.objs.size g cdv :: X.stack) X.prog X.w H1 t1 Q (WE W σZ)) t1 := by
    refine PySem.W.kla_callFunE hr.room.depth stays rfl L.co L.gen rfl ⟨c', oc, vs, tk', rfl, e1, e2, e3⟩ ?_
    rw [none0]
    refine wpAny_pure (wpAny_newFunctionEnv (fun y hy => (L.own y hy).2) (fun y hy => (nomatch hy)) (fun h1 ns same => ⟨J1.nolimit.fresh _ same, ?_⟩) L.kind)
    have grows : ∀ b o, t1.heap.get? b = some o → h1.get? b = some o := fun b o e => same.extBut b o (Nat.ne_of_lt (Heap.lt_size e)) (Heap.get?_push_of_some _ e)
    have J2 := LamX.lam_start2 (tk := t1.toks + ([] : List (Str × Value)).length) (A := X.A.deeper (envOfC x sc s.heap.objs.size g cdv)) (outer := envOfC x sc s.heap.objs.size g cdv :: X.stack) (E := WE W σZ) (f := f) (c' := c') I L J1.env0 hr.room.hd since ns grows
    refine PySem.W.kla_codeExpr (wpAny_mono ((inner _ _ t1 H1 _ (hr.deeper _)).run [] _ _ H1 Q J2 told) (fun v t2 ⟨v', H2, J3, rel2, q⟩ => ?_) fun e t2 q => q)
    exact ⟨v', H2, J3.os, J3.bare, J3.base, J3.hok, rel2, q⟩
  refine wpAny_call (codeAny_mono run fun r t2 hq => ?_)
  match r, hq with
  | .error e, hq => exact passAt tk σZ pinsZ H1 t1 e t2 J1 hq
  | .ok .next, hq => exact False.elim hq
  | .ok .brk, hq => exact False.elim hq
  | .ok .cont, hq => exact False.elim hq
  | .ok (.ret u), hq => exact J1.after hq
/-- the def g calls what it got: TT is what it makes of the lambda's reading -/
def GivesG (X : Cx) (N : List Str) (x : Str) (sc : Scope) (g : Addr) (bg : List Stmt) (q : Str) (k : Nat) (TT : (XK → Hp → VK → Prop) → Hp → VK → Prop) : Prop :=
  ∀ (cdv : Value) (a : Str) (f c' : Addr) (s : Shared) (H : Hp) (Q : VK) (tl : XK → Hp → VK → Prop), N[0]? = some a → Rg k (X.A.deeper (envOfC x sc s.heap.objs.size g cdv)) →
    (∀ (W : WX) (pn : List (Addr × Obj)) (xe : Value → Shared → Prop) (p1 p2 : Pos), Takes ((recvCx X N x sc g cdv s H).tr pn xe) W → PE ((recvCx X N x sc g cdv s H).tr pn xe) (.Call (.Name a p1) [] [] p2) (tAct f c' q tl W)) →
    H c' = some (CodeO c' q) → TT tl H Q → ∃ t, PSs (recvCx X N x sc g cdv s H).nox bg t ∧ t { nx := fun _ H' => Q .non H', rt := Q } (L2.start N [.ref f]) H
def tLamG (T : List (Addr × Str)) (TT : (XK → Hp → VK → Prop) → Hp → VK → Prop) (tb : XK → TE) : TE := fun σ H Q => Tabs T H ∧ ∀ H1, ExtN H H1 → Tabs T H1 → TT (fun E => tb E σ) H1 Q
theorem pe_lamG {T : List (Addr × Str)} {TT : (XK → Hp → VK → Prop) → Hp → VK → Prop} {x a : Str} {g c P : Addr} {k : Nat} {st : Stmt} {fd : FuncData} {N : List Str} {params : Arguments} {body : Expr} {scope : Scope} {tb : XK → TE} {p lpos pos : Pos}
    (F : Fun X.K x x st g fd) (hg : Gl X x) (hm : X.mg x = some (.ref g)) (hb : Binds X.K fd [a] []) (S : FnScope N [a] (defScope st)) (at0 : N[0]? = some a) (vis : Vis (defScope st) a) (gives : GivesG X N x (defScope st) g (defBody st) (X.env.qual ++ "<lambda>") (k + 1) TT)
    (TB : TabB X.base X.mg c P) (code : X.env.code = .ref c) (inT : (P, X.env.qual ++ "<lambda>") ∈ T) (one : ∀ p ∈ T, p.1 = P → p.2 = X.env.qual ++ "<lambda>") (hr : Rg (k + 2) X.A) (L : LamS X.env.scope scope) (nodef : defaultsOf params X.env = ([], []))
    (none0 : ∀ (q : Str) (cl : List (Str × Addr)) (pm cv ctv : Value), bindArgs (PySem.W.kla_fn "<lambda>" q params body scope cl pm cv ctv) ⟨[], []⟩ = pure [])
    (inner : ∀ (B : Around) (outer : List Env) (t : Shared) (H' : Hp) (E : XK) (f c' : Addr), Rg k (B.deeper (lamEnv X scope t.heap.objs.size f c')) → PE (lamCx X B outer t H' E scope f c') body (tb E))
    (nx : (x == ("__debug__" : Str)) = false := by decide) (nd : (a == ("__debug__" : Str)) = false := by decide) (nc : (a == ("__classdict__" : Str)) = false := by decide) :
    PE X (.Call (.Name x p) [.Lambda params body scope lpos] [] pos) (tLamG T TT tb) := by
  obtain ⟨oc, od, kV, doc, pm, an, cdv, ct, osl, rfl, lk, hcd⟩ := F.ex
  refine ⟨fun pins s σ H Q I ⟨tabs, told⟩ => ?_⟩
  refine wpAny_Call_Name_kw (ld_glob I hg hm ?_ nx)
  refine PySem.W.callWith_K (h₀ := X.base) I.ok.mod.kin F.kp ?_ (by rfl) (by rfl)
  refine Calls.spliced_cons (LamX.lam_make2 I TB code inT one tabs nodef (L.has I.ok) fun f c' pm' ctv H1 s' J ext tabs1 made free off co => ?_)
  refine Calls.spliced_nil ⟨J.kIn, ?_⟩
  have run : codeAny (model X.prog X.w) X.A (.call (.ref g) ⟨[.ref f], []⟩) (CR CX0 X.stack X.prog X.w H1 s' Q (fun _ _ _ => False)) s' := by
    refine LamX.run_ofS (N := N) (ps := [a]) (us := [.ref f]) (vs := [.ref f]) (k := k + 1) lk hcd S hr.room J.env0 (hb s' [.ref f] J.kIn rfl) (.cons rfl .nil) rfl fun hr' => ?_
    have hg' : Rg (k + 1) (X.A.deeper (envOfC x (defScope st) s'.heap.objs.size g cdv)) := ⟨hr', hr.gd⟩
    obtain ⟨t, ht, q⟩ := gives cdv a f c' s' H1 Q (fun E => tb E σ) at0 hg' (fun W pn xe p1 p2 tk => lam_act J L made free off (fun cv ct => none0 _ _ _ _ _) tk hg' (fun B outer t H' E hl => inner B outer t H' E f c' hl) at0 vis nd nc) co (told H1 ext tabs1)
    exact ⟨t, ht.nox, q⟩
  refine wpAny_call (codeAny_mono run fun r s2 hq => ?_)
  match r, hq with
  | .error e, hq => exact (show False from hq).elim
  | .ok .next, hq => exact False.elim hq
  | .ok .brk, hq => exact False.elim hq
  | .ok .cont, hq => exact False.elim hq
  | .ok (.ret u), hq => exact J.after hq
/-- in the lambda's body: what is called may raise -/
theorem passLam {B : Around} {outer : List Env} {t : Shared} {H : Hp} {E : XK} {scope : Scope} {f c' : Addr} : Passes (L2.CX X.prog X.w) (lamCx X B outer t H E scope f c') E :=
  passes_call (X := lamCx X B outer t H E scope f c') (W := fun cls d _ H => E cls d H) (takes_of (E := E) rfl rfl rfl rfl) fun _ _ _ _ h => h
theorem i_lamG {T : List (Addr × Str)} {TT : (XK → Hp → VK → Prop) → Hp → VK → Prop} {tb : XK → TE} {σ : L2.St} {H : Hp} {Q : VK} (t : Tabs T H) (q : ∀ H1, ExtN H H1 → Tabs T H1 → TT (fun E => tb E σ) H1 Q) : tLamG T TT tb σ H Q := ⟨t, q⟩
theorem i_act {f c' : Addr} {q : Str} {tl : XK → Hp → VK → Prop} {W : WX} {σ : L2.St} {H : Hp} {Q : VK} (h : σ[0]? = some (some (.ref f))) (c : H c' = some (CodeO c' q)) (t : tl (WE W σ) H Q) : tAct f c' q tl W σ H Q := ⟨h, c, t⟩
end
/-! ### what a lambda's making leaves -/
def noTbl : HO → Bool
  | .tbl _ => false
  | _ => true
theorem extN_get {H H' : Hp} {a : Addr} {o : HO} (e : ExtN H H') (h : H a = some o) (n : noTbl o = true := by rfl) : H' a = some o := e a o h fun ps z => by subst z; cases n
theorem extN_ofS {H H' : Hp} (s : Same H H') : ExtN H H' := fun b o h _ => s b o h
theorem extN_thenS {H H1 H2 : Hp} (b : Same H1 H2) (a : ExtN H H1) : ExtN H H2 := fun c o h n => b c o (a c o h n)
theorem extN_thenE {H H1 H2 : Hp} (b : ExtN H1 H2) (a : ExtN H H1) : ExtN H H2 := fun c o h n => b c o (a c o h n) n
theorem tabs_same {T : List (Addr × Str)} {H H' : Hp} (s : Same H H') (t : Tabs T H) : Tabs T H' := LamX.Tabs.ext t fun b o e => s b o e
/-- the heap without its tables -/
def nt (H : Hp) : Hp := fun b => match H b with
  | some o => if noTbl o = true then some o else none
  | none => none
theorem nt_some {H : Hp} {a : Addr} {o : HO} (h : H a = some o) (n : noTbl o = true) : nt H a = some o := by
  unfold nt; rw [h]; exact if_pos n
theorem nt_of {H : Hp} {a : Addr} {o : HO} (h : nt H a = some o) : H a = some o ∧ noTbl o = true := by
  unfold nt at h
  split at h
  · split at h
    · rename_i e n; cases h; exact ⟨e, n⟩
    · cases h
  · cases h
theorem extN_nt {H H' : Hp} (e : ExtN H H') : Same (nt H) (nt H') := fun b o h => by
  obtain ⟨h1, n⟩ := nt_of h
  exact nt_some (extN_get e h1 n) n
theorem extN_ntH {H H' : Hp} (e : ExtN H H') : Same (KX.nt H) H' := fun b o h => (nt_of (extN_nt e b o h)).1
theorem Rd.nt {H : Hp} {a : Addr} {u : HO} (n : noTbl u = true) (r : Rd H a u) : Rd (KX.nt H) a u := by
  rcases r with r | ⟨o, r⟩
  · exact .inl (nt_some r n)
  · exact .inr ⟨o, nt_some r rfl⟩
theorem sqL_nt {K : PySem.W.Frag} {H : Hp} {a : Addr} {xs : List V} (h : SqL K H a xs) : SqL K (nt H) a xs := by
  rcases h with h | h
  · exact .inl (Rd.nt rfl h)
  · exact .inr h
theorem sqT_nt {K : PySem.W.Frag} {H : Hp} {a : Addr} {xs : List V} (h : SqT K H a xs) : SqT K (nt H) a xs := by
  rcases h with h | h
  · exact .inl (Rd.nt rfl h)
  · exact .inr h
mutual
theorem DaF.nt {b : Bool} {K : PySem.W.Frag} {H : Hp} : ∀ {v : V} {d : PyData}, DaF b K H v d → DaF b K (KX.nt H) v d
  | _, _, .non => .non
  | _, _, .bl b => .bl b
  | _, _, .int i => .int i
  | _, _, .str x => .str x
  | _, _, .lst h n a => .lst (sqL_nt h) n (DaAllF.nt a)
  | _, _, .tup h a => .tup (sqT_nt h) (DaAllF.nt a)
  | _, _, .dic h a => .dic (Rd.nt rfl h) (DaKvF.nt a)
theorem DaAllF.nt {b : Bool} {K : PySem.W.Frag} {H : Hp} : ∀ {vs : List V} {ds : List PyData}, DaAllF b K H vs ds → DaAllF b K (KX.nt H) vs ds
  | _, _, .nil => .nil
  | _, _, .cons a r => .cons (DaF.nt a) (DaAllF.nt r)
theorem DaKvF.nt {b : Bool} {K : PySem.W.Frag} {H : Hp} : ∀ {kvs : List (Key × V)} {ds : List (PyData × PyData)}, DaKvF b K H kvs ds → DaKvF b K (KX.nt H) kvs ds
  | _, _, .nil => .nil
  | _, _, .cons a r => .cons (DaF.nt a) (DaKvF.nt r)
end
theorem DaF.extN {b : Bool} {K : PySem.W.Frag} {H H' : Hp} {v : V} {d : PyData} (e : ExtN H H') (h : DaF b K H v d) : DaF b K H' v d := DaF.same (extN_ntH e) h.nt
theorem tabs_nil {T : List (Addr × Str)} {H : Hp} (h : ∀ p ∈ T, H p.1 = some (.tbl #[])) : Tabs T H := fun p hp => LamX.TabS.nil (h p hp)
theorem Rok.extN {H H' : Hp} {r : Addr} (e : ExtN H H') (h : Rok H r) : Rok H' r := let ⟨a, b, k, z⟩ := h; ⟨a, b, extN_get e k, z⟩
/-! ### a def whose code object is told -/
structure FunC (K : PySem.W.Frag) (x qual : Str) (st : Stmt) (f : Addr) (fd : FuncData) (c : Addr) : Prop where
  ex : ∃ (oc : Value) (od : Option Addr) (kV doc pm : Value) (an : Option Addr) (ct : Value) (osl : Array (Option Value)),
    fd = PySem.W.fnOf x qual (defArgs st) (defBody st) (defScope st) .none kV doc pm an (.ref c) ct ∧ K.lookup f = some ⟨oc, od, .func fd, osl⟩ ∧ PySem.W.codeIn K (.ref c) qual = true
  kp : PySem.W.keepIn K (.ref f) = true
theorem FunC.toF {K : PySem.W.Frag} {x qual : Str} {st : Stmt} {f c : Addr} {fd : FuncData} (F : FunC K x qual st f fd c) : Fun K x qual st f fd := by
  obtain ⟨⟨oc, od, kV, doc, pm, an, ct, osl, e, lk, cd⟩, kp⟩ := F
  exact ⟨⟨oc, od, kV, doc, pm, an, .ref c, ct, osl, e, lk, cd⟩, kp⟩
def DefC (K : PySem.W.Frag) (x qual : Str) (st : Stmt) (f c : Addr) : Prop := ∃ fd, FunC K x qual st f fd c
noncomputable def DefC.fd {K : PySem.W.Frag} {x qual : Str} {st : Stmt} {f c : Addr} (h : DefC K x qual st f c) : FuncData := Classical.choose h
theorem DefC.C {K : PySem.W.Frag} {x qual : Str} {st : Stmt} {f c : Addr} (h : DefC K x qual st f c) : FunC K x qual st f h.fd c := Classical.choose_spec h
theorem DefC.F {K : PySem.W.Frag} {x qual : Str} {st : Stmt} {f c : Addr} (h : DefC K x qual st f c) : Fun K x qual st f h.fd := h.C.toF
theorem ok_gC {P : Program} {w : World} {K : PySem.W.Frag} {mg : Str → Option Value} {base : Heap} {x qual : Str} {st : Stmt} {f c : Addr} {fd : FuncData} {N ps : List Str} {k : Nat} {sp : Sp} (F : FunC K x qual st f fd c) (S : FnScope N ps (defScope st)) (len : ∀ vs H Q E, sp vs H Q E → vs.length = ps.length)
    (hbody : ∀ (A : Around) (outer : List Env) (s : Shared) (H : Hp) (vs : List V) (Q : VK) (E : XK), Rg k (A.deeper (envOfC qual (defScope st) s.heap.objs.size f (.ref c))) → sp vs H Q E →
      ∃ t, PSs (cxOf CX0 P w K mg base N qual (defScope st) f (.ref c) A outer s H E).nox (defBody st) t ∧ t { nx := fun _ H' => Q .non H', rt := Q } (start N vs) H) : Fg P w K mg base CX0 (k + 1) f fd ps sp := by
  obtain ⟨oc, od, kV, doc, pm, an, ct, osl, rfl, lk, hcd⟩ := F.ex
  refine fg_of lk hcd S len fun A outer s H vs Q E hr hsp => ?_
  obtain ⟨t, h, q⟩ := hbody A outer s H vs Q E hr hsp
  exact ⟨t, h.nox, q⟩
/-! ### the law's call from the top, with tables of code objects -/
section
variable {P : Program} {w : World} {K : PySem.W.Frag} {mg mb : Str → Option Value}
def scrT (K : PySem.W.Frag) (ts : List Addr) (a : Addr) (us : List Value) (ns : List Int) : Hp := fun b =>
  if b ∈ ts then some (.tbl #[]) else scrH K a us ns b
/-- what the law's def promises, at the heap behind the top: cs are the code objects with their tables -/
theorem lawGT {CX : CXT} {k : Nat} {fa a : Addr} {fd : FuncData} {x : Str} {sp : Sp} {t0 : Shared} {us : List Value} {ns : List Int} {cs : List (Addr × Addr)} (inK : K.In t0.heap) (g1 : t0.heap.Ns mainGlobals mg) (g2 : t0.heap.Ns builtinsNs mb)
    (g3 : ∀ y : Str, y ≠ "__name__" → mb y = bootBuiltins y) (g4 : t0.heap.NoLimit) (g5 : t0.gens = #[]) (empty : ∀ q ∈ cs, t0.heap.get? q.2 = some tabO) (notK : ∀ q ∈ cs, K.lookup q.2 = none) (heads : ∀ q ∈ cs, PySem.W.CodeHd t0.heap q.1 q.2)
    (bltn : ∃ (bm : Addr) (ob : Obj), mg "__builtins__" = some (.ref bm) ∧ bm ≠ builtinsNs ∧ t0.heap.get? bm = some ob ∧ ob.cls = .type "module" ∧ ob.dict = some builtinsNs ∧ ob.data = .plain)
    (there : t0.heap.get? a = some (scrO us)) (hin : IntsAre us ns) (few : ns.length ≤ sizeLine) (room : Room k callerA)
    (G : ∀ b0 : Heap, K.In b0 → b0.Ns mainGlobals mg → (∀ q ∈ cs, TabB b0 mg q.1 q.2) → Fg P w K mg b0 CX k fa fd [x] sp) (binds : ∀ (s : Shared) (u : Value), BindsTo s fd ⟨[u], []⟩ [(x, u)])
    (promise : ∀ H : Hp, (∀ q ∈ cs, H q.2 = some (.tbl #[])) → SqL K H a (ns.map V.int) → sp [.ref a] H (fun v _ => v = .bl true) fun _ _ _ => False) (noX : ∀ H e s', CX [] H t0 (fun _ _ _ => False) e s' → False) :
    codeAny (model P w) callerA (.call (.ref fa) ⟨[.ref a], []⟩)
      (fun r s' => r = .ok (.ret (.bool true)) ∧ OldK t0.heap s'.heap ∧ s'.os = t0.os ∧ AllBare s'.gens) t0 := by
  have rel := vals_ints hin
  have ofT : ∀ {b}, b ∈ cs.map (·.2) → t0.heap.get? b = some tabO ∧ K.lookup b = none := fun {b} m => by
    obtain ⟨q, hq, rfl⟩ := List.mem_map.mp m
    exact ⟨empty q hq, notK q hq⟩
  have aT : a ∉ cs.map (·.2) := fun m => by
    have e := (ofT m).1
    rw [there] at e
    exact nomatch (show Data.seq us.toArray _ = Data.fields #[] from congrArg Obj.data (Option.some.inj e))
  -- the abstract heap, by cases
  have cases_ : ∀ b, scrT K (cs.map (·.2)) a us ns b = none ∨ (b ∈ cs.map (·.2) ∧ scrT K (cs.map (·.2)) a us ns b = some (.tbl #[])) ∨
      (b = a ∧ K.lookup a = none ∧ scrT K (cs.map (·.2)) a us ns b = some (.frz (scrO us) (.lst (ns.map V.int)))) := fun b => by
    by_cases m : b ∈ cs.map (·.2)
    · exact .inr (.inl ⟨m, if_pos m⟩)
    · have e : scrT K (cs.map (·.2)) a us ns b = scrH K a us ns b := if_neg m
      rcases scrH_or K a us ns b with h | ⟨h1, h2, h3⟩
      · exact .inl (e.trans h)
      · exact .inr (.inr ⟨h1, h2, e.trans h3⟩)
  have off : ∀ {b : Addr} {o : Obj}, t0.heap.get? b = some o → (b ∈ cs.map (·.2) → False) → (b = a → K.lookup a = none → False) → (hidT t0.heap (scrT K (cs.map (·.2)) a us ns)).get? b = some o := fun {b o} e z1 z2 => by
    refine hidT_get e ?_
    rcases cases_ b with h | ⟨h, _⟩ | ⟨h1, h2, _⟩
    · exact h
    · exact (z1 h).elim
    · exact (z2 h1 h2).elim
  have other : ∀ {b : Addr} {o : Obj}, t0.heap.get? b = some o → (∀ vs n, o.data ≠ .seq vs n) → o.data ≠ .fields #[] → (hidT t0.heap (scrT K (cs.map (·.2)) a us ns)).get? b = some o := fun {b o} e z1 z2 => by
    refine off e (fun m => ?_) fun m _ => ?_
    · rw [(ofT m).1] at e; cases e; exact z2 rfl
    · rw [m, there] at e; cases e; exact z1 _ _ rfl
  have names : ∀ {b : Addr} {m : Str → Option Value}, t0.heap.Ns b m → (hidT t0.heap (scrT K (cs.map (·.2)) a us ns)).Ns b m := fun {b m} ⟨o, es, ep, e, d, r⟩ =>
    ⟨o, es, ep, other e (fun vs n z => by rw [d] at z; cases z) (fun z => by rw [d] at z; cases z), d, r⟩
  have inB : K.In (hidT t0.heap (scrT K (cs.map (·.2)) a us ns)) := fun b o e => off (inK b o e) (fun m => by rw [(ofT m).2] at e; cases e) fun z1 z2 => by
    rw [z1, z2] at e; cases e
  have top : Mod K mg (hidT t0.heap (scrT K (cs.map (·.2)) a us ns)) := ⟨inB, names g1, ⟨mb, names g2, g3⟩, let ⟨mc, h1, h2⟩ := g4; ⟨mc, names h1, h2⟩⟩
  have hok : HOk P w (scrT K (cs.map (·.2)) a us ns) t0.heap := fun b u z => by
    rcases cases_ b with h | ⟨h1, h2⟩ | ⟨h1, _, h3⟩
    · rw [h] at z; cases z
    · rw [h2] at z
      cases z
      exact (ofT h1).1
    · rw [h3] at z
      cases z
      subst h1
      exact ⟨there, by rw [List.length_map]; exact few, us, _, rel, there⟩
  have env : Env0 P w K mg (hidT t0.heap (scrT K (cs.map (·.2)) a us ns)) callerA [] t0 (scrT K (cs.map (·.2)) a us ns) :=
    ⟨rfl, top, fun b o e => of_hidT e, Nat.le_of_eq (hidT_size _ _), trivial, fun b hb => (nomatch hb), hok, .of_eq g5⟩
  have tabB : ∀ q ∈ cs, TabB (hidT t0.heap (scrT K (cs.map (·.2)) a us ns)) mg q.1 q.2 := fun q hq => by
    have eT := empty q hq
    have gP : mainGlobals ≠ q.2 := fun z => by
      obtain ⟨o, es, ep, e, d, _⟩ := g1
      rw [z, eT] at e; cases e; cases d
    refine ⟨?_, ?_, gP⟩
    · obtain ⟨o, vs, file, tf, flags, tg, inF, text, tt, e1, r1, r2, r3, more⟩ := heads q hq
      exact ⟨o, vs, file, tf, flags, tg, inF, text, tt, other e1 (fun vs n z => by rw [r2] at z; cases z) (fun z => by rw [r2] at z; cases z; simp at r3), r1, r2, r3, more⟩
    · obtain ⟨bm, ob, b1, b2, b3, b4, b5, b6⟩ := bltn
      refine ⟨bm, ob, b1, b2, fun z => ?_, fun z => ?_, other b3 (fun vs n z => by rw [b6] at z; cases z) (fun z => by rw [b6] at z; cases z), b4, b5, b6⟩
      · obtain ⟨o, es, ep, e, d, _⟩ := g1
        rw [z, e] at b3; cases b3; rw [d] at b6; cases b6
      · rw [z, eT] at b3; cases b3; cases b6
  have seen : SqL K (scrT K (cs.map (·.2)) a us ns) a (ns.map V.int) := by
    have ea : scrT K (cs.map (·.2)) a us ns a = scrH K a us ns a := if_neg aT
    cases lk : K.lookup a with
    | none => exact .inl (.inr ⟨scrO us, ea.trans (if_pos ⟨rfl, lk⟩)⟩)
    | some o =>
      have e := inK a o lk
      rw [there] at e
      cases e
      exact .inr ⟨_, us.toArray, _, lk, rfl, rfl, rfl, by rw [List.size_toArray, hin.length]; exact few, by simpa using rel⟩
  have tabs0 : ∀ q ∈ cs, scrT K (cs.map (·.2)) a us ns q.2 = some (.tbl #[]) := fun q hq => if_pos (List.mem_map.mpr ⟨q, hq, rfl⟩)
  refine codeAny_mono ((G _ inB (names g1) tabB).run callerA [] t0 (scrT K (cs.map (·.2)) a us ns) ⟨[.ref a], []⟩ [.ref a] [.ref a] _ _ ⟨room, rfl⟩ env (binds t0 (.ref a)) (.cons rfl .nil) (promise _ tabs0 seen)) fun r s' end_ => ?_
  match r, end_ with
  | .error e, end_ => exact (noX _ e s' end_).elim
  | .ok .next, end_ => exact False.elim end_
  | .ok .brk, end_ => exact False.elim end_
  | .ok .cont, end_ => exact False.elim end_
  | .ok (.ret u), ⟨v, H', os, bare, un, hok', r', q⟩ =>
    have q' : v = .bl true := q
    subst q'
    obtain rfl : u = Value.bool true := r'
    have kept : ∀ b o, b ∉ cs.map (·.2) → t0.heap.get? b = some o → s'.heap.get? b = some o := fun b o nb e => by
      rcases cases_ b with h | ⟨h, _⟩ | ⟨h1, h2, h3⟩
      · exact un.keep b o e h (fun z => (nomatch z)) (fun z => (nomatch z))
      · exact (nb h).elim
      · obtain ⟨e1, _⟩ := hok b _ h3
        obtain ⟨e2, _⟩ := hok' b _ (un.frzs b _ _ h3)
        rw [e] at e1
        cases e1
        exact e2
    have grown : ∀ qc ∈ cs, ∃ more : Array Value, s'.heap.get? qc.2 = some { cls := .none, data := .fields more } := fun qc hq => by
      obtain ⟨more, z⟩ := un.tbls qc.2 #[] (tabs0 qc hq)
      exact ⟨_, hok' qc.2 _ z⟩
    refine ⟨rfl, ⟨fun b o e => ?_, fun b o e => ?_⟩, os, bare⟩
    · by_cases m : b ∈ cs.map (·.2)
      · obtain ⟨qc, hq, rfl⟩ := List.mem_map.mp m
        obtain ⟨more, hm⟩ := grown qc hq
        rw [empty qc hq] at e
        cases e
        exact .inr (.inl ⟨((heads qc hq).tab (empty qc hq)).isCodeTable, rfl, #[], more, rfl, by rw [Array.empty_append]; exact hm⟩)
      · exact .inl (kept b o m e)
    · by_cases m : b ∈ cs.map (·.2)
      · obtain ⟨qc, hq, rfl⟩ := List.mem_map.mp m
        obtain ⟨more, hm⟩ := grown qc hq
        exact ⟨_, hm⟩
      · exact ⟨o, kept b o m e⟩
/-- what is known of the law's promise at the head's heap -/
def LawT (l : PySem.W.OpenLaw) (w : World) (K : PySem.W.Frag) (CX : CXT) (k n : Nat) (x : Str) (mg : Str → Option Value) (fa : Addr) (h : Heap) : Prop := ∃ (fd : FuncData) (cs : List (Addr × Addr)) (sp : Sp),
  (∀ q ∈ cs, h.get? q.2 = some tabO ∧ K.lookup q.2 = none ∧ PySem.W.codeHdIn K q.1 q.2 = true) ∧ (∀ (s : Shared) (u : Value), BindsTo s fd ⟨[u], []⟩ [(x, u)]) ∧
    (∀ (H : Hp) (a : Addr) (ns : List Int), ns.length ≤ n → (∀ z ∈ ns, Builtin.Int.intBits z ≤ 1048576) → (∀ q ∈ cs, H q.2 = some (.tbl #[])) → SqL K H a (ns.map V.int) → sp [.ref a] H (fun v _ => v = .bl true) fun _ _ _ => False) ∧
    ∀ b0 : Heap, K.In b0 → b0.Ns mainGlobals mg → (∀ q ∈ cs, TabB b0 mg q.1 q.2) → Fg l.prog w K mg b0 CX k fa fd [x] sp
end
end KX

namespace KX
open PySem PySem.Spec PyProof.Rows L2
/-! ### the written part holds sys.modules, which is no list: so no list's address is its own -/
def SysD (K : PySem.W.Frag) : Prop := ∃ o, K.lookup sysModules = some o ∧ (o.cls == Value.type "list") = false
theorem sys_of {K : PySem.W.Frag} (h : sysB K = true) : SysD K := by
  unfold sysB at h
  split at h
  · rename_i o e
    exact ⟨o, e, by simpa using h⟩
  · cases h
section
variable {X : Cx} {pins : List (Addr × Obj)} {σ : L2.St} {H : Hp} {s : Shared}
theorem not_sys (S : SysD X.K) (I : Inv X pins σ H s) {a : Addr} {xs : List V} (h : SqL X.K H a xs) : a ≠ sysModules := by
  obtain ⟨o, e, hc⟩ := S
  obtain ⟨its, rv, ⟨o2, n, ho, hc2, _, hd⟩, _⟩ := I.list h
  intro z
  have e2 := I.kIn _ _ e
  rw [z, e2] at ho
  cases ho
  rw [hc2] at hc
  simp at hc
mutual
theorem DaF.up (S : SysD X.K) (I : Inv X pins σ H s) {b : Bool} : ∀ {v : V} {d : PyData}, DaF b X.K H v d → DaS X.K H v d
  | _, _, .non => DaF.non
  | _, _, .bl c => DaF.bl c
  | _, _, .int i => DaF.int i
  | _, _, .str x => DaF.str x
  | _, _, .lst h _ a => DaF.lst h (fun _ => not_sys S I h) (DaAllF.up S I a)
  | _, _, .tup h a => DaF.tup h (DaAllF.up S I a)
  | _, _, .dic h a => DaF.dic h (DaKvF.up S I a)
theorem DaAllF.up (S : SysD X.K) (I : Inv X pins σ H s) {b : Bool} : ∀ {vs : List V} {ds : List PyData}, DaAllF b X.K H vs ds → DaAllS X.K H vs ds
  | _, _, .nil => DaAllF.nil
  | _, _, .cons a r => DaAllF.cons (DaF.up S I a) (DaAllF.up S I r)
theorem DaKvF.up (S : SysD X.K) (I : Inv X pins σ H s) {b : Bool} : ∀ {kvs : List (Key × V)} {ds : List (PyData × PyData)}, DaKvF b X.K H kvs ds → DaKvF true X.K H kvs ds
  | _, _, .nil => DaKvF.nil
  | _, _, .cons a r => DaKvF.cons (DaF.up S I a) (DaKvF.up S I r)
end
end
def rReprE (K : PySem.W.Frag) : List V → Hp → VK → Prop := fun xs H Q => ∃ b v d, xs = [v] ∧ DaF b K H v d ∧ Shw d ∧ Q (.str d.shown) H
theorem call_reprE {X : Cx} (S : SysD X.K) (hr : Rg 1 X.A) : CallR X (.builtin "repr") (rReprE X.K) := by
  intro pins s σ H xs us Q I r ⟨b, v, d, e, h, w, q⟩
  exact call_reprD hr.gd (by have := hr.room.un; omega) pins s σ H xs us Q I r ⟨true, v, d, e, DaF.up S I h, .inl rfl, w, q⟩
theorem i_reprE {b : Bool} {K : PySem.W.Frag} {H : Hp} {Q : VK} {v : V} {d : PyData} (h : DaF b K H v d) (w : Shw d) (q : Q (.str d.shown) H) : rReprE K [v] H Q := ⟨b, v, d, rfl, h, w, q⟩
end KX

namespace KX
open PySem PySem.Spec PyProof.Rows L2
/-! ### t[::-1] of a tuple -/
section
variable {prog : Program} {w : World} {A : Around} {E : Value → Shared → Prop} {s : Shared}
end
def tRevT (K : PySem.W.Frag) (te : TE) : TE := fun σ H Q => te σ H fun x H1 => ∃ a xs, x = .ref a ∧ SqT K H1 a xs ∧ NewR H1 (.tup xs.reverse) Q
/-! ### xs.count(y), flat items -/
def rCntF (K : PySem.W.Frag) : V → List V → Hp → VK → Prop := fun x xs H Q => ∃ (p : Addr) (ys : List V) (y : V), x = .ref p ∧ xs = [y] ∧ SqL K H p ys ∧ flatV y = true ∧ ys.all flatV = true ∧ Q (.int (ys.countP fun z => eqV z y : Nat)) H
/-! ### with the written part told by name: for suites, whose readings may not hang on the context -/
section
variable {X : Cx} {K : PySem.W.Frag} (hK : X.K = K)
include hK
theorem pe_bmK {o e : Expr} {es : List Expr} {to : TE} {t : TA} {name : Str} {apos cpos : Pos} {T id : String} {r : V → List V → Hp → VK → Prop} (pa : PlainAttrs T) (slot : Slot T name id) (hty : typeOf (.builtin id) = pure (.type "method_descriptor")) (hm : MtR X id r) (ho : PE X o to) (ha : PA X (e :: es) t)
    (hbase : attributeBase o name X.env (eval o X.env) = eval o X.env := by rfl)
    (hfew : ((backTo cpos (starEach (e :: es) X.env)).all (fun x => !x.1) && (backToKw cpos (keywordEach [] X.env)).all (fun x => x.1.isSome) && decide ((e :: es).length + ([] : List Keyword).length + (if ([] : List Keyword).isEmpty then 0 else 1) < 30)) = true := by rfl)
    (hline : (apos.endLine == cpos.line) = true := by rfl) (he : starEach (e :: es) X.env = (false, eval e X.env) :: starEach es X.env := by rfl) (hpl : (backTo cpos (starEach es X.env)).any (·.1) = false := by rfl) :
    PE X (.Call (.Attribute o name apos) (e :: es) [] cpos) (tBM K T r to t) := by subst hK; exact pe_bm pa slot hty hm ho ha hbase hfew hline he hpl
end
/-! ### isinstance(e, (c, ..)) of an exception in hand -/
def KitL (K : PySem.W.Frag) (C : Addr) : List V → List Bool → Prop
  | [], [] => True
  | c :: cs, b :: bs => (∃ cv, (∀ u, RelV c u → u = cv) ∧ PySem.W.kitOne K (.ref C) cv = some b) ∧ KitL K C cs bs
  | _, _ => False
theorem kitL_any {K : PySem.W.Frag} {C : Addr} : ∀ {cs : List V} {bs : List Bool} {us : List Value}, KitL K C cs bs → Vals cs us → PySem.W.kitAny K (.ref C) us = some (bs.any id)
  | [], [], _, _, .nil => rfl
  | c :: cs, b :: bs, _, ⟨⟨cv, h1, h2⟩, k⟩, .cons r1 r2 => by
    have ih := kitL_any k r2
    rw [h1 _ r1]
    unfold PySem.W.kitAny
    rw [h2]
    cases b with
    | true => rfl
    | false => simpa using ih
  | [], _ :: _, _, h, _ => h.elim
  | _ :: _, [], _, h, _ => h.elim
def rIsXT (K : PySem.W.Frag) (cls : Value) (d : Option Addr) (a : Addr) : List V → Hp → VK → Prop := fun xs H Q => ∃ (D t : Addr) (cs : List V) (bs : List Bool), cls = .ref D ∧ (∃ n i m, ExT K n i m D) ∧ ClassGet K ∧ xs = [.ref a, .ref t] ∧ H t = some (.tup cs) ∧ KitL K D cs bs ∧
  (∀ dd, d = some dd → ∃ fs, H dd = some (.xd fs)) ∧ Q (.bl (bs.any id)) H
theorem i_isXT {K : PySem.W.Frag} {a D t : Addr} {d : Option Addr} {cs : List V} {bs : List Bool} {n i : String} {m : List Value} {H : Hp} {Q : VK} (T : ExT K n i m D) (G : ClassGet K) (e : H t = some (.tup cs)) (k : KitL K D cs bs) (hd : ∀ dd, d = some dd → ∃ fs, H dd = some (.xd fs)) (q : Q (.bl (bs.any id)) H) :
    rIsXT K (.ref D) d a [.ref a, .ref t] H Q := ⟨D, t, cs, bs, rfl, ⟨n, i, m, T⟩, G, rfl, e, k, hd, q⟩
theorem call_isXT {X : Cx} {a : Addr} {cls : Value} {d : Option Addr} {oe : Obj} {pn : List (Addr × Obj)} (hz : Zc cls d oe) (hf : ∃ vs, oe.data = .fields vs) : CallR (X.suite a ((a, oe) :: pn)) (.builtin "isinstance") (rIsXT X.K cls d a) := by
  intro pins s σ H xs us Q I r h
  obtain ⟨D, t, cs, bs, rfl, ⟨_, _, _, T⟩, G, rfl, et, k, hd, q⟩ := h
  obtain ⟨u1, u2, rfl, r1, r2⟩ : ∃ u1 u2, us = [u1, u2] ∧ RelV (.ref a) u1 ∧ RelV (.ref t) u2 := by
    cases r with
    | cons r1 r => cases r with
      | cons r2 r => cases r; exact ⟨_, _, rfl, r1, r2⟩
  cases r1
  cases r2
  obtain ⟨_, its, rel, ⟨⟨oc, od2, odt, osl⟩, ho, hc, n, hdt⟩⟩ : ObjOk X.prog X.w H s.heap t (.tup cs) := I.hok t _ et
  simp only at hc hdt
  subst hc hdt
  obtain ⟨there, _⟩ := I.pin (a, oe) (List.mem_append.mpr (.inl List.mem_cons_self))
  obtain ⟨vs, hv⟩ := hf
  have nc : PySem.W.notCls oe = true := by unfold PySem.W.notCls; rw [hv] <;> rfl
  have J : ∃ od, PySem.W.InstAt s.heap a oe D od := by
    cases d with
    | none => exact ⟨none, there, hz.1, nc, by rw [hz.2]; trivial⟩
    | some dd =>
      obtain ⟨fs, e⟩ := hd dd rfl
      obtain ⟨mA, ⟨o, es, ep, ho, _⟩, _⟩ : ObjOk X.prog X.w H s.heap dd (.xd fs) := I.hok dd _ e
      exact ⟨some o, there, hz.1, nc, by rw [hz.2]; exact ho⟩
  obtain ⟨od, J⟩ := J
  exact PySem.W.kia_tup (PySem.W.kitx_exc (hasD T.o.hd) T.ga T.gg T.o.exC T.cl G.hn G.ht T.hm) I.kIn J ho (kitL_any k rel) (fun z => nomatch z) fun tk => ⟨.bl _, H, I.kept (t' := tk) fun _ _ z => z, rfl, q⟩
theorem off_none {r p : Addr} {H H' : Hp} (s : Off r H H') (n : p ≠ r) (h : H' p = none) : H p = none := by
  cases e : H p with
  | none => rfl
  | some o => rw [s _ _ n e] at h; cases h
/-- list(t), its address none of the run's own -/
def rListTN (K : PySem.W.Frag) : List V → Hp → VK → Prop := fun xs H Q => ∃ p ys, xs = [.ref p] ∧ (SqL K H p ys ∨ SqT K H p ys) ∧ NewN H (.lst ys) Q
theorem i_listTN {K : PySem.W.Frag} {H : Hp} {Q : VK} {a : Addr} {xs : List V} (h : SqT K H a xs) (q : NewN H (.lst xs) Q) : rListTN K [.ref a] H Q := ⟨a, xs, rfl, .inr h, q⟩
theorem tabs_off {T : List (Addr × Str)} {G G' : Hp} {p : Addr} {xs : List V} (t : LamX.Tabs T G) (e : G p = some (.lst xs)) (o : Off p G G') : LamX.Tabs T G' := fun q hq => by
  obtain ⟨ps, h1, h2, h3⟩ := t q hq
  refine ⟨ps, o _ _ (fun z => by rw [z, e] at h1; cases h1) h1, h2, fun pos cv hc => ?_⟩
  obtain ⟨c, e1, e2⟩ := h3 pos cv hc
  exact ⟨c, e1, o _ _ (fun z => by rw [z, e] at e2; cases e2) e2⟩
/-! ### bounds on shown texts and on their signs -/
structure Shc (d : PyData) (n k : Nat) : Prop where
  ok : d.showable = true
  dp : d.depth ≤ k
  tx : okS d.shown n
theorem Shc.sh {d : PyData} {n k : Nat} (h : Shc d n k) : Sh d n k := ⟨h.ok, h.dp, h.tx.1⟩
theorem Shc.mono {d : PyData} {n k n' k' : Nat} (h : Shc d n k) (a : n ≤ n') (b : k ≤ k') : Shc d n' k' := ⟨h.ok, Nat.le_trans h.dp b, h.tx.mono a⟩
theorem okS_join {sep : Str} {n m : Nat} (hs : okS sep m) : ∀ ts : List Str, (∀ t ∈ ts, okS t n) → okS (Str.join sep ts) (ts.length * (n + m))
  | [], _ => by
    refine ⟨by show 0 ≤ _; omega, fun c hc => ?_⟩
    have e : (Str.join sep []).cps.toList = [] := rfl
    rw [e] at hc; cases hc
  | [x], h => (h x (by simp)).mono (by rw [List.length_singleton, Nat.one_mul]; omega)
  | x :: y :: r, h => by
    have ih := okS_join hs (y :: r) (fun t ht => h t (List.mem_cons_of_mem _ ht))
    have z : okS (x ++ sep ++ Str.join sep (y :: r)) (n + m + (y :: r).length * (n + m)) := ((h x (by simp)).app hs).app ih
    refine okS.mono (x := Str.join sep (x :: y :: r)) z ?_
    have e : (x :: y :: r).length * (n + m) = (y :: r).length * (n + m) + (n + m) := by rw [List.length_cons, Nat.add_mul, Nat.one_mul]
    omega
theorem okS_lit {x : Str} {n : Nat} (h : (decide (x.length ≤ n) && x.cps.toList.all fun c => decide (c < 1114112)) = true) : okS x n := by
  simp only [Bool.and_eq_true, decide_eq_true_eq, List.all_eq_true] at h
  exact h
theorem Shc.lst {ds : List PyData} {n k : Nat} (h : ∀ d ∈ ds, Shc d n k) : Shc (.list ds) (ds.length * (n + 2) + 2) (k + 1) := by
  refine ⟨by simp only [PyData.showable]; exact showableAll_of fun d hd => (h d hd).ok, ?_, ?_⟩
  · have := depthAll_le fun d hd => (h d hd).dp
    simp only [PyData.depth]; omega
  · rw [PyData.shown_list]
    have := okS_join (sep := (", " : Str)) (n := n) (m := 2) (okS_lit (by decide +kernel)) (PyData.shownAll ds) fun t ht => by
      obtain ⟨d, hd, e⟩ := shownAll_mem ht
      rw [← e]; exact (h d hd).tx
    rw [PyData.shownAll_length] at this
    exact (((okS_lit (x := ("[" : Str)) (n := 1) (by decide +kernel)).app this).app (okS_lit (x := ("]" : Str)) (n := 1) (by decide +kernel))).mono (by omega)
theorem Shc.tup {ds : List PyData} {n k : Nat} (h : ∀ d ∈ ds, Shc d n k) : Shc (.tuple ds) (ds.length * (n + 2) + 3) (k + 1) := by
  refine ⟨by simp only [PyData.showable]; exact showableAll_of fun d hd => (h d hd).ok, ?_, ?_⟩
  · have := depthAll_le fun d hd => (h d hd).dp
    simp only [PyData.depth]; omega
  · rw [PyData.shown_tuple]
    have := okS_join (sep := (", " : Str)) (n := n) (m := 2) (okS_lit (by decide +kernel)) (PyData.shownAll ds) fun t ht => by
      obtain ⟨d, hd, e⟩ := shownAll_mem ht
      rw [← e]; exact (h d hd).tx
    rw [PyData.shownAll_length] at this
    have e2 : okS (((if (ds.length == 1) = true then ",)" else ")" : String) : Str)) 2 := by
      split
      · exact okS_lit (by decide +kernel)
      · exact okS_lit (by decide +kernel)
    exact (((okS_lit (x := ("(" : Str)) (n := 1) (by decide +kernel)).app this).app e2).mono (by omega)
theorem ofString_ch (s : String) : ∀ c ∈ (Str.ofString s).cps.toList, c < 1114112 := by
  intro c hc
  have e : (Str.ofString s).cps.toList = s.toList.map Char.toNat := by
    rw [Str.ofString_eq_toList]
  rw [e] at hc
  obtain ⟨x, _, rfl⟩ := List.mem_map.mp hc
  have := x.valid
  simp only [UInt32.isValidChar, Nat.isValidChar] at this
  show x.val.toNat < 1114112
  omega
theorem Shc.int {i : Int} (h : i.natAbs.log2 < 1920) : Shc (.int i) 1921 0 := by
  have z := Sh.int h
  refine ⟨z.ok, z.dp, z.ln, ?_⟩
  rw [PyData.shown_int]
  exact ofString_ch _
def shcB (d : PyData) (n k : Nat) : Bool := d.showable && (decide (d.depth ≤ k) && (decide (d.shown.length ≤ n) && d.shown.cps.toList.all fun c => decide (c < 1114112)))
theorem shc_of {d : PyData} {n k : Nat} (h : shcB d n k = true) : Shc d n k := by
  unfold shcB at h
  simp only [Bool.and_eq_true, decide_eq_true_eq, List.all_eq_true] at h
  exact ⟨h.1, h.2.1, h.2.2⟩
theorem Shc.bl {b : Bool} : Shc (.bool b) 5 0 := by cases b <;> exact shc_of (by decide +kernel)
theorem Shc.non : Shc .none 4 0 := shc_of (by decide +kernel)
theorem Shc.str {d : PyData} {n k : Nat} (h : Shc d n k) : Sh (.str d.shown) (10 * n + 2) 0 := Sh.str h.tx
/-! ### readings -/
section
variable {K : PySem.W.Frag} {σ : L2.St} {H : Hp} {Q : VK}
theorem i_revT {te : TE} (q : te σ H fun x H1 => ∃ a xs, x = .ref a ∧ SqT K H1 a xs ∧ NewR H1 (.tup xs.reverse) Q) : tRevT K te σ H Q := q
theorem i_exrevT {a : Addr} {xs : List V} (h : SqT K H a xs) (q : NewR H (.tup xs.reverse) Q) : ∃ a' xs', V.ref a = .ref a' ∧ SqT K H a' xs' ∧ NewR H (.tup xs'.reverse) Q := ⟨a, xs, rfl, h, q⟩
theorem i_countF {p : Addr} {ys : List V} {y : V} (h : SqL K H p ys) (fy : flatV y = true) (fys : ys.all flatV = true) (q : Q (.int (ys.countP fun z => eqV z y : Nat)) H) : rCntF K (.ref p) [y] H Q := ⟨p, ys, y, rfl, rfl, h, fy, fys, q⟩
/-- both tuples have items -/
theorem i_catA {a b : Addr} {xs ys : List V} (ha : SqT K H a xs) (hb : SqT K H b ys) (n1 : xs ≠ []) (n2 : ys ≠ []) (z : xs.length + ys.length ≤ sizeLine) (q : NewR H (.tup (xs ++ ys)) Q) : rCatA K (.ref a) (.ref b) H Q :=
  ⟨a, b, xs, ys, rfl, rfl, ha, hb, z, fun e => (n1 e).elim, fun _ e => (n2 e).elim, fun _ _ => q⟩
/-- a part that is not the whole -/
theorem i_slTA {a : Addr} {xs : List V} {lo hi : Option Int} (h : SqT K H a xs) (n : ¬ (HT.sIx xs.length 0 lo = 0 ∧ HT.sIx xs.length xs.length hi = xs.length)) (q : NewR H (.tup (cutV xs lo hi)) Q) : rSlA K (.ref a) lo hi H Q :=
  ⟨a, xs, rfl, h, fun e => (n e).elim, fun _ => q⟩
def rListT (K : PySem.W.Frag) : List V → Hp → VK → Prop := fun xs H Q => ∃ p ys, xs = [.ref p] ∧ (SqL K H p ys ∨ SqT K H p ys) ∧ NewR H (.lst ys) Q
theorem i_cut {t u : TS} {D : Ends} (Mid : L2.St → Hp → Prop) (h1 : t { D with nx := Mid } σ H) (h2 : ∀ σ' H', Mid σ' H' → u D σ' H') : C8.tCut t u D σ H := ⟨Mid, h1, h2⟩
theorem i_iTup {a : TE} {R : It → Hp → Prop} (q : a σ H fun x H1 => ∃ p, x = .ref p ∧ (∃ xs, SqT K H1 p xs) ∧ R (Itt K p) H1) : iTup K a σ H R := q
theorem i_exlT {R : It → Hp → Prop} {p : Addr} {xs : List V} (h : SqT K H p xs) (q : R (Itt K p) H) : ∃ p', V.ref p = .ref p' ∧ (∃ xs, SqT K H p' xs) ∧ R (Itt K p') H := ⟨p, rfl, ⟨xs, h⟩, q⟩
end
end KX

namespace KX
open PySem PySem.Spec PyProof.Rows L2
/-! ### the head run in the kernel: all facts are one truth value over the part that the names reach -/
theorem empty_of {o : Obj} (h : emptyB o = true) : o = tabO := by
  unfold emptyB at h
  split at h
  · simp only [Bool.and_eq_true, Array.isEmpty_iff] at h
    obtain ⟨h1, h2⟩ := h
    subst h1 h2
    rfl
  · cases h
theorem lookup_mem {a : Addr} {o : Obj} : ∀ {l : List (Addr × Obj)}, l.lookup a = some o → (a, o) ∈ l
  | [], h => by cases h
  | (b, u) :: l, h => by
    rw [List.lookup_cons] at h
    split at h
    · rename_i e
      cases h
      rw [beq_iff_eq.mp e]
      exact List.mem_cons_self
    · exact List.mem_cons_of_mem _ (lookup_mem h)
theorem frH_in {as : List Addr} {h : Heap} : (frH h.get? as).In h := fun a o e => by
  have m := (List.mem_filter.mp (lookup_mem e)).1
  unfold He.frG at m
  obtain ⟨b, _, hb⟩ := List.mem_filterMap.mp m
  cases q : h.get? b with
  | none => rw [q] at hb; cases hb
  | some u => rw [q] at hb; cases hb; exact q
structure SaysH (fa : List Fc) (fn : List He.DefD) (tb : List (Str × Option Str)) (K : PySem.W.Frag) (h : Heap) : Prop where
  inK : K.In h
  fact : ∀ f ∈ fa, f K = true
  defs : ∀ d ∈ fn, d.ok K = true ∧ He.fnW K d.at_ = d.val
  tabs : ∀ p ∈ tb, h.get? (mkT K p).2 = some tabO ∧ K.lookup (mkT K p).2 = none ∧ PySem.W.codeHdIn K (mkT K p).1 (mkT K p).2 = true
theorem saysH_of {n : Nat} {fa : List Fc} {fn : List He.DefD} {tb : List (Str × Option Str)} {h : Heap} (e : obsH n fa fn tb h.get? = He.valD fn) : SaysH fa fn tb (frH h.get? (sysModules :: cStatics :: He.asD h.get? n)) h := by
  have e1 := congrArg (fun z : He.AlD => z.1) e
  have e2 : (fn.map fun d => He.fnW (frH h.get? (sysModules :: cStatics :: He.asD h.get? n)) d.at_) = fn.map He.DefD.val := congrArg (fun z : He.AlD => z.2) e
  have e3 : ((fa.all fun f => f (frH h.get? (sysModules :: cStatics :: He.asD h.get? n))) && ((fn.all fun d => d.ok (frH h.get? (sysModules :: cStatics :: He.asD h.get? n))) && tb.all fun p => tbB h.get? (frH h.get? (sysModules :: cStatics :: He.asD h.get? n)) p)) = true := e1
  simp only [Bool.and_eq_true, List.all_eq_true] at e3
  obtain ⟨h1, h2, h3⟩ := e3
  refine ⟨frH_in, h1, fun d hd => ⟨h2 d hd, ?_⟩, fun p hp => ?_⟩
  · exact List.map_inj_left.mp e2 d hd
  · have z := h3 p hp
    unfold tbB at z
    simp only [Bool.and_eq_true] at z
    obtain ⟨z1, z2, z3⟩ := z
    refine ⟨?_, Option.isNone_iff_eq_none.mp z2, z1⟩
    split at z3
    · rename_i o ho
      rw [ho, empty_of z3]
    · cases z3
def hookH (n : Nat) (fa : List Fc) (fn : List He.DefD) (tb : List (Str × Option Str)) : PySem.W.Hook where
  α := He.AlD
  obs := fun s => obsH n fa fn tb s.heap.get?
  val := fun _ => He.valD fn
  says := fun _ h => ∃ K : PySem.W.Frag, SaysH fa fn tb K h
  of := fun _ _ e => ⟨_, saysH_of e⟩
  keeps := fun _ _ _ ⟨K, c⟩ k => ⟨K, PySem.W.Frag.In.keeps c.inK k, c.fact, c.defs, fun p hp => ⟨k _ _ (c.tabs p hp).1, (c.tabs p hp).2⟩⟩
theorem obsH_eq {n : Nat} {fa : List Fc} {fn : List He.DefD} {tb : List (Str × Option Str)} {g : Addr → Option Obj} {s : Shared} (h : ∀ a, g a = s.heap.get? a) : obsH n fa fn tb g = (hookH n fa fn tb).obs s := by
  have e : g = s.heap.get? := funext h
  rw [e] <;> rfl
theorem SaysH.at_ {fa : List Fc} {fn : List He.DefD} {tb : List (Str × Option Str)} {K : PySem.W.Frag} {h : Heap} (c : SaysH fa fn tb K h) (i : Nat) {f : Fc} (e : fa[i]? = some f := by rfl) : f K = true := c.fact f (List.mem_of_getElem? e)
theorem SaysH.def_ {fa : List Fc} {fn : List He.DefD} {tb : List (Str × Option Str)} {K : PySem.W.Frag} {h : Heap} (c : SaysH fa fn tb K h) (i : Nat) {st : Stmt} {p : Str × Option Str} {x q : Str} (e : fn[i]? = some ⟨p, x, q, defArgs st, defBody st, defScope st, [], []⟩ := by rfl) : DefK K x q st (He.fAd K p) := by
  obtain ⟨h1, h2⟩ := c.defs _ (List.mem_of_getElem? e)
  obtain ⟨fd, ⟨oc, od, dV, kV, doc, pm, an, cdv, ct, osl, ef, lk, cd, dfl, kwd⟩, kp⟩ := He.DefD.funD h2 h1
  have dn : dV = .none := by
    rcases dfl with ⟨_, z⟩ | ⟨z, _⟩
    · exact z
    · exact (z rfl).elim
  subst dn
  exact ⟨fd, ⟨oc, od, kV, doc, pm, an, cdv, ct, osl, ef, lk, cd⟩, kp⟩
theorem defC_of {K : PySem.W.Frag} {x q : Str} {st : Stmt} {f : Addr} (d : DefK K x q st f) (h : PySem.W.codeHdIn K (codeAt K f) (tabOf K (codeAt K f)) = true) : DefC K x q st f (codeAt K f) := by
  obtain ⟨fd, ⟨oc, od, kV, doc, pm, an, cdv, ct, osl, ef, lk, cd⟩, kp⟩ := d
  obtain ⟨c, _, _, _, e, _⟩ : ∃ (c : Addr) (oc : Obj) (vs : Array Value) (t : Tok), cdv = .ref c ∧ True := by
    unfold PySem.W.codeIn at cd
    cases cdv with
    | ref c => exact ⟨c, default, #[], default, rfl, trivial⟩
    | _ => cases cd
  subst e
  have ec : codeAt K f = c := by
    unfold codeAt
    rw [lk, ef]
  rw [ec]
  exact ⟨fd, ⟨oc, od, kV, doc, pm, an, ct, osl, ef, lk, cd⟩, kp⟩
section
variable {K : PySem.W.Frag} {h : Heap} {mg : Str → Option Value}
theorem glo_of (X : K.In h) (G : h.Ns mainGlobals mg) {x : Str} {f : PySem.W.Frag → Addr} (c : gloB x f K = true) : mg x = some (.ref (f K)) := PySem.W.mg_of X G (beq_iff_eq.mp c)
theorem free_of (X : K.In h) (G : h.Ns mainGlobals mg) {x : Str} (c : freeB x K = true) : mg x = none := PySem.W.mg_none_of X G (beq_iff_eq.mp c)
theorem int_of (X : K.In h) (G : h.Ns mainGlobals mg) {x : Str} {i : Int} (c : intB x i K = true) : mg x = some (.int i (tokOf K x)) := PySem.W.mg_of X G (beq_iff_eq.mp c)
theorem str_of (X : K.In h) (G : h.Ns mainGlobals mg) {x z : Str} (c : strB x z K = true) : mg x = some (.str z (tokOf K x)) := PySem.W.mg_of X G (beq_iff_eq.mp c)
theorem met_of {C m : Str} (c : metB C m K = true) : PySem.W.findIn K (.ref (He.ga K C)) m = some (some (.ref (He.fAd K (C, some m)))) := beq_iff_eq.mp c
theorem ib_of {C : Addr} {i : String} (c : ibB K C i = true) : InitB K i C := by
  unfold ibB at c
  simp only [Bool.and_eq_true, beq_iff_eq] at c
  obtain ⟨c1, c2, c3⟩ := c
  refine ⟨c1, c2, ?_⟩
  split at c3
  · rename_i s e
    rw [e, beq_iff_eq.mp c3]
  · cases c3
theorem cg_of (c : cgB K = true) : ClassGet K := by
  unfold cgB at c
  simp only [Bool.and_eq_true, beq_iff_eq] at c
  exact ⟨c.1, c.2⟩
end
theorem walkGE {l : PySem.W.OpenLaw} {n k : Nat} {q : Program} {loose : List Str} {XP : (Str → Option Value) → Heap → Prop} {YP : World → Heap → Prop} {d : DefRec} {CX : World → CXT} {x : Str} (most : l.most = some n) (few : n ≤ sizeLine)
    (plain : d.params.defaults = []) (room : Room k callerA)
    (G : ∀ (w : World) (mg : Str → Option Value) (fa : Addr) (h : Heap), YP w h → h.Ns mainGlobals mg → mg d.name = some (.ref fa) → ∃ K : PySem.W.Frag, K.In h ∧ LawT l w K (CX w) k n x mg fa h)
    (noX : ∀ (w : World) (H : Hp) (s : Shared) (e : Value) (s' : Shared), CX w [] H s (fun _ _ _ => False) e s' → False) :
    PySem.W.WalkO q loose XP YP l.row.toRowW d [] (fun f vs => PySem.call f vs) := by
  refine Att.attach_callB most plain fun w _ t0 mg mb fa _ _ _ _ a us ns gr y _ _ _ at_ there hin len bits gens => ?_
  obtain ⟨K, KX, fd, cs, sp, tabs, binds, promise, hF⟩ := G w mg fa _ y gr.T.g at_
  exact lawGT KX gr.T.g gr.T.b gr.T.builtins gr.T.nolimit gens (fun q hq => (tabs q hq).1) (fun q hq => (tabs q hq).2.1) (fun q hq => PySem.W.codeHd_of_K KX (tabs q hq).2.2) gr.T.bmain there hin (Nat.le_trans len few) room hF binds (fun H hT seen => promise H a ns len bits hT seen) fun H e s' => noX w H t0 e s'
/-! ### the run's equation in pieces: the kernel's memory is given back behind each -/
section
variable {σ : Type} {r : Option σ} {K : σ → PySem.W.Frag} {A B : List Fc}
theorem all_run (h1 : r.map (fun s => A.all fun f => f (K s)) = some true) (h2 : r.map (fun s => B.all fun f => f (K s)) = some true) : r.map (fun s => (A ++ B).all fun f => f (K s)) = some true := by
  cases r with
  | none => cases h1
  | some s =>
    have e1 : (A.all fun f => f (K s)) = true := Option.some.inj h1
    have e2 : (B.all fun f => f (K s)) = true := Option.some.inj h2
    show some ((A ++ B).all fun f => f (K s)) = some true
    rw [List.all_append, e1, e2]
    rfl
end
theorem obs_run {σ : Type} {r : Option σ} {G : σ → Addr → Option Obj} {n : Nat} {fa : List Fc} {fn : List He.DefD} {tb : List (Str × Option Str)} (h1 : r.map (fun s => fa.all fun f => f (frH (G s) (sysModules :: cStatics :: He.asD (G s) n))) = some true) (h2 : r.map (fun s => defsH n fn tb (G s)) = some (He.valD fn)) :
    r.map (fun s => obsH n fa fn tb (G s)) = some (He.valD fn) := by
  cases r with
  | none => cases h1
  | some s =>
    have e1 : (fa.all fun f => f (frH (G s) (sysModules :: cStatics :: He.asD (G s) n))) = true := Option.some.inj h1
    have e2 : defsH n fn tb (G s) = He.valD fn := Option.some.inj h2
    show some (obsH n fa fn tb (G s)) = some (He.valD fn)
    refine congrArg some ?_
    rw [← e2]
    show ((fa.all fun f => f (frH (G s) (sysModules :: cStatics :: He.asD (G s) n))) && _, _) = _
    rw [e1, Bool.true_and]
    rfl
theorem run_of {R : PySem.W.OpenRow} {q : Program} {n M : Nat} {fa : List Fc} {fn : List He.DefD} {tb : List (Str × Option Str)} {loose : List PySem.Str} {w : World}
    (h0 : ∀ os : OsState, (HandSHeadRun.endF (HandSHeadRun.stepQ (HandSHeadRun.denQ HandSHeadRun.tabQ) R.prog w) M R.prog w os).map (fun s => (HandSHeadRun.looksF R.prog (PySem.W.boot_heap w.params) s.abs, HandSHeadRun.seenQ q loose (importedModules R.prog.main.body) (fun s => PySem.W.xlAt q [] s && PySem.W.recOk R.toRowW.records s) s.abs)) = some (true, PySem.W.openGood q loose))
    (h1 : ∀ os : OsState, (HandSHeadRun.endF (HandSHeadRun.stepQ (HandSHeadRun.denQ HandSHeadRun.tabQ) R.prog w) M R.prog w os).map (fun s => obsH n fa fn tb (HandSHeadRun.getT s)) = some (He.valD fn)) :
    HandSHeadRun.RunEq R q (hookH n fa fn tb) (fun s => obsH n fa fn tb (HandSHeadRun.getT s)) M loose w := by
  intro os
  have a := h0 os
  have b := h1 os
  revert a b
  generalize HandSHeadRun.endF (HandSHeadRun.stepQ (HandSHeadRun.denQ HandSHeadRun.tabQ) R.prog w) M R.prog w os = r
  intro a b
  cases r with
  | none => cases a
  | some s =>
    have e1 := Option.some.inj a
    have e2 := Option.some.inj b
    show some (_, _, _) = some (_, _, _)
    have e3 := congrArg Prod.fst e1
    have e4 := congrArg Prod.snd e1
    exact congrArg some (Prod.ext e3 (Prod.ext e4 e2))
end KX





namespace KX
open PySem PySem.Spec PyProof.Rows L2
abbrev hkH : PySem.W.Hook := hookH 4 faL fnL tbL
def obH (s : PySem.W.SharedT) : He.AlD := obsH 4 faL fnL tbL (HandSHeadRun.getT s)
theorem obH_eq (s : PySem.W.SharedT) : obH s = hkH.obs s.abs := obsH_eq (HandSHeadRun.getT_eq s)
theorem runH (w : World) : HandSHeadRun.RunEq RH (PySem.W.view RH.prog [47]) hkH obH 20000 nmL w := run_of (runS w) fun os => obs_run (all_run (runF0 w os) (all_run (runF1 w os) (runF2 w os))) (runD w os)
end KX
section
open PySem PySem.W PySem.Calls PyProof.Rows
set_option maxHeartbeats 0 in
theorem KX.topH (F : ∀ {l : PySem.W.OpenLaw} {w : World} {K : PySem.W.Frag} {h : Heap} {mg : PySem.Str → Option Value} {fa : Addr}, h.Ns mainGlobals mg → mg "law" = some (.ref fa) → KX.SaysH KX.faL KX.fnL KX.tbL K h → KX.LawT l w K L2.CX0 11 63 "_law_script" mg fa h) : PySem.Challenge.rw_groupsteps_k28_greatest_catalogs.Holds := by
  w_on; o_law
  refine HandSHeadRun.head_any (r := OpenLaw.row PySem.Challenge.rw_groupsteps_k28_greatest_catalogs) (q := view (OpenLaw.row PySem.Challenge.rw_groupsteps_k28_greatest_catalogs).prog [47]) (H := KX.hkH) (ob := KX.obH) (M := 20000) (loose := KX.nmL) (d := HandSHeadRun.topDef (OpenLaw.row PySem.Challenge.rw_groupsteps_k28_greatest_catalogs).prog 47) (kwd := []) KX.obH_eq
    (by kernel_rfl) (fun s => by kernel_rfl) KX.runH (by kernel_rfl) (by kernel_rfl) (by kernel_rfl) (by rfl) (by clear F; first | assumption | decide +kernel) (by decide +kernel) ⟨rfl, rfl, rfl, rfl, rfl, by decide +kernel⟩ ?hw ?hc
  case hw => clear F; w_witness2
  case hc =>
    refine KX.walkGE (l := PySem.Challenge.rw_groupsteps_k28_greatest_catalogs) (n := 63) (k := 11) (x := "_law_script") (CX := fun _ => L2.CX0) rfl (by decide) (by kernel_rfl) ⟨rfl, by decide, by decide⟩ ?F (fun _ _ _ _ _ z => z)
    intro w mg fa h Y G hmg0
    obtain ⟨K, c⟩ := Y
    have hmg : mg ("law" : PySem.Str) = some (.ref fa) := by
      have e : (HandSHeadRun.topDef (OpenLaw.row PySem.Challenge.rw_groupsteps_k28_greatest_catalogs).prog 47).name = ("law" : PySem.Str) := by kernel_rfl
      rw [← e]
      exact hmg0
    exact ⟨K, c.inK, F G hmg c⟩
end

namespace KX
open PySem PySem.Spec PyProof.Rows L2
/-! ### several except clauses, each with a name (a slot) or without -/
abbrev Cla := Value × Option Nat × (Addr → Value → Option Addr → TS)
def endsAs (D : Ends) (i : Nat) : Ends := { nx := fun σ' H' => D.nx (σ'.set i none) H', rt := D.rt, bk := fun σ' H' => D.bk (σ'.set i none) H', ct := fun σ' H' => D.ct (σ'.set i none) H' }
def wCl (K : PySem.W.Frag) (Wout : WX) (D : Ends) : List Cla → WX
  | [] => Wout
  | (c, none, ts) :: r => fun cls d σ H => ∃ b, PySem.W.exmOne K cls c = some b ∧ (b = true → ∀ a, H a = none → ts a cls d D σ H) ∧ (b = false → wCl K Wout D r cls d σ H)
  | (c, some i, ts) :: r => fun cls d σ H => ∃ b, PySem.W.exmOne K cls c = some b ∧ (b = true → ∀ a, H a = none → ts a cls d (endsAs D i) (σ.set i (some (.ref a))) H) ∧ (b = false → wCl K Wout D r cls d σ H)
inductive ClOk (X : Cx) : List ExceptHandler → List Cla → Prop
  | nil : ClOk X [] []
  | bare {x : Str} {c : Value} {ts : Addr → Value → Option Addr → TS} {b₀ : Stmt} {suite : List Stmt} {np pos' : Pos} {hds : List ExceptHandler} {l : List Cla} (hc : Names X x c)
      (hsu : ∀ (a : Addr) (oe : Obj) (cls : Value) (d : Option Addr) (pn : List (Addr × Obj)), Zc cls d oe → (∃ vs, oe.data = .fields vs) → PSs (X.suite a ((a, oe) :: pn)) (b₀ :: suite) (ts a cls d)) (r : ClOk X hds l) :
      ClOk X (.ExceptHandler (some (.Name x np)) none (b₀ :: suite) pos' :: hds) ((c, none, ts) :: l)
  | named {x n : Str} {i : Nat} {c : Value} {ts : Addr → Value → Option Addr → TS} {b₀ : Stmt} {suite : List Stmt} {np pos' : Pos} {hds : List ExceptHandler} {l : List Cla} (hN : X.N.Nodup) (hi : X.N[i]? = some n) (hln : X.env.kindOf n = some .local) (hc : Names X x c)
      (hsu : ∀ (a : Addr) (oe : Obj) (cls : Value) (d : Option Addr) (pn : List (Addr × Obj)), Zc cls d oe → (∃ vs, oe.data = .fields vs) → PSs (X.suite a ((a, oe) :: pn)) (b₀ :: suite) (ts a cls d)) (r : ClOk X hds l) :
      ClOk X (.ExceptHandler (some (.Name x np)) (some n) (b₀ :: suite) pos' :: hds) ((c, some i, ts) :: l)
def tTryC (K : PySem.W.Frag) (l : List Cla) (tb : WX → TS) (Wout : WX) : TS := fun D σ H => tb (wCl K Wout D l) D σ H
section
variable {X : Cx} {body : List Stmt} {h₀ : ExceptHandler} {hds : List ExceptHandler} {l : List Cla} {pos : Pos} {tb : WX → TS} {Wout : WX}
theorem ps_tryC (hs : X.stack = X.env :: X.outer) (hf : X.env.frame = some X.env.locals) (tk : Takes X Wout)
    (hb : ∀ (W : WX) (pn : List (Addr × Obj)) (xe : Value → Shared → Prop), Takes (X.tr pn xe) W → PassesOwn (model X.prog X.w) X.A X.env xe → PSs (X.tr pn xe) body (tb W))
    (hh : ClOk X (h₀ :: hds) l) : PS X (.Try body (h₀ :: hds) [] [] pos) (tTryC X.K l tb Wout) := by
  refine ⟨fun pins s σ H D I q => ?_⟩
  have okX := I.ok
  have frames : X.A.frames = some (X.env :: X.outer) := by rw [okX.frames, hs]
  refine wpAny_Try_except ?_
  refine wpAny_mono ((hb (wCl X.K Wout D l) (X.pn ++ pins) (fun e s₁ => wpAny (model X.prog X.w) X.A (noteFrame e X.env) (fun _ s₂ => wpAny (model X.prog X.w) X.A (setFlight e none) (fun _ s₃ =>
    wpAny (model X.prog X.w) X.A (handleBy e X.env (h₀ :: hds)) (SP X pins D) X.xe s₃) X.xe s₂) X.xe s₁) (fun u s' air => ?_) PassesOwn.looking).run [] s σ H D (I.toTry _) q) (fun f s1 done => ?_) (fun e s1 z => z)
  · obtain ⟨a, B, sI, pins', σ', H', cls, d, rfl, J0, nb, up, sky, na, os, ag, wish⟩ := air
    have J : Inv X pins σ' H' sI := J0.ofTry okX
    have sky' : Sky B (X.env :: X.outer) a (Zc cls d) X.env.locals s'.heap := hs ▸ sky
    show wpAny (model X.prog X.w) X.A (noteFrame (.ref a) X.env) _ _ _
    refine Sky.land Zc.steady frames hf sky' fun h3 fl3 up3 => ?_
    have J3 : Inv X pins σ' H' { s' with heap := h3 } := J.landed nb fl3.1 (up.trans up3) os ag
    obtain ⟨oe3, vs3, he3, hz3, hd3⟩ := fl3.there
    have away : a ∉ frs (X.env :: X.outer) := fun hm => by
      obtain ⟨_, o', e', hnf⟩ := fl3.2.2.1.mem hm
      rw [he3] at e'
      cases e'
      exact hnf _ hd3
    have nL : a ≠ X.env.locals := fun z => away (List.mem_filterMap.mpr ⟨X.env, List.mem_cons_self, by rw [hf, z]⟩)
    have nF : a ∉ X.fs := fun hm => by
      obtain ⟨e, he, q⟩ := List.mem_filterMap.mp hm
      exact away (List.mem_filterMap.mpr ⟨e, List.mem_cons_of_mem _ he, q⟩)
    have S3 := J3.suite he3 hd3 na nL nF
    have LT : PySem.W.Looks (model X.prog X.w) h3 (typeOf (.ref a)) cls := fun A Q E s k q => wpAny_typeOf_ref (k _ _ he3) (by rw [hz3.1]; exact q)
    have test : ∀ {x : Str} {c : Value} {np : Pos} {Q : Value → Shared → Prop} {E : Value → Shared → Prop}, Names X x c → Q c { s' with heap := h3 } → wpAny (model X.prog X.w) (X.A.mark (some (.ref a))) (eval (.Name x np) X.env) Q E { s' with heap := h3 } := fun {x c np Q E} hc q => by
      obtain ⟨hg, hdbg, hm | ⟨hm, hv, hnn⟩⟩ := hc
      · exact ld_glob (X := X.suite a ((a, oe3) :: (X.pn ++ pins))) S3 hg hm q hdbg
      · exact ld_blt (X := X.suite a ((a, oe3) :: (X.pn ++ pins))) S3 hg hm hv q hnn hdbg
    have go : ∀ {hds' : List ExceptHandler} {l' : List Cla}, ClOk X hds' l' → wCl X.K Wout D l' cls d σ' H' → wpAny (model X.prog X.w) X.A (handleBy (.ref a) X.env hds') (SP X pins D) X.xe { s' with heap := h3 } := by
      intro hds' l' hk
      induction hk with
      | nil =>
        intro wish
        refine wpAny_handleBy_nil ?_
        obtain ⟨k1, k2, k3, oe, vs, T, oT, ts', he, hz, hd, h1, hr⟩ := id fl3
        unfold PySem.passOn
        refine wpAny_bind (wpAny_field he hd h1 ?_)
        rw [if_neg (show ¬ ((Value.ref T == Value.none) = true) from by simp)]
        have fin : wpAny (model X.prog X.w) X.A (setFlight (.ref a) X.env.frame) (fun _ s4 => wpAny (model X.prog X.w) X.A (throw (.ref a) : Sem Flow) (SP X pins D) X.xe s4) X.xe { s' with heap := h3 } := by
          rw [hf]
          refine HandSPX.setFlight_upZ fl3 fun h4 held up4 => wpAny_throw (tk _ _ ?_)
          exact ⟨a, B, sI, pins, σ', H', cls, d, rfl, J, nb, (up.trans up3).trans up4, .inr (.inr (by rw [hs]; exact held)), na, os, ag, wish⟩
        first
          | exact wpAny_bind (wpAny_pure (wpAny_bind fin))
          | exact wpAny_bind fin
      | @bare x c ts b₀ suite np pos' hds2 l2 hc hsu r ih =>
        intro wish
        obtain ⟨b, eb, yes, no⟩ := wish
        refine wpAny_handleBy_cons (codeAny_handlers_test ?_) (by intro z; cases z)
        refine test hc ((PySem.W.exm_one (M := model X.prog X.w) (J3.kIn) LT eb).here ?_)
        cases b with
        | true =>
          refine codeAny_handlers_suite ?_
          refine HandSPX.lands_againZ fl3 fun h4 fl4 up4 => ?_
          have J4 : Inv X pins σ' H' { s' with heap := h4 } := J.landed nb fl4.1 ((up.trans up3).trans up4) os ag
          obtain ⟨oe4, vs4, he4, hz4, hd4⟩ := fl4.there
          have S4 := J4.suite he4 hd4 na nL nF
          refine wpAny_mono ((hsu a oe4 cls d (X.pn ++ pins) hz4 ⟨_, hd4⟩).run [] _ _ H' _ S4 (yes rfl a na)) (fun f s6 hsp => ?_) (fun _ _ z => False.elim z)
          match f, hsp with
          | .next, ⟨_, _, S6, q6⟩ => exact ⟨_, _, S6.unsuite okX, q6⟩
          | .brk, ⟨_, _, S6, q6⟩ => exact ⟨_, _, S6.unsuite okX, q6⟩
          | .cont, ⟨_, _, S6, q6⟩ => exact ⟨_, _, S6.unsuite okX, q6⟩
          | .ret u, ⟨_, _, _, S6, r6, q6⟩ => exact ⟨_, _, _, S6.unsuite okX, r6, q6⟩
        | false => exact ih (no rfl)
      | @named x n i c ts b₀ suite np pos' hds2 l2 hN hi hln hc hsu r ih =>
        intro wish
        obtain ⟨b, eb, yes, no⟩ := wish
        refine wpAny_handleBy_cons (codeAny_handlers_test ?_) (by intro z; cases z)
        refine test hc ((PySem.W.exm_one (M := model X.prog X.w) (J3.kIn) LT eb).here ?_)
        cases b with
        | true =>
          refine codeAny_handlers_suite_as ?_
          refine HandSPX.lands_againZ fl3 fun h4 fl4 up4 => ?_
          have J4 : Inv X pins σ' H' { s' with heap := h4 } := J.landed nb fl4.1 ((up.trans up3).trans up4) os ag
          obtain ⟨oe4, vs4, he4, hz4, hd4⟩ := fl4.there
          have S4 := J4.suite he4 hd4 na nL nF
          refine store_ok (X := X.suite a ((a, oe4) :: (X.pn ++ pins))) (v := .ref a) S4 hN hi (.inl hln) rfl (fun s5 S5 => ?_) (.inr hln)
          refine wpAny_mono ((hsu a oe4 cls d (X.pn ++ pins) hz4 ⟨_, hd4⟩).run [] s5 _ H' _ S5 (yes rfl a na)) (fun f s6 hsp => ?_) (fun _ _ z => False.elim z)
          have gone : ∀ {σ6 : L2.St} {H6 : Hp} {Q : Shared → Prop}, Inv (X.suite a ((a, oe4) :: (X.pn ++ pins))) [] σ6 H6 s6 → (∀ s7, Inv X pins (σ6.set i none) H6 s7 → Q s7) →
              wpAny (model X.prog X.w) X.A (do bindName X.env n .none; unbindBehindTheSuite X.env n pos') (fun _ s7 => Q s7) X.xe s6 := fun {σ6 H6 Q} S6 hq => gone_ok (S6.unsuite okX) hN hi hln hq
          match f, hsp with
          | .next, ⟨_, _, S6, q6⟩ => exact gone S6 fun s7 J7 => ⟨_, _, J7, q6⟩
          | .brk, ⟨_, _, S6, q6⟩ => exact gone S6 fun s7 J7 => ⟨_, _, J7, q6⟩
          | .cont, ⟨_, _, S6, q6⟩ => exact gone S6 fun s7 J7 => ⟨_, _, J7, q6⟩
          | .ret u, ⟨_, _, _, S6, r6, q6⟩ => exact gone S6 fun s7 J7 => ⟨_, _, _, J7, r6, q6⟩
        | false => exact ih (no rfl)
    exact go hh wish
  · match f, done with
    | .next, ⟨σ', H', J', q⟩ => exact wpAny_execs_nil ⟨σ', H', J'.ofTry okX, q⟩
    | .brk, ⟨σ', H', J', q⟩ => exact ⟨σ', H', J'.ofTry okX, q⟩
    | .cont, ⟨σ', H', J', q⟩ => exact ⟨σ', H', J'.ofTry okX, q⟩
    | .ret u, ⟨v, σ', H', J', r, q⟩ => exact ⟨v, σ', H', J'.ofTry okX, r, q⟩
end
theorem i_tryC {K : PySem.W.Frag} {l : List Cla} {tb : WX → TS} {Wout : WX} {D : Ends} {σ : L2.St} {H : Hp} (q : tb (wCl K Wout D l) D σ H) : tTryC K l tb Wout D σ H := q
/-- the first clause takes it -/
theorem i_cN {K : PySem.W.Frag} {c cls : Value} {i : Nat} {ts : Addr → Value → Option Addr → TS} {r : List Cla} {Wout : WX} {D : Ends} {σ : L2.St} {H : Hp} {d : Option Addr} (e : PySem.W.exmOne K cls c = some true)
    (q : ∀ a, H a = none → ts a cls d (endsAs D i) (σ.set i (some (.ref a))) H) : WE (wCl K Wout D ((c, some i, ts) :: r)) σ cls d H := ⟨true, e, fun _ => q, fun z => Bool.noConfusion z⟩
/-- .. does not take it -/
theorem i_cX {K : PySem.W.Frag} {c cls : Value} {o : Option Nat} {ts : Addr → Value → Option Addr → TS} {r : List Cla} {Wout : WX} {D : Ends} {σ : L2.St} {H : Hp} {d : Option Addr} (e : PySem.W.exmOne K cls c = some false)
    (q : WE (wCl K Wout D r) σ cls d H) : WE (wCl K Wout D ((c, o, ts) :: r)) σ cls d H := by
  cases o with
  | none => exact ⟨false, e, fun z => Bool.noConfusion z, fun _ => q⟩
  | some i => exact ⟨false, e, fun z => Bool.noConfusion z, fun _ => q⟩
end KX

namespace KX
open PySem PySem.Spec PyProof.Rows L2
/-! ### xs != [], xs == [] for lists of anything -/
def rNeNil (K : PySem.W.Frag) : R2 := fun x y H Q => ∃ a b xs, x = .ref a ∧ y = .ref b ∧ SqL K H a xs ∧ SqL K H b [] ∧ Q (.bl (!xs.isEmpty)) H
def rEqNil (K : PySem.W.Frag) : R2 := fun x y H Q => ∃ a b xs, x = .ref a ∧ y = .ref b ∧ SqL K H a xs ∧ SqL K H b [] ∧ Q (.bl xs.isEmpty) H
section
variable {X : Cx}
theorem op_neNil (hu : X.A.units < cLine) : OpR X (compareOp .NotEq) (rNeNil X.K) := by
  intro pins s σ H x y v u Q I rx ry h
  obtain ⟨a, b, xs, rfl, rfl, ha, hb, q⟩ := h
  cases rx
  cases ry
  obtain ⟨its, r, pl, hz⟩ := I.list ha
  obtain ⟨its2, r2, pl2, hz2⟩ := I.list hb
  cases r2
  cases r with
  | nil => exact SeqAt.RcNeAt.lists (e := fun _ => true) pl.isList pl2.isList rfl hu (fun j h1 => absurd h1 (Nat.not_lt_zero j)) _ _ _ _ ⟨.bl _, H, I, rfl, q⟩
  | cons r1 r2 => exact SeqAt.RcNeAt.lists_lengths pl.isList pl2.isList (by simp) hu _ _ _ _ ⟨.bl _, H, I, rfl, q⟩
end
section
variable {K : PySem.W.Frag} {σ : L2.St} {H : Hp} {Q : VK}
theorem i_neNil {a b : Addr} {xs : List V} (h : SqL K H a xs) (k : SqL K H b []) (q : Q (.bl (!xs.isEmpty)) H) : rNeNil K (.ref a) (.ref b) H Q := ⟨a, b, xs, rfl, rfl, h, k, q⟩
theorem i_eqNil {a b : Addr} {xs : List V} (h : SqL K H a xs) (k : SqL K H b []) (q : Q (.bl xs.isEmpty) H) : rEqNil K (.ref a) (.ref b) H Q := ⟨a, b, xs, rfl, rfl, h, k, q⟩
theorem i_rNinL {p : Addr} {xs : List V} {x : V} (h : SqL K H p xs) (f : flatV x = true) (fs : xs.all flatV = true) (q : Q (.bl (!inV x xs)) H) : rIn K true x (.ref p) H Q := ⟨p, xs, rfl, .inl h, f, fs, q⟩
/-- tuple(xs), xs a list -/
def rTupL (K : PySem.W.Frag) : List V → Hp → VK → Prop := fun xs H Q => ∃ p ys, xs = [.ref p] ∧ SqL K H p ys ∧ NewR H (.tup ys) Q
theorem call_tupL {X : Cx} : CallR X (.type "tuple") (rTupL X.K) := fun pins s σ H xs us Q I r ⟨p, ys, e, h, q⟩ => call_tuple_of pins s σ H xs us Q I r ⟨p, ys, e, .inl ⟨h, q⟩⟩
theorem i_tupL {p : Addr} {ys : List V} (h : SqL K H p ys) (q : NewR H (.tup ys) Q) : rTupL K [.ref p] H Q := ⟨p, ys, rfl, h, q⟩
end
end KX

namespace KX
open PySem PySem.Spec PyProof.Rows L2
/-! ### comprehensions of any container: what the innermost step does is told by a reading -/
abbrev TB := L2.St → Hp → (Hp → Prop) → Prop
structure PB (X : Cx) (body : Sem Unit) (tb : TB) : Prop where
  run : ∀ (pins : List (Addr × Obj)) (s : Shared) (σ : L2.St) (H : Hp) (N : Hp → Prop), Inv X pins σ H s → tb σ H N → wpAny (model X.prog X.w) X.A body (fun _ s' => ∃ H', Inv X pins σ H' s' ∧ N H') X.xe s
/-- one turn of the innermost clause -/
def turnIn (c : Expr) (lvl : Nat) (tg iter : Expr) (ifs : List Expr) (it acc : Value) (env : Env) (body : Sem Unit) : Sem Fin := do
  standAt iter.pos
  match ← pyNext it with
  | none => pure (.done .next)
  | some v =>
    letOwnedTupleGo tg it v
    assign tg env v
    let mut good := true
    for t in ifs do
      if good then good ← isTrue t env (eval t env)
    if good then body
    again (.compLoop c lvl it acc env)
/-- a comprehension that is no generator: its turns are no frames of their own -/
structure Plain (c : Expr) : Prop where
  lu : ∀ (A : Around) (lvl : Nat) (it acc : Value) (env : Env), A.under (.compLoop c lvl it acc env) = A
  ld : ∀ (prog : Program) (w : World) (lvl : Nat) (it acc : Value) (env : Env), (model prog w).den (.compLoop c lvl it acc env) = Sem.onRaise (compTurn c lvl it acc env) fun x => do noteFrame x env; theTreesLotGoes x
  su : ∀ (A : Around) (lvl : Nat) (it acc : Value) (env : Env), A.under (.compStart c lvl it acc env) = A
  sd : ∀ (prog : Program) (w : World) (lvl : Nat) (it acc : Value) (env : Env), (model prog w).den (.compStart c lvl it acc env) = Sem.onRaise (compStart c lvl it acc env) fun x => do noteFrame x env; standAt theWindowsPlace
theorem plain_dict {kx vx : Expr} {gs : List Comprehension} {scope : Scope} {pos : Pos} : Plain (.DictComp kx vx gs scope pos) := ⟨fun _ _ _ _ _ => rfl, fun _ _ _ _ _ _ => rfl, fun _ _ _ _ _ => rfl, fun _ _ _ _ _ _ => rfl⟩
theorem plain_set {elt : Expr} {gs : List Comprehension} {scope : Scope} {pos : Pos} : Plain (.SetComp elt gs scope pos) := ⟨fun _ _ _ _ _ => rfl, fun _ _ _ _ _ _ => rfl, fun _ _ _ _ _ => rfl, fun _ _ _ _ _ _ => rfl⟩
section
variable {prog : Program} {w : World} {A : Around} {R : Result → Shared → Prop} {s : Shared} {c tg iter : Expr} {ifs : List Expr} {it acc : Value} {env : Env} {lvl : Nat} {body : Sem Unit}
/-- what the tests answer -/
def testsOf (ifs : List Expr) (env : Env) : Sem Bool := forIn ifs true fun t r => if r = true then do let good ← isTrue t env (eval t env); pure (ForInStep.yield good) else pure (ForInStep.yield r)
/-- the errors of a turn go out by the frame -/
abbrev outBy (prog : Program) (w : World) (A : Around) (env : Env) (R : Result → Shared → Prop) : Value → Shared → Prop := notedBy (model prog w) A env fun e s' => R (.error e) s'
/-- the innermost clause's loop -/
theorem loop_in (pc : Plain c) (I : Nat → Shared → Prop) (eq : compTurn c lvl it acc env = turnIn c lvl tg iter ifs it acc env body)
    (turn : ∀ n s, I n s → wpAny (model prog w) A (pyNext it) (fun r s1 => match r with
      | none => R (.ok .next) s1
      | some v => wpAny (model prog w) A (letOwnedTupleGo tg it v) (fun _ s2 => wpAny (model prog w) A (assign tg env v) (fun _ s3 =>
          wpAny (model prog w) A (testsOf ifs env) (fun good s4 => if good = true then wpAny (model prog w) A body (fun _ s5 => ∃ m, m < n ∧ I m s5) (outBy prog w A env R) s4 else ∃ m, m < n ∧ I m s4)
            (outBy prog w A env R) s3) (outBy prog w A env R) s2) (outBy prog w A env R) s1) (outBy prog w A env R) s)
    (n : Nat) (h : I n s) : codeAny (model prog w) A (.compLoop c lvl it acc env) R s := by
  refine codeAny_loop rfl I (fun k s hI => ?_) n h
  rw [pc.lu, pc.ld, eq]
  refine wpAny_noted (wpAny_bind (wpAny_standAt (wpAny_bind (thn (turn k s hI) fun o s1 h1 => ?_))))
  match o, h1 with
  | none, h1 => exact wpAny_pure h1
  | some v, h1 =>
    refine wpAny_bind (thn h1 fun _ s2 h2 => wpAny_bind (thn h2 fun _ s3 h3 => wpAny_bind (thn h3 fun good s4 h4 => ?_)))
    match good, h4 with
    | false, h4 => exact wpAny_pure ⟨rfl, h4⟩
    | true, h4 => first
      | exact wpAny_bind (thn h4 fun _ s5 h5 => wpAny_pure ⟨rfl, h5⟩)
      | exact wpAny_bind (wpAny_bind (thn h4 fun _ s5 h5 => wpAny_pure (wpAny_pure ⟨rfl, h5⟩)))
/-- a clause's start, behind which its loop runs -/
theorem start_in (pc : Plain c) (hcl : ((clausesOf c)[lvl]?).elim false (fun g => g.is_async != 0) = false) (h0 : codeAny (model prog w) A (.compLoop c lvl it acc env) R s) (hself : wpAny (model prog w) A (pyIter it) (fun it' s' => codeAny (model prog w) A (.compLoop c lvl it' acc env) R s') (outBy prog w A env R) s) :
    codeAny (model prog w) A (.compStart c lvl it acc env) R s := by
  refine codeAny_of_tree ?_
  rw [pc.su, pc.sd]
  refine wpAny_notedAt ?_
  unfold compStart
  rw [hcl]
  show wpAny _ A (ask >>= _) _ _ s
  refine wpAny_bind (wpAny_askSetting (wpAny_ite ?_))
  split
  · first
    | exact wpAny_pure ⟨rfl, h0⟩
    | exact wpAny_bind (wpAny_pure (wpAny_pure ⟨rfl, h0⟩))
  · refine wpAny_bind (wpAny_rule ?_)
    cases (clausesOf c)[lvl]? with
    | none => exact wpAny_bind (thn hself fun it' s' h' => wpAny_pure ⟨rfl, h'⟩)
    | some g => exact wpAny_bind (wpAny_standAt (wpAny_bind (thn hself fun it' s' h' => wpAny_pure ⟨rfl, h'⟩)))
end
section
variable {X : Cx}
def CcR (u0 : Addr → HO) (J : It) (g : TG) (tt : TT) (tb : Addr → TB) (vs : List Nat) (σ : L2.St) (H1 : Hp) (Q : VK) : Prop := ∀ D, H1 D = none → ∃ W : Nat → Nat → Hp → Prop, (∃ m, W 0 m (upd H1 D (u0 D))) ∧ ∀ i m H, W i m H →
  (J.stop i H ∧ Q (.ref D) H) ∨ (J.go i H ∧ ∃ Nx : Hp → Prop, (∀ H', Nx H' → ∃ m', m' < m ∧ W (i + 1) m' H') ∧ ∀ x H', J.yld i H x H' →
    g x (wipe σ vs) H' fun σ2 H2 => wipe σ2 vs = wipe σ vs ∧ tt σ2 H2 fun b H3 => if b = true then tb D σ2 H3 Nx else Nx H3)
def tCc (u0 : Addr → HO) (wi : TI) (g : TG) (tt : TT) (tb : Addr → TB) (vs : List Nat) : TE := fun σ H Q => wi σ H fun J H1 => CcR u0 J g tt tb vs σ H1 Q
/-- a new container is laid by one object -/
def Lays (X : Cx) (mk : Sem Value) (u0 : Addr → HO) : Prop := ∀ {pins : List (Addr × Obj)} {s : Shared} {σ : L2.St} {H : Hp} {Q : Value → Shared → Prop} {E : Value → Shared → Prop}, Inv X pins σ H s →
  (∀ o : Obj, Inv X pins σ (upd H s.heap.objs.size (u0 s.heap.objs.size)) { s with heap := s.heap.push o } → Q (.ref s.heap.objs.size) { s with heap := s.heap.push o }) → wpAny (model X.prog X.w) X.A mk Q E s
theorem lays_dict (u0 : Addr → HO) (h : ∀ (P : Program) (w : World) (H : Hp) (hp : Heap), sysModules < hp.objs.size → ObjOk P w H (hp.push { cls := .type "dict", data := .dict #[] }) hp.objs.size (u0 hp.objs.size)) : Lays X newDict u0 := by
  intro pins s σ H Q E I k
  refine wpAny_newObj_type (k _ ?_)
  exact I.laid (t' := s.toks) (fun b o e => Heap.get?_push_of_some _ e) (Nat.le_refl _) (h _ _ _ _ I.big)
theorem cc_core {pins : List (Addr × Obj)} {s : Shared} {σ : L2.St} {H : Hp} {Q : VK} {c tg iter : Expr} {ifs : List Expr} {gs : List Comprehension} {scope : Scope} {own : List (Str × Nat)} {cpos : Pos} {wi : TI} {g : TG} {tt : TT} {tb : Addr → TB} {u0 : Addr → HO} {mk : Sem Value}
    {body : Addr → Env → Sem Unit} {use : Option (Value → Sem Unit)} {Qf : Value → Shared → Prop} (pc : Plain c) (hcl : clausesOf c = ⟨tg, iter, ifs, 0⟩ :: gs) (eq : ∀ it D env, compTurn c 0 it (.ref D) env = turnIn c 0 tg iter ifs it (.ref D) env (body D env)) (hmk : Lays X mk u0)
    (calm : X.calm = true) (hN : X.N.Nodup) (I : Inv X pins σ H s) (hi : PI X tg iter wi) (ok : BlkOk X.N X.env.scope scope own) (fold : ∀ x, foldedSetIterable iter X.env x = pure x)
    (hg : ∀ (t : Shared) (G : Hp) (L : Addr) (cl : List (Str × Addr)) (fp : List Addr), PG (X.blk t G scope (compEnvC scope cl L X.env) fp) tg g)
    (ht : ∀ (t : Shared) (G : Hp) (L : Addr) (cl : List (Str × Addr)) (fp : List Addr), PTs (X.blk t G scope (compEnvC scope cl L X.env) fp) ifs tt)
    (hb : ∀ (t : Shared) (G : Hp) (L : Addr) (cl : List (Str × Addr)) (fp : List Addr) (D : Addr), PB (X.blk t G scope (compEnvC scope cl L X.env) fp) (body D (compEnvC scope cl L X.env)) (tb D))
    (h : tCc u0 wi g tt tb (own.map (·.2)) σ H Q) (post : ∀ D L s' m H', Inv X pins σ H' s' → Q (.ref D) H' → s'.heap.Ns L m → FpOk X pins H' L → compPost (model X.prog X.w) X.A X.xe use Qf (.ref D) L (.ok .next) s') :
    wpAny (model X.prog X.w) X.A (comprehension c scope X.env cpos mk false (eval iter X.env) use) Qf X.xe s := by
  have caught : ∀ y ∈ scope.names, y.2 = .free → ∃ a, X.env.cells.lookup y.1 = some a := fun y hy e => (ok.free y hy e).elim (fun k => I.ok.has _ (.inl k)) fun k => I.ok.has _ (.inr k)
  refine wpAny_comprehension_free (use := use) hcl fold (closure_ok caught) ok.kind (fun y hy e => by rw [ok.uniq y hy, e]) ?_
  refine thn (hi.run pins s σ H _ I h) fun xv s1 hx => thn hx fun itv s2 got => ?_
  obtain ⟨it, fp, tn, J, H2, rfl, I2, T, at2, fp2, q⟩ := got
  refine hmk I2 fun o I3 => newEnv_comp ?_
  have fresh : H2 s2.heap.objs.size = none := I2.hok.fresh (Nat.le_refl _)
  obtain ⟨W, ⟨m0, w0⟩, turn⟩ := q _ fresh
  generalize eD : s2.heap.objs.size = D at *
  generalize e3 : ({ s2 with heap := s2.heap.push o } : Shared) = s3 at *
  have h3 : s3.heap = s2.heap.push o := by rw [← e3]
  have in2 : ∀ b ∈ fp, b < D := fun b hb => by
    obtain ⟨u, e, _⟩ := T.obj _ _ at2 b hb
    rw [← eD]; exact Heap.lt_size e
  have fp3 : ∀ b ∈ fp, FpOk X pins (upd H2 D (u0 D)) b ∧ b < s3.heap.objs.size := fun b hb => by
    have lt := in2 b hb
    refine ⟨⟨(upd_ne (Nat.ne_of_lt lt)).trans (fp2 b hb).1, (fp2 b hb).2⟩, ?_⟩
    rw [h3, Heap.size_push, eD]
    exact Nat.lt_succ_of_lt lt
  have at3 : tn 0 s3.heap := T.keep _ _ _ at2 fun b _ u e => by rw [h3]; exact Heap.get?_push_of_some _ e
  have I4 := block_start I3 ok hN fp3
  have none3 : ∀ b ∈ fp, (upd H2 D (u0 D)) b = none := fun b hb => (fp3 b hb).1.1
  have pg := hg s3 (upd H2 D (u0 D)) s3.heap.objs.size (cellsFrom (s3.heap.objs.size + 1) scope.names (cloFrom X.env.cells scope.names [])) fp
  have pt := ht s3 (upd H2 D (u0 D)) s3.heap.objs.size (cellsFrom (s3.heap.objs.size + 1) scope.names (cloFrom X.env.cells scope.names [])) fp
  have pb := hb s3 (upd H2 D (u0 D)) s3.heap.objs.size (cellsFrom (s3.heap.objs.size + 1) scope.names (cloFrom X.env.cells scope.names [])) fp D
  show codeAny _ _ (.compStart c 0 (.ref it) (.ref D) (compEnvC scope (cellsFrom (s3.heap.objs.size + 1) scope.names (cloFrom X.env.cells scope.names [])) s3.heap.objs.size X.env)) (compPost (model X.prog X.w) X.A X.xe use Qf (.ref D) s3.heap.objs.size) { s3 with heap := pushCells (s3.heap.push { cls := .type "dict", data := .dict #[] }) scope.names }
  generalize ece : compEnvC scope (cellsFrom (s3.heap.objs.size + 1) scope.names (cloFrom X.env.cells scope.names [])) s3.heap.objs.size X.env = ce at I4 pg pt pb ⊢
  have ceL : ce.locals = s3.heap.objs.size := by subst ece; rfl
  generalize eH3 : upd H2 D (u0 D) = H3 at I3 I4 pg pt pb w0 none3 fp3
  generalize e4 : ({ s3 with heap := pushCells (s3.heap.push { cls := .type "dict", data := .dict #[] }) scope.names } : Shared) = s4 at I4 ⊢
  have at4 : tn 0 s4.heap := T.keep _ _ _ at3 fun b _ u e => by rw [← e4]; exact pushCells_keeps _ _ _ _ (Heap.get?_push_of_some _ e)
  have still : ∀ {σ' : L2.St} {H' : Hp} {s' : Shared}, Inv (X.blk s3 H3 scope ce fp) [] σ' H' s' → (∀ b ∈ fp, H' b = none) → ∀ b ∈ fp, FpOk (X.blk s3 H3 scope ce fp) [] H' b := fun {σ' H' s'} I' hn b hb =>
    ⟨hn b hb, (I'.ok.exf b hb).1, I'.ok.exfs b hb, .inl hb, fun x a e => (I'.ok.exf b hb).2 x a e, fun p hp => by simp at hp⟩
  have run : codeAny (model X.prog X.w) X.A (.compLoop c 0 (.ref it) (.ref D) ce) (compPost (model X.prog X.w) X.A X.xe use Qf (.ref D) s3.heap.objs.size) s4 := by
    refine loop_in pc (fun n s' => ∃ i H', Inv (X.blk s3 H3 scope ce fp) [] (wipe σ (own.map (·.2))) H' s' ∧ tn i s'.heap ∧ (∀ b ∈ fp, H' b = none) ∧ W i n H') (eq _ _ _) ?_ m0 ⟨0, H3, I4, at4, none3, w0⟩
    rintro n s5 ⟨i, H5, I5, at5, none5, w5⟩
    rcases turn i n H5 w5 with ⟨stop, done⟩ | ⟨go, Nx, next, step⟩
    · refine thnF (T.done (X.blk s3 H3 scope ce fp) rfl rfl rfl calm i [] s5 _ H5 (fun _ _ => False) I5 (still I5 none5) at5 stop) fun o s6 ⟨ho, I6⟩ => ?_
      subst ho
      have I7 : Inv X pins σ H5 s6 := I3.call' (ch := fp) I6.os I6.base I6.hok I6.bare fun b hb => let z := (fp3 b hb).1.2; ⟨z.2.2.1, z.1, z.2.2.2.1, z.2.2.2.2⟩
      have free5 : H5 s3.heap.objs.size = none := by rw [← ceL]; exact I6.free
      obtain ⟨m, names, _⟩ := I6.loc
      have names : s6.heap.Ns s3.heap.objs.size m := by rw [← ceL]; exact names
      exact post D _ s6 m H5 I7 done names (I3.fpOk (Nat.le_refl _) free5)
    · refine thnF (T.item (X.blk s3 H3 scope ce fp) rfl rfl rfl calm i [] s5 _ H5 (fun _ _ => False) I5 (still I5 none5) at5 go) fun o s6 ⟨u, ho, h6⟩ => ?_
      subst ho
      refine thnF h6 fun _ s7 ⟨x, H7, I7, r7, y7, at7, none7⟩ => ?_
      refine thnF (pg.run _ s7 _ H7 x u _ (I7.pinned (still I7 none7) (T.obj _ _ at7)) r7 (step x H7 y7)) fun _ s8 ⟨σ8, H8, I8, w8, q8⟩ => ?_
      refine thnF (pt.run _ s8 σ8 H8 _ I8 q8) fun b s9 ⟨H9, I9, q9⟩ => ?_
      have back : ∀ {s' : Shared} {H' : Hp}, Inv (X.blk s3 H3 scope ce fp) ([] ++ pinsAt fp s7.heap) σ8 H' s' → Nx H' → ∃ m, m < n ∧ ∃ i H', Inv (X.blk s3 H3 scope ce fp) [] (wipe σ (own.map (·.2))) H' s' ∧ tn i s'.heap ∧ (∀ b ∈ fp, H' b = none) ∧ W i m H' := fun {s' H'} I' nx => by
        obtain ⟨m', lt, w'⟩ := next H' nx
        have pin : ∀ b ∈ fp, ∀ u, s7.heap.get? b = some u → s'.heap.get? b = some u ∧ H' b = none := fun b hb u e => by
          have z := I'.pin (b, u) (List.mem_append_right _ (List.mem_append_right _ (mem_pinsAt hb e)))
          exact ⟨z.1, z.2.1⟩
        have same_len : (wipe σ (own.map (·.2))).length = σ8.length := by rw [← w8, wipe_length]
        have known : ∀ (j : Nat) (v : V), (wipe σ (own.map (·.2)))[j]? = some (some v) → σ8[j]? = some (some v) := fun j v e => by
          rw [← w8] at e
          exact (wipe_some e).1
        refine ⟨m', lt, i + 1, H', (I'.unpinned (pins := [])).weak same_len known, T.keep _ _ _ at7 fun b hb u e => (pin b hb u e).1, fun b hb => ?_, w'⟩
        obtain ⟨u, e, _⟩ := T.obj _ _ at7 b hb
        exact (pin b hb u e).2
      match b, q9 with
      | false, q9 => exact back I9 (by simpa using q9)
      | true, q9 =>
        have q9 : tb D σ8 H9 Nx := by simpa using q9
        exact thnF (pb.run _ s9 σ8 H9 _ I9 q9) fun _ s10 ⟨H10, I10, nx⟩ => back I10 nx
  exact start_in pc (by rw [hcl]; rfl) run (T.self X.A 0 _ _ _ at4 run)
end
/-! ### two clauses -/
def turnOut (c : Expr) (tg iter : Expr) (ifs : List Expr) (iter1 : Expr) (it acc : Value) (env : Env) : Sem Fin := do
  standAt iter.pos
  match ← pyNext it with
  | none => pure (.done .next)
  | some v =>
    letOwnedTupleGo tg it v
    assign tg env v
    let mut good := true
    for t in ifs do
      if good then good ← isTrue t env (eval t env)
    if good then
      let x ← eval iter1 env
      standAt iter1.pos
      let x ← foldedSetIterable iter1 env x
      let _ ← runOwn (.compStart c 1 (← holding [x] (pyIter x)) acc env) env
    again (.compLoop c 0 it acc env)
theorem turn2_dict_out {kx vx tg iter tg1 iter1 : Expr} {ifs ifs1 : List Expr} {scope : Scope} {pos : Pos} {it acc : Value} {env : Env} : compTurn (.DictComp kx vx [⟨tg, iter, ifs, 0⟩, ⟨tg1, iter1, ifs1, 0⟩] scope pos) 0 it acc env =
  turnOut (.DictComp kx vx [⟨tg, iter, ifs, 0⟩, ⟨tg1, iter1, ifs1, 0⟩] scope pos) tg iter ifs iter1 it acc env := by rfl
def bodyD (kx vx : Expr) (D : Addr) (env : Env) : Sem Unit := do
  let kv ← eval kx env
  let vv ← holding [kv] (eval vx env)
  standAt { kx.pos with endLine := vx.pos.endLine, endCol := vx.pos.endCol }
  holding [kv, vv] (dictSet D kv vv)
theorem turn2_dict_in {kx vx tg iter tg1 iter1 : Expr} {ifs ifs1 : List Expr} {scope : Scope} {pos : Pos} {it : Value} {D : Addr} {env : Env} : compTurn (.DictComp kx vx [⟨tg, iter, ifs, 0⟩, ⟨tg1, iter1, ifs1, 0⟩] scope pos) 1 it (.ref D) env =
  turnIn (.DictComp kx vx [⟨tg, iter, ifs, 0⟩, ⟨tg1, iter1, ifs1, 0⟩] scope pos) 1 tg1 iter1 ifs1 it (.ref D) env (bodyD kx vx D env) := by rfl
theorem turn1_dict {kx vx tg iter : Expr} {ifs : List Expr} {scope : Scope} {pos : Pos} {it : Value} {D : Addr} {env : Env} : compTurn (.DictComp kx vx [⟨tg, iter, ifs, 0⟩] scope pos) 0 it (.ref D) env =
  turnIn (.DictComp kx vx [⟨tg, iter, ifs, 0⟩] scope pos) 0 tg iter ifs it (.ref D) env (bodyD kx vx D env) := by rfl
def bodyS (elt : Expr) (D : Addr) (env : Env) : Sem Unit := do
  let v ← eval elt env
  standAt elt.pos
  let _ ← call (.builtin "set.add") [.ref D, v]
theorem turn1_set {elt tg iter : Expr} {ifs : List Expr} {scope : Scope} {pos : Pos} {it : Value} {D : Addr} {env : Env} : compTurn (.SetComp elt [⟨tg, iter, ifs, 0⟩] scope pos) 0 it (.ref D) env =
  turnIn (.SetComp elt [⟨tg, iter, ifs, 0⟩] scope pos) 0 tg iter ifs it (.ref D) env (bodyS elt D env) := by rfl
section
variable {prog : Program} {w : World} {A : Around} {R : Result → Shared → Prop} {s : Shared} {c tg iter iter1 : Expr} {ifs : List Expr} {it acc : Value} {env : Env}
theorem loop_out (pc : Plain c) (fold : ∀ x, foldedSetIterable iter1 env x = pure x) (I : Nat → Shared → Prop) (eq : compTurn c 0 it acc env = turnOut c tg iter ifs iter1 it acc env)
    (turn : ∀ n s, I n s → wpAny (model prog w) A (pyNext it) (fun r s1 => match r with
      | none => R (.ok .next) s1
      | some v => wpAny (model prog w) A (letOwnedTupleGo tg it v) (fun _ s2 => wpAny (model prog w) A (assign tg env v) (fun _ s3 =>
          wpAny (model prog w) A (testsOf ifs env) (fun good s4 => if good = true then wpAny (model prog w) A (eval iter1 env) (fun x s5 => wpAny (model prog w) A (pyIter x) (fun it1 s6 =>
              codeAny (model prog w) A (.compStart c 1 it1 acc env) (fun r s' => match r with
                | .ok _ => ∃ m, m < n ∧ I m s'
                | .error _ => False) s6) (outBy prog w A env R) s5) (outBy prog w A env R) s4 else ∃ m, m < n ∧ I m s4)
            (outBy prog w A env R) s3) (outBy prog w A env R) s2) (outBy prog w A env R) s1) (outBy prog w A env R) s)
    (n : Nat) (h : I n s) : codeAny (model prog w) A (.compLoop c 0 it acc env) R s := by
  refine codeAny_loop rfl I (fun k s hI => ?_) n h
  rw [pc.lu, pc.ld, eq]
  refine wpAny_noted (wpAny_bind (wpAny_standAt (wpAny_bind (thn (turn k s hI) fun o s1 h1 => ?_))))
  match o, h1 with
  | none, h1 => exact wpAny_pure h1
  | some v, h1 =>
    refine wpAny_bind (thn h1 fun _ s2 h2 => wpAny_bind (thn h2 fun _ s3 h3 => wpAny_bind (thn h3 fun good s4 h4 => ?_)))
    match good, h4 with
    | false, h4 => exact wpAny_pure ⟨rfl, h4⟩
    | true, h4 =>
      refine wpAny_bind (thn h4 fun x s5 h5 => wpAny_bind (wpAny_standAt (wpAny_bind (wpAny_of_eq (fold x) (wpAny_bind (wpAny_holding (thn h5 fun it1 s6 h6 => ?_)))))))
      refine wpAny_bind (wpAny_runOwn ?_)
      rw [Around.mark_none]
      refine codeAny_mono h6 fun r s' hr => ?_
      match r, hr with
      | .error e, hr => exact hr.elim
      | .ok f, hr => first
        | exact wpAny_pure ⟨rfl, hr⟩
        | exact wpAny_bind (wpAny_pure (wpAny_pure ⟨rfl, hr⟩))
end
section
variable {X : Cx}
/-- the inner clause's loop, behind which Nx is reached -/
def CcI (J1 : It) (g1 : TG) (tt1 : TT) (tb : TB) (vs1 : List Nat) (σ2 : L2.St) (Nx : Hp → Prop) (H4 : Hp) : Prop := ∃ W1 : Nat → Nat → Hp → Prop, (∃ m, W1 0 m H4) ∧ ∀ j k H, W1 j k H →
  (J1.stop j H ∧ Nx H) ∨ (J1.go j H ∧ ∃ Nx1 : Hp → Prop, (∀ H', Nx1 H' → ∃ k', k' < k ∧ W1 (j + 1) k' H') ∧ ∀ x H', J1.yld j H x H' →
    g1 x (wipe σ2 vs1) H' fun σ3 H5 => wipe σ3 vs1 = wipe σ2 vs1 ∧ tt1 σ3 H5 fun b H6 => if b = true then tb σ3 H6 Nx1 else Nx1 H6)
def tCc2 (u0 : Addr → HO) (wi : TI) (g : TG) (tt : TT) (wi1 : TI) (g1 : TG) (tt1 : TT) (tb : Addr → TB) (vs vs1 : List Nat) : TE :=
  tCc u0 wi g tt (fun D σ2 H3 Nx => wi1 σ2 H3 fun J1 H4 => CcI J1 g1 tt1 (tb D) vs1 σ2 Nx H4) vs
theorem cc2_core {pins : List (Addr × Obj)} {s : Shared} {σ : L2.St} {H : Hp} {Q : VK} {c tg iter tg1 iter1 : Expr} {ifs ifs1 : List Expr} {gs : List Comprehension} {vs1 : List Nat} {scope : Scope} {own : List (Str × Nat)} {cpos : Pos} {wi wi1 : TI} {g g1 : TG} {tt tt1 : TT} {tb : Addr → TB} {u0 : Addr → HO} {mk : Sem Value}
    {body : Addr → Env → Sem Unit} {use : Option (Value → Sem Unit)} {Qf : Value → Shared → Prop} (pc : Plain c) (hcl : clausesOf c = ⟨tg, iter, ifs, 0⟩ :: gs) (hcl1 : ((clausesOf c)[1]?).elim false (fun g => g.is_async != 0) = false) (eq : ∀ it D env, compTurn c 0 it (.ref D) env = turnOut c tg iter ifs iter1 it (.ref D) env)
    (eq1 : ∀ it D env, compTurn c 1 it (.ref D) env = turnIn c 1 tg1 iter1 ifs1 it (.ref D) env (body D env)) (hmk : Lays X mk u0)
    (calm : X.calm = true) (hN : X.N.Nodup) (I : Inv X pins σ H s) (hi : PI X tg iter wi) (ok : BlkOk X.N X.env.scope scope own) (fold : ∀ x, foldedSetIterable iter X.env x = pure x) (fold1 : ∀ env x, foldedSetIterable iter1 env x = pure x) (inner : ∀ i ∈ vs1, i ∈ own.map (·.2))
    (hg : ∀ (t : Shared) (G : Hp) (L : Addr) (cl : List (Str × Addr)) (fp : List Addr), PG (X.blk t G scope (compEnvC scope cl L X.env) fp) tg g)
    (ht : ∀ (t : Shared) (G : Hp) (L : Addr) (cl : List (Str × Addr)) (fp : List Addr), PTs (X.blk t G scope (compEnvC scope cl L X.env) fp) ifs tt)
    (hi1 : ∀ (t : Shared) (G : Hp) (L : Addr) (cl : List (Str × Addr)) (fp : List Addr), PI (X.blk t G scope (compEnvC scope cl L X.env) fp) tg1 iter1 wi1)
    (hg1 : ∀ (t : Shared) (G : Hp) (L : Addr) (cl : List (Str × Addr)) (fp : List Addr), PG (X.blk t G scope (compEnvC scope cl L X.env) fp) tg1 g1)
    (ht1 : ∀ (t : Shared) (G : Hp) (L : Addr) (cl : List (Str × Addr)) (fp : List Addr), PTs (X.blk t G scope (compEnvC scope cl L X.env) fp) ifs1 tt1)
    (hb : ∀ (t : Shared) (G : Hp) (L : Addr) (cl : List (Str × Addr)) (fp : List Addr) (D : Addr), PB (X.blk t G scope (compEnvC scope cl L X.env) fp) (body D (compEnvC scope cl L X.env)) (tb D))
    (h : tCc2 u0 wi g tt wi1 g1 tt1 tb (own.map (·.2)) vs1 σ H Q) (post : ∀ D L s' m H', Inv X pins σ H' s' → Q (.ref D) H' → s'.heap.Ns L m → FpOk X pins H' L → compPost (model X.prog X.w) X.A X.xe use Qf (.ref D) L (.ok .next) s') :
    wpAny (model X.prog X.w) X.A (comprehension c scope X.env cpos mk false (eval iter X.env) use) Qf X.xe s := by
  have caught : ∀ y ∈ scope.names, y.2 = .free → ∃ a, X.env.cells.lookup y.1 = some a := fun y hy e => (ok.free y hy e).elim (fun k => I.ok.has _ (.inl k)) fun k => I.ok.has _ (.inr k)
  refine wpAny_comprehension_free (use := use) hcl fold (closure_ok caught) ok.kind (fun y hy e => by rw [ok.uniq y hy, e]) ?_
  refine thn (hi.run pins s σ H _ I h) fun xv s1 hx => thn hx fun itv s2 got => ?_
  obtain ⟨it, fp, tn, J, H2, rfl, I2, T, at2, fp2, q⟩ := got
  refine hmk I2 fun o I3 => newEnv_comp ?_
  have fresh : H2 s2.heap.objs.size = none := I2.hok.fresh (Nat.le_refl _)
  obtain ⟨W, ⟨m0, w0⟩, turn⟩ := q _ fresh
  generalize eD : s2.heap.objs.size = D at *
  generalize e3 : ({ s2 with heap := s2.heap.push o } : Shared) = s3 at *
  have h3 : s3.heap = s2.heap.push o := by rw [← e3]
  have in2 : ∀ b ∈ fp, b < D := fun b hb => by
    obtain ⟨u, e, _⟩ := T.obj _ _ at2 b hb
    rw [← eD]; exact Heap.lt_size e
  have fp3 : ∀ b ∈ fp, FpOk X pins (upd H2 D (u0 D)) b ∧ b < s3.heap.objs.size := fun b hb => by
    have lt := in2 b hb
    refine ⟨⟨(upd_ne (Nat.ne_of_lt lt)).trans (fp2 b hb).1, (fp2 b hb).2⟩, ?_⟩
    rw [h3, Heap.size_push, eD]
    exact Nat.lt_succ_of_lt lt
  have at3 : tn 0 s3.heap := T.keep _ _ _ at2 fun b _ u e => by rw [h3]; exact Heap.get?_push_of_some _ e
  have I4 := block_start I3 ok hN fp3
  have none3 : ∀ b ∈ fp, (upd H2 D (u0 D)) b = none := fun b hb => (fp3 b hb).1.1
  have pg := hg s3 (upd H2 D (u0 D)) s3.heap.objs.size (cellsFrom (s3.heap.objs.size + 1) scope.names (cloFrom X.env.cells scope.names [])) fp
  have pt := ht s3 (upd H2 D (u0 D)) s3.heap.objs.size (cellsFrom (s3.heap.objs.size + 1) scope.names (cloFrom X.env.cells scope.names [])) fp
  have pb := hb s3 (upd H2 D (u0 D)) s3.heap.objs.size (cellsFrom (s3.heap.objs.size + 1) scope.names (cloFrom X.env.cells scope.names [])) fp D
  have pi1 := hi1 s3 (upd H2 D (u0 D)) s3.heap.objs.size (cellsFrom (s3.heap.objs.size + 1) scope.names (cloFrom X.env.cells scope.names [])) fp
  have pg1 := hg1 s3 (upd H2 D (u0 D)) s3.heap.objs.size (cellsFrom (s3.heap.objs.size + 1) scope.names (cloFrom X.env.cells scope.names [])) fp
  have pt1 := ht1 s3 (upd H2 D (u0 D)) s3.heap.objs.size (cellsFrom (s3.heap.objs.size + 1) scope.names (cloFrom X.env.cells scope.names [])) fp
  show codeAny _ _ (.compStart c 0 (.ref it) (.ref D) (compEnvC scope (cellsFrom (s3.heap.objs.size + 1) scope.names (cloFrom X.env.cells scope.names [])) s3.heap.objs.size X.env)) (compPost (model X.prog X.w) X.A X.xe use Qf (.ref D) s3.heap.objs.size) { s3 with heap := pushCells (s3.heap.push { cls := .type "dict", data := .dict #[] }) scope.names }
  generalize ece : compEnvC scope (cellsFrom (s3.heap.objs.size + 1) scope.names (cloFrom X.env.cells scope.names [])) s3.heap.objs.size X.env = ce at I4 pg pt pb pi1 pg1 pt1 ⊢
  have ceL : ce.locals = s3.heap.objs.size := by subst ece; rfl
  generalize eH3 : upd H2 D (u0 D) = H3 at I3 I4 pg pt pb pi1 pg1 pt1 w0 none3 fp3
  generalize e4 : ({ s3 with heap := pushCells (s3.heap.push { cls := .type "dict", data := .dict #[] }) scope.names } : Shared) = s4 at I4 ⊢
  have at4 : tn 0 s4.heap := T.keep _ _ _ at3 fun b _ u e => by rw [← e4]; exact pushCells_keeps _ _ _ _ (Heap.get?_push_of_some _ e)
  have still : ∀ {σ' : L2.St} {H' : Hp} {s' : Shared}, Inv (X.blk s3 H3 scope ce fp) [] σ' H' s' → (∀ b ∈ fp, H' b = none) → ∀ b ∈ fp, FpOk (X.blk s3 H3 scope ce fp) [] H' b := fun {σ' H' s'} I' hn b hb =>
    ⟨hn b hb, (I'.ok.exf b hb).1, I'.ok.exfs b hb, .inl hb, fun x a e => (I'.ok.exf b hb).2 x a e, fun p hp => by simp at hp⟩
  have run : codeAny (model X.prog X.w) X.A (.compLoop c 0 (.ref it) (.ref D) ce) (compPost (model X.prog X.w) X.A X.xe use Qf (.ref D) s3.heap.objs.size) s4 := by
    refine loop_out pc (fold1 ce) (fun n s' => ∃ i H', Inv (X.blk s3 H3 scope ce fp) [] (wipe σ (own.map (·.2))) H' s' ∧ tn i s'.heap ∧ (∀ b ∈ fp, H' b = none) ∧ W i n H') (eq _ _ _) ?_ m0 ⟨0, H3, I4, at4, none3, w0⟩
    rintro n s5 ⟨i, H5, I5, at5, none5, w5⟩
    rcases turn i n H5 w5 with ⟨stop, done⟩ | ⟨go, Nx, next, step⟩
    · refine thnF (T.done (X.blk s3 H3 scope ce fp) rfl rfl rfl calm i [] s5 _ H5 (fun _ _ => False) I5 (still I5 none5) at5 stop) fun o s6 ⟨ho, I6⟩ => ?_
      subst ho
      have I7 : Inv X pins σ H5 s6 := I3.call' (ch := fp) I6.os I6.base I6.hok I6.bare fun b hb => let z := (fp3 b hb).1.2; ⟨z.2.2.1, z.1, z.2.2.2.1, z.2.2.2.2⟩
      have free5 : H5 s3.heap.objs.size = none := by rw [← ceL]; exact I6.free
      obtain ⟨m, names, _⟩ := I6.loc
      have names : s6.heap.Ns s3.heap.objs.size m := by rw [← ceL]; exact names
      exact post D _ s6 m H5 I7 done names (I3.fpOk (Nat.le_refl _) free5)
    · refine thnF (T.item (X.blk s3 H3 scope ce fp) rfl rfl rfl calm i [] s5 _ H5 (fun _ _ => False) I5 (still I5 none5) at5 go) fun o s6 ⟨u, ho, h6⟩ => ?_
      subst ho
      refine thnF h6 fun _ s7 ⟨x, H7, I7, r7, y7, at7, none7⟩ => ?_
      refine thnF (pg.run _ s7 _ H7 x u _ (I7.pinned (still I7 none7) (T.obj _ _ at7)) r7 (step x H7 y7)) fun _ s8 ⟨σ8, H8, I8, w8, q8⟩ => ?_
      refine thnF (pt.run _ s8 σ8 H8 _ I8 q8) fun b s9 ⟨H9, I9, q9⟩ => ?_
      have back : ∀ {σ9 : L2.St} {s' : Shared} {H' : Hp}, Inv (X.blk s3 H3 scope ce fp) ([] ++ pinsAt fp s7.heap) σ9 H' s' → (wipe σ (own.map (·.2))).length = σ9.length → (∀ (j : Nat) (v : V), (wipe σ (own.map (·.2)))[j]? = some (some v) → σ9[j]? = some (some v)) → Nx H' →
          ∃ m, m < n ∧ ∃ i H', Inv (X.blk s3 H3 scope ce fp) [] (wipe σ (own.map (·.2))) H' s' ∧ tn i s'.heap ∧ (∀ b ∈ fp, H' b = none) ∧ W i m H' := fun {σ9 s' H'} I' same_len known nx => by
        obtain ⟨m', lt, w'⟩ := next H' nx
        have pin : ∀ b ∈ fp, ∀ u, s7.heap.get? b = some u → s'.heap.get? b = some u ∧ H' b = none := fun b hb u e => by
          have z := I'.pin (b, u) (List.mem_append_right _ (List.mem_append_right _ (mem_pinsAt hb e)))
          exact ⟨z.1, z.2.1⟩
        refine ⟨m', lt, i + 1, H', (I'.unpinned (pins := [])).weak same_len known, T.keep _ _ _ at7 fun b hb u e => (pin b hb u e).1, fun b hb => ?_, w'⟩
        obtain ⟨u, e, _⟩ := T.obj _ _ at7 b hb
        exact (pin b hb u e).2
      have len8 : (wipe σ (own.map (·.2))).length = σ8.length := by rw [← w8, wipe_length]
      have known8 : ∀ (j : Nat) (v : V), (wipe σ (own.map (·.2)))[j]? = some (some v) → σ8[j]? = some (some v) := fun j v e => by
        rw [← w8] at e
        exact (wipe_some e).1
      have known9 : ∀ (j : Nat) (v : V), (wipe σ (own.map (·.2)))[j]? = some (some v) → (wipe σ8 vs1)[j]? = some (some v) := fun j v e => by
        rw [← w8] at e
        have z := wipe_some e
        rw [wipe_out fun m => z.2 (inner j m)]
        exact z.1
      match b, q9 with
      | false, q9 => exact back I9 len8 known8 (by simpa using q9)
      | true, q9 =>
        have q9 : wi1 σ8 H9 fun J1 H4 => CcI J1 g1 tt1 (tb D) vs1 σ8 Nx H4 := by simpa using q9
        refine thnF (pi1.run _ s9 σ8 H9 _ I9 q9) fun xv s10 hx => thnF hx fun itv s11 got1 => ?_
        obtain ⟨it1, fq, tm, J1, H11, rfl, I11, T1, at11, fq11, W1, ⟨m1, w11⟩, turn1⟩ := got1
        have still1 : ∀ {H' : Hp}, (∀ b ∈ fq, H' b = none) → ∀ b ∈ fq, FpOk (X.blk s3 H3 scope ce fp) ([] ++ pinsAt fp s7.heap) H' b := fun hn b hb => ⟨hn b hb, (fq11 b hb).2⟩
        have run1 : codeAny (model X.prog X.w) X.A (.compLoop c 1 (.ref it1) (.ref D) ce) (fun r s' => match r with
            | .ok _ => ∃ m, m < n ∧ ∃ i H', Inv (X.blk s3 H3 scope ce fp) [] (wipe σ (own.map (·.2))) H' s' ∧ tn i s'.heap ∧ (∀ b ∈ fp, H' b = none) ∧ W i m H'
            | .error _ => False) s11 := by
          refine loop_in pc (fun k s' => ∃ j H', Inv (X.blk s3 H3 scope ce fp) ([] ++ pinsAt fp s7.heap) (wipe σ8 vs1) H' s' ∧ tm j s'.heap ∧ (∀ b ∈ fq, H' b = none) ∧ W1 j k H') (eq1 _ _ _) ?_ m1 ⟨0, H11, I11.weak (wipe_length _ _) (fun j v e => (wipe_some e).1), at11, fun b hb => (fq11 b hb).1, w11⟩
          rintro k s12 ⟨j, H12, I12, at12, none12, w12⟩
          rcases turn1 j k H12 w12 with ⟨stop1, nx1⟩ | ⟨go1, Nx1, next1, step1⟩
          · refine thnF (T1.done (X.blk s3 H3 scope ce fp) rfl rfl rfl calm j _ s12 (wipe σ8 vs1) H12 (fun _ _ => False) I12 (still1 none12) at12 stop1) fun o s13 ⟨ho, I13⟩ => ?_
            subst ho
            exact back I13 (len8.trans (wipe_length σ8 vs1).symm) known9 nx1
          · refine thnF (T1.item (X.blk s3 H3 scope ce fp) rfl rfl rfl calm j _ s12 (wipe σ8 vs1) H12 (fun _ _ => False) I12 (still1 none12) at12 go1) fun o s13 ⟨u1, ho, h13⟩ => ?_
            subst ho
            refine thnF h13 fun _ s14 ⟨x1, H14, I14, r14, y14, at14, none14⟩ => ?_
            refine thnF (pg1.run _ s14 (wipe σ8 vs1) H14 x1 u1 _ (I14.pinned (still1 none14) (T1.obj _ _ at14)) r14 (step1 x1 H14 y14)) fun _ s15 ⟨σ15, H15, I15, w15, q15⟩ => ?_
            refine thnF (pt1.run _ s15 σ15 H15 _ I15 q15) fun b1 s16 ⟨H16, I16, q16⟩ => ?_
            have back1 : ∀ {s' : Shared} {H' : Hp}, Inv (X.blk s3 H3 scope ce fp) (([] ++ pinsAt fp s7.heap) ++ pinsAt fq s14.heap) σ15 H' s' → Nx1 H' →
                ∃ m, m < k ∧ ∃ j H', Inv (X.blk s3 H3 scope ce fp) ([] ++ pinsAt fp s7.heap) (wipe σ8 vs1) H' s' ∧ tm j s'.heap ∧ (∀ b ∈ fq, H' b = none) ∧ W1 j m H' := fun {s' H'} I' nx => by
              obtain ⟨m', lt, w'⟩ := next1 H' nx
              have pin : ∀ b ∈ fq, ∀ u, s14.heap.get? b = some u → s'.heap.get? b = some u ∧ H' b = none := fun b hb u e => by
                have z := I'.pin (b, u) (List.mem_append_right _ (List.mem_append_right _ (mem_pinsAt hb e)))
                exact ⟨z.1, z.2.1⟩
              have same15 : (wipe σ8 vs1).length = σ15.length := by rw [← w15, wipe_length]
              have known15 : ∀ (j : Nat) (v : V), (wipe σ8 vs1)[j]? = some (some v) → σ15[j]? = some (some v) := fun j v e => by
                rw [← w15] at e
                exact (wipe_some e).1
              refine ⟨m', lt, j + 1, H', I'.unpinned.weak same15 known15, T1.keep _ _ _ at14 fun b hb u e => (pin b hb u e).1, fun b hb => ?_, w'⟩
              obtain ⟨u, e, _⟩ := T1.obj _ _ at14 b hb
              exact (pin b hb u e).2
            match b1, q16 with
            | false, q16 => exact back1 I16 (by simpa using q16)
            | true, q16 =>
              have q16 : tb D σ15 H16 Nx1 := by simpa using q16
              exact thnF (pb.run _ s16 σ15 H16 _ I16 q16) fun _ s17 ⟨H17, I17, nx⟩ => back1 I17 nx
        exact start_in pc hcl1 run1 (T1.self X.A 0 _ _ _ at11 run1)
  exact start_in pc (by rw [hcl]; rfl) run (T.self X.A 0 _ _ _ at4 run)
end
end KX

namespace KX
open PySem PySem.Spec PyProof.Rows L2
/-! ### dict and set comprehensions, dict(d), len of sets of keys -/
section
variable {X : Cx}
theorem d_put2 {pins : List (Addr × Obj)} {σ : L2.St} {H H' : Hp} {s : Shared} {E : Value → Shared → Prop} {a : Addr} {y v : V} {u r : Value} {A : Around} {Q : Unit → Shared → Prop} (hu : A.units < cLine) (I : Inv X pins σ H s) (g : DPut H a y v H') (ry : RelV y u) (rv : RelV v r)
    (h : ∀ s', Inv X pins σ H' s' → Q () s') : wpAny (model X.prog X.w) A (dictSet a u r) Q E s := by
  rcases g with ⟨kvs, k, e, rfl, l, rfl⟩ | ⟨kvs, k, b, e, rfl, eb, l, rfl⟩
  · obtain ⟨z, hd, vs, rel, dd⟩ := dk_of I.hok e
    have lv : vs.length ≤ sizeLine := by rw [← rel.length]; exact z
    have l2 : (putK kvs k v).length ≤ sizeLine := by have := length_putK kvs k v; omega
    refine wpAny_dictSet_pairs (hsz := lv) (kV_is ry) dd fun h' dd' hs => h _ ?_
    obtain ⟨q, es, ep, hq, rest⟩ := id dd'
    exact d_write I (by rw [e]; exact True.intro) hs ⟨q, hq⟩ (dk_new l2 hd (rel.put k rv) dd')
  · cases (show u = Value.ref b from ry)
    obtain ⟨z, hd, xs, rel, dd⟩ := dt_of I.hok e
    have lx : xs.length ≤ sizeLine := by rw [← Paired.length rel]; exact z
    have l2 : (putK kvs k v).length ≤ sizeLine := by have := length_putK kvs k v; omega
    refine wpAny_dictSet_heap (knd := tupleKind (mixKind X.prog X.w)) (hsz := lx) hu (key_of I.hok eb) dd fun h' dd' hs => h _ ?_
    obtain ⟨q, es, ep, hq, h2, h3, h4, _, h5⟩ := dd'
    refine d_write I (by rw [e]; exact True.intro) hs ⟨q, hq⟩ ⟨l2, hd, _, (rel.put k eb rv).keeps fun c ys ec => ?_, q, es, ep, hq, h2, h3, h4, h5⟩
    rw [upd_ne (ne_of ec e (fun z => nomatch z))]
    exact ec
def tbD (tk tv : TE) : Addr → TB := fun D σ H N => tk σ H fun y H1 => tv σ H1 fun z H2 => ∃ H3, DPut H2 D y z H3 ∧ N H3
theorem pb_dict {kx vx : Expr} {tk tv : TE} {D : Addr} (hu : X.A.units < cLine) (hk : PE X kx tk) (he : PE X vx tv) : PB X (bodyD kx vx D X.env) (tbD tk tv D) := by
  refine ⟨fun pins s σ H N I h => ?_⟩
  unfold bodyD
  refine wpAny_bind (thn (hk.run pins s σ H _ I h) fun u s1 ⟨y, H1, I1, r1, h1⟩ => ?_)
  refine wpAny_bind (wpAny_holding (thn (he.run pins s1 σ H1 _ I1 h1) fun v s2 ⟨z, H2, I2, r2, H3, g, n⟩ => ?_))
  exact wpAny_bind (wpAny_standAt (wpAny_holding (d_put2 hu I2 g r1 r2 fun s3 I3 => ⟨H3, I3, n⟩)))
def uD (tup : Bool) : Addr → HO := fun _ => if tup = true then .dT [] else .dK []
theorem lays_uD (tup : Bool) : Lays X newDict (uD tup) := lays_dict _ fun P w H hp hb => by
  cases tup
  · exact dk_empty hp hb
  · exact dt_empty hp hb
theorem pe_dcG {kx vx tg iter : Expr} {ifs : List Expr} {scope : Scope} {own : List (Str × Nat)} {pos : Pos} {wi : TI} {g : TG} {tt : TT} {tk tv : TE} (tup : Bool) (hu : X.A.units < cLine) (hc : X.calm = true) (hN : X.N.Nodup) (hi : PI X tg iter wi) (ok : BlkOk X.N X.env.scope scope own)
    (hg : ∀ (t : Shared) (G : Hp) (L : Addr) (cl : List (Str × Addr)) (fp : List Addr), PG (X.blk t G scope (compEnvC scope cl L X.env) fp) tg g)
    (ht : ∀ (t : Shared) (G : Hp) (L : Addr) (cl : List (Str × Addr)) (fp : List Addr), PTs (X.blk t G scope (compEnvC scope cl L X.env) fp) ifs tt)
    (hk : ∀ (t : Shared) (G : Hp) (L : Addr) (cl : List (Str × Addr)) (fp : List Addr), PE (X.blk t G scope (compEnvC scope cl L X.env) fp) kx tk)
    (he : ∀ (t : Shared) (G : Hp) (L : Addr) (cl : List (Str × Addr)) (fp : List Addr), PE (X.blk t G scope (compEnvC scope cl L X.env) fp) vx tv) (fold : ∀ x, foldedSetIterable iter X.env x = pure x := by intro _; rfl) :
    PE X (.DictComp kx vx [⟨tg, iter, ifs, 0⟩] scope pos) (tCc (uD tup) wi g tt (tbD tk tv) (own.map (·.2))) := by
  refine ⟨fun pins s σ H Q I h => ?_⟩
  rw [arm_eval_DictComp]
  refine cc_core (use := none) (gs := []) plain_dict rfl (fun it D env => turn1_dict) (lays_uD tup) hc hN I hi ok fold hg ht (fun t G L cl fp D => pb_dict (X := X.blk t G scope (compEnvC scope cl L X.env) fp) hu (hk t G L cl fp) (he t G L cl fp)) h fun D L s' m H' I' q names f => ⟨m, names, fun h'' sb => ?_⟩
  exact ⟨.ref D, H', I'.turned (t' := s'.toks) (fun b o hb e => (sb.2 b hb).trans e) f.1 f.2.1 f.2.2.2.1 f.2.2.2.2.1 f.2.2.2.2.2, rfl, q⟩
theorem pe_dc2G {kx vx tg iter tg1 iter1 : Expr} {ifs ifs1 : List Expr} {scope : Scope} {own : List (Str × Nat)} {vs1 : List Nat} {pos : Pos} {wi wi1 : TI} {g g1 : TG} {tt tt1 : TT} {tk tv : TE} (tup : Bool) (hu : X.A.units < cLine) (hc : X.calm = true) (hN : X.N.Nodup) (hi : PI X tg iter wi) (ok : BlkOk X.N X.env.scope scope own)
    (inner : ∀ i ∈ vs1, i ∈ own.map (·.2))
    (hg : ∀ (t : Shared) (G : Hp) (L : Addr) (cl : List (Str × Addr)) (fp : List Addr), PG (X.blk t G scope (compEnvC scope cl L X.env) fp) tg g)
    (ht : ∀ (t : Shared) (G : Hp) (L : Addr) (cl : List (Str × Addr)) (fp : List Addr), PTs (X.blk t G scope (compEnvC scope cl L X.env) fp) ifs tt)
    (hi1 : ∀ (t : Shared) (G : Hp) (L : Addr) (cl : List (Str × Addr)) (fp : List Addr), PI (X.blk t G scope (compEnvC scope cl L X.env) fp) tg1 iter1 wi1)
    (hg1 : ∀ (t : Shared) (G : Hp) (L : Addr) (cl : List (Str × Addr)) (fp : List Addr), PG (X.blk t G scope (compEnvC scope cl L X.env) fp) tg1 g1)
    (ht1 : ∀ (t : Shared) (G : Hp) (L : Addr) (cl : List (Str × Addr)) (fp : List Addr), PTs (X.blk t G scope (compEnvC scope cl L X.env) fp) ifs1 tt1)
    (hk : ∀ (t : Shared) (G : Hp) (L : Addr) (cl : List (Str × Addr)) (fp : List Addr), PE (X.blk t G scope (compEnvC scope cl L X.env) fp) kx tk)
    (he : ∀ (t : Shared) (G : Hp) (L : Addr) (cl : List (Str × Addr)) (fp : List Addr), PE (X.blk t G scope (compEnvC scope cl L X.env) fp) vx tv) (fold : ∀ x, foldedSetIterable iter X.env x = pure x := by intro _; rfl) (fold1 : ∀ env x, foldedSetIterable iter1 env x = pure x := by intro _ _; rfl) :
    PE X (.DictComp kx vx [⟨tg, iter, ifs, 0⟩, ⟨tg1, iter1, ifs1, 0⟩] scope pos) (tCc2 (uD tup) wi g tt wi1 g1 tt1 (tbD tk tv) (own.map (·.2)) vs1) := by
  refine ⟨fun pins s σ H Q I h => ?_⟩
  rw [arm_eval_DictComp]
  refine cc2_core (use := none) (gs := [⟨tg1, iter1, ifs1, 0⟩]) plain_dict rfl rfl (fun it D env => turn2_dict_out) (fun it D env => turn2_dict_in) (lays_uD tup) hc hN I hi ok fold fold1 inner hg ht hi1 hg1 ht1 (fun t G L cl fp D => pb_dict (X := X.blk t G scope (compEnvC scope cl L X.env) fp) hu (hk t G L cl fp) (he t G L cl fp)) h fun D L s' m H' I' q names f => ⟨m, names, fun h'' sb => ?_⟩
  exact ⟨.ref D, H', I'.turned (t' := s'.toks) (fun b o hb e => (sb.2 b hb).trans e) f.1 f.2.1 f.2.2.2.1 f.2.2.2.2.1 f.2.2.2.2.2, rfl, q⟩
/-! sets of keys -/
def tbS (P : Program) (w : World) (te : TE) : Addr → TB := fun D σ H N => te σ H fun y H1 => ∃ (k : Key) (S : Key → Bool) (n : Nat), y = kV k ∧ H1 D = some (SetK P w D S n) ∧ n + 1 < scanBound ∧ N (upd H1 D (SetK P w D (fun j => S j || decide (j = k)) (if S k = true then n else n + 1)))
theorem pb_set {elt : Expr} {te : TE} {D : Addr} (he : PE X elt te) : PB X (bodyS elt D X.env) (tbS X.prog X.w te D) := by
  refine ⟨fun pins s σ H N I h => ?_⟩
  unfold bodyS
  refine wpAny_bind (thn (he.run pins s σ H _ I h) fun u s1 ⟨y, H1, I1, r1, k, S, n, e, hS, lt, nx⟩ => wpAny_bind (wpAny_standAt ?_))
  subst e
  refine wpAny_bind (thn (mt_saddK pins s1 σ H1 (.ref D) [kV k] (.ref D) [u] (fun _ H' => N H') I1 rfl (.cons r1 .nil) ⟨D, k, S, n, rfl, rfl, hS, lt, nx⟩) fun v s2 ⟨z, H2, I2, _, nx2⟩ => ?_)
  exact wpAny_pure ⟨H2, I2, nx2⟩
theorem lays_set : Lays X (newSet (.type "set")) fun D => SetK X.prog X.w D (fun _ => false) 0 := by
  intro pins s σ H Q E I k
  refine PpSet.newSet_ok (k _ ?_)
  refine I.laid (t' := s.toks) (fun b o e => Heap.get?_push_of_some _ e) (Nat.le_refl _) (setK_new ?_)
  exact ⟨_, #[], 0, _, Heap.get?_push_size _ rfl, ⟨rfl, rfl, rfl⟩, rfl, fun e he => by simp at he, fun k => by simp, by decide, by rfl, rfl⟩
theorem pe_scK {elt tg iter : Expr} {ifs : List Expr} {scope : Scope} {own : List (Str × Nat)} {pos : Pos} {wi : TI} {g : TG} {tt : TT} {te : TE} (hc : X.calm = true) (hN : X.N.Nodup) (hi : PI X tg iter wi) (ok : BlkOk X.N X.env.scope scope own)
    (hg : ∀ (t : Shared) (G : Hp) (L : Addr) (cl : List (Str × Addr)) (fp : List Addr), PG (X.blk t G scope (compEnvC scope cl L X.env) fp) tg g)
    (ht : ∀ (t : Shared) (G : Hp) (L : Addr) (cl : List (Str × Addr)) (fp : List Addr), PTs (X.blk t G scope (compEnvC scope cl L X.env) fp) ifs tt)
    (he : ∀ (t : Shared) (G : Hp) (L : Addr) (cl : List (Str × Addr)) (fp : List Addr), PE (X.blk t G scope (compEnvC scope cl L X.env) fp) elt te) (fold : ∀ x, foldedSetIterable iter X.env x = pure x := by intro _; rfl) :
    PE X (.SetComp elt [⟨tg, iter, ifs, 0⟩] scope pos) (tCc (fun D => SetK X.prog X.w D (fun _ => false) 0) wi g tt (tbS X.prog X.w te) (own.map (·.2))) := by
  refine ⟨fun pins s σ H Q I h => ?_⟩
  rw [arm_eval_SetComp]
  refine cc_core (use := none) (gs := []) plain_set rfl (fun it D env => turn1_set) lays_set hc hN I hi ok fold hg ht (fun t G L cl fp D => pb_set (X := X.blk t G scope (compEnvC scope cl L X.env) fp) (he t G L cl fp)) h fun D L s' m H' I' q names f => ⟨m, names, fun h'' sb => ?_⟩
  exact ⟨.ref D, H', I'.turned (t' := s'.toks) (fun b o hb e => (sb.2 b hb).trans e) f.1 f.2.1 f.2.2.2.1 f.2.2.2.2.1 f.2.2.2.2.2, rfl, q⟩
def rLenK (P : Program) (w : World) : List V → Hp → VK → Prop := fun xs H Q => ∃ (a : Addr) (S : Key → Bool) (n : Nat), xs = [.ref a] ∧ H a = some (SetK P w a S n) ∧ Q (.int n) H
theorem call_lenK : CallR X (.builtin "len") (rLenK X.prog X.w) := by
  intro pins s σ H xs us Q I r ⟨a, S, n, e, hS, q⟩
  subst e
  obtain ⟨u, rfl, rx⟩ := vals1 r
  cases rx
  obtain ⟨o, es, ep, t, ho, hex, hd, _, _, hb, hf, hn⟩ := setK_get I hS
  have hb' : es.size < 4096 := hb
  exact call_len_set ho hex hd hf (by omega) ⟨.int n, H, I.tok _, ⟨_, by rw [hn]⟩, q⟩
end
end KX

namespace KX
open PySem PySem.Spec PyProof.Rows L2
/-! ### zip of a tuple and a list -/
section
variable {prog : Program} {w : World} {A : Around} {E : Value → Shared → Prop} {s : Shared}
theorem zmnext {z TI TO i1 i2 l1 l2 : Addr} {f0 : Value} {f1 : Bool} {k1 k2 : Nat} {xs ys : Array Value} {x y a b : Value} {Q : Value → Shared → Prop} (D : ZipApart z TI TO i1 i2 l1 l2)
    (hfree : ∀ {Q : Bool → Shared → Prop}, Q true s → wpAny (model prog w) A (Builtin.SmallTypes.ownedTupleIsFree (.ref z)) Q E s) (hz : ZipO s.heap z TI TO f0 f1) (hTI : IsPair s.heap TI (.ref i1) (.ref i2)) (hTO : IsPair s.heap TO a b)
    (h1 : s.heap.IsTupleIter i1 l1 k1) (h2 : s.heap.IsListIter i2 l2 k2) (hl1 : s.heap.IsTuple l1 xs) (hl2 : s.heap.IsList l2 ys) (hx : xs[k1]? = some x) (hy : ys[k2]? = some y)
    (hQ : ∀ h', ZipO h' z TI TO (rawInt s.heap.objs.size) false → IsPair h' TO x y → h'.IsTupleIter i1 l1 (k1 + 1) → h'.IsListIter i2 l2 (k2 + 1) → IsPair h' s.heap.objs.size x y → h'.objs.size = s.heap.objs.size + 1 →
      (∀ c o, c ≠ z → c ≠ TO → c ≠ i1 → c ≠ i2 → s.heap.get? c = some o → h'.get? c = some o) → Q (.ref s.heap.objs.size) { s with heap := h' }) :
    wpAny (model prog w) A (Builtin.«zip.__next__» ⟨[.ref z], []⟩) (fun fin s' => ∃ v, fin = .done (.ret v) ∧ Q v s') E s := by
  show wpAny _ _ (field (.ref z) 2 >>= _) _ _ _
  refine wpAny_bind (wpAny_field hz rfl (x := .bool false) rfl ?_)
  show wpAny _ _ (field (.ref z) 3 >>= _) _ _ _
  refine wpAny_bind (wpAny_field hz rfl (x := .ref TI) rfl ?_)
  refine wpAny_bind (wpAny_seqItems hTI rfl ?_)
  show wpAny _ _ (Builtin.SmallTypes.ownedTupleIsFree (.ref z) >>= _) _ _ _
  refine wpAny_bind (hfree ?_)
  simp only [if_true]
  refine wpAny_bind (wpAny_rule (wpAny_bind (wpAny_field hz rfl (x := .ref TO) rfl (wpAny_bind (wpAny_setField_rec hz (by simp) fun g1 z1 s1 => ?_)))))
  replace z1 : ZipO g1 z TI TO .ellipsis f1 := z1
  refine wpAny_bind ?_
  simp only [List.zipIdx_cons, List.zipIdx_nil, List.forIn_cons, List.forIn_nil]
  refine wpAny_bind (wpAny_bind (wpAny_onRaise ?_))
  show wpAny _ _ (Builtin.SmallTypes.nextOf (.ref i1) >>= _) _ _ _
  refine wpAny_bind (RZ.nextOf_tuple_item (h1.extBut s1.extBut D.i1z) (hl1.extBut s1.extBut D.l1z) hx fun g2 a2 s2 => wpAny_pure ?_)
  have p2 : IsPair g2 TO a b := s2.extBut _ _ D.TOi1 (s1.extBut _ _ D.TOz hTO)
  refine wpAny_bind (wpAny_seqItems p2 rfl (wpAny_bind (wpAny_updateSeq_pair p2 fun g3 p3 s3 => ?_)))
  replace p3 : IsPair g3 TO x b := p3
  refine wpAny_bind (wpAny_letGo (wpAny_pure ?_))
  refine wpAny_bind (wpAny_bind (wpAny_onRaise ?_))
  show wpAny _ _ (Builtin.SmallTypes.nextOf (.ref i2) >>= _) _ _ _
  refine wpAny_bind (wpAny_nextOf_list_item (((h2.extBut s1.extBut D.i2z).extBut s2.extBut D.i12.symm).extBut s3.extBut D.TOi2.symm) (((hl2.extBut s1.extBut D.l2z).extBut s2.extBut D.l2i1).extBut s3.extBut D.l2TO) hy fun g4 a4 s4 => wpAny_pure ?_)
  have p4 : IsPair g4 TO x b := s4.extBut _ _ D.TOi2 p3
  refine wpAny_bind (wpAny_seqItems p4 rfl (wpAny_bind (wpAny_updateSeq_pair p4 fun g5 p5 s5 => ?_)))
  replace p5 : IsPair g5 TO x y := p5
  refine wpAny_bind (wpAny_letGo (wpAny_pure (wpAny_pure ?_)))
  refine wpAny_bind (wpAny_seqItems p5 rfl (wpAny_bind (wpAny_newTuple ?_)))
  have sz : g5.objs.size = s.heap.objs.size := by rw [s5.1, s4.1, s3.1, s2.1, s1.1]
  have z5 : ZipO g5 z TI TO .ellipsis f1 := s5.extBut _ _ D.TOz.symm (s4.extBut _ _ D.i2z.symm (s3.extBut _ _ D.TOz.symm (s2.extBut _ _ D.i1z.symm z1)))
  have k5 : ∀ c o, c ≠ z → c ≠ TO → c ≠ i1 → c ≠ i2 → s.heap.get? c = some o → g5.get? c = some o := fun c o c1 c2 c3 c4 e =>
    s5.extBut _ _ c2 (s4.extBut _ _ c4 (s3.extBut _ _ c2 (s2.extBut _ _ c3 (s1.extBut _ _ c1 e))))
  have a5 : g5.IsTupleIter i1 l1 (k1 + 1) := ((a2.extBut s3.extBut D.TOi1.symm).extBut s4.extBut D.i12).extBut s5.extBut D.TOi1.symm
  have b5 : g5.IsListIter i2 l2 (k2 + 1) := a4.extBut s5.extBut D.TOi2.symm
  have zlt : z < g5.objs.size := Heap.lt_size z5
  show wpAny _ _ (Builtin.SmallTypes.ownedTupleHandOut (.ref z) (.ref g5.objs.size) >>= _) _ _ _
  refine wpAny_bind ?_
  unfold Builtin.SmallTypes.ownedTupleHandOut
  have z6 : ZipO (g5.push { cls := .type "tuple", data := .seq #[x, y] }) z TI TO .ellipsis f1 := Heap.get?_push_of_some _ z5
  refine wpAny_bind (wpAny_setField_rec z6 (by simp) fun g7 z7 s7 => ?_)
  replace z7 : ZipO g7 z TI TO (rawInt g5.objs.size) f1 := z7
  refine wpAny_setField_rec z7 (by simp) fun g8 z8 s8 => ?_
  replace z8 : ZipO g8 z TI TO (rawInt g5.objs.size) false := z8
  have up : ∀ c o, c ≠ z → g5.get? c = some o → g8.get? c = some o := fun c o c1 e => s8.extBut _ _ c1 (s7.extBut _ _ c1 (Heap.get?_push_of_some _ e))
  have T8 : IsPair g8 g5.objs.size x y := s8.extBut _ _ (Nat.ne_of_gt zlt) (s7.extBut _ _ (Nat.ne_of_gt zlt) (Heap.get?_push_size _ rfl))
  have sz8 : g8.objs.size = g5.objs.size + 1 := by rw [s8.1, s7.1, Heap.size_push]
  rw [sz] at z8 T8 sz8
  refine wpAny_pure ⟨_, rfl, ?_⟩
  show Q (.ref g5.objs.size) _
  rw [sz]
  exact hQ g8 z8 (up _ _ D.TOz p5) (a5.at fun o e => up _ o D.i1z e) (b5.at fun o e => up _ o D.i2z e) T8 sz8 fun c o c1 c2 c3 c4 e => up c o c1 (k5 c o c1 c2 c3 c4 e)
theorem zmend {z TI TO i1 i2 l1 l2 : Addr} {f0 : Value} {f1 : Bool} {k1 k2 : Nat} {xs ys : Array Value} {a b : Value} {Q : Fin → Shared → Prop} (hh : A.handled = none) (D : ZipApart z TI TO i1 i2 l1 l2)
    (hfree : ∀ {Q : Bool → Shared → Prop}, Q true s → wpAny (model prog w) A (Builtin.SmallTypes.ownedTupleIsFree (.ref z)) Q E s) (hz : ZipO s.heap z TI TO f0 f1) (hTI : IsPair s.heap TI (.ref i1) (.ref i2)) (hTO : IsPair s.heap TO a b)
    (h1 : s.heap.IsTupleIter i1 l1 k1) (h2 : s.heap.IsListIter i2 l2 k2) (hl1 : s.heap.IsTuple l1 xs) (hl2 : s.heap.IsList l2 ys) (hend : xs[k1]? = none ∨ ys[k2]? = none)
    (hE : ∀ h' e, (∀ c o, c ≠ z → c ≠ TO → c ≠ i1 → c ≠ i2 → s.heap.get? c = some o → h'.get? c = some o) → (∃ o, h'.get? e = some o ∧ o.cls = .type "StopIteration") → E (.ref e) { s with heap := h' }) :
    wpAny (model prog w) A (Builtin.«zip.__next__» ⟨[.ref z], []⟩) Q E s := by
  show wpAny _ _ (field (.ref z) 2 >>= _) _ _ _
  refine wpAny_bind (wpAny_field hz rfl (x := .bool false) rfl ?_)
  show wpAny _ _ (field (.ref z) 3 >>= _) _ _ _
  refine wpAny_bind (wpAny_field hz rfl (x := .ref TI) rfl ?_)
  refine wpAny_bind (wpAny_seqItems hTI rfl ?_)
  show wpAny _ _ (Builtin.SmallTypes.ownedTupleIsFree (.ref z) >>= _) _ _ _
  refine wpAny_bind (hfree ?_)
  simp only [if_true]
  refine wpAny_bind (wpAny_rule (wpAny_bind (wpAny_field hz rfl (x := .ref TO) rfl (wpAny_bind (wpAny_setField_rec hz (by simp) fun g1 z1 s1 => ?_)))))
  replace z1 : ZipO g1 z TI TO .ellipsis f1 := z1
  refine wpAny_bind ?_
  simp only [List.zipIdx_cons, List.zipIdx_nil, List.forIn_cons, List.forIn_nil]
  refine wpAny_bind (wpAny_bind (wpAny_onRaise ?_))
  show wpAny _ _ (Builtin.SmallTypes.nextOf (.ref i1) >>= _) _ _ _
  cases hx : xs[k1]? with
  | none =>
    refine wpAny_bind (RZ.nextOf_tuple_end hh (h1.extBut s1.extBut D.i1z) (hl1.extBut s1.extBut D.l1z) hx fun g2 e s2 he => ?_)
    obtain ⟨oe, hoe, hce⟩ := he
    have z2 : ZipO g2 z TI TO .ellipsis f1 := s2 _ _ D.i1z.symm z1
    have ez : e ≠ z := fun q => by subst q; rw [z2] at hoe; cases hoe; simp at hce
    exact wpAny_setField_rec z2 (by simp) fun g3 _ s3 => hE g3 e (fun c o c1 _ c3 _ q => s3.extBut _ _ c1 (s2 _ _ c3 (s1.extBut _ _ c1 q))) ⟨oe, s3.extBut _ _ ez hoe, hce⟩
  | some x =>
    have hy : ys[k2]? = none := by rcases hend with h | h; rw [hx] at h; cases h; exact h
    refine wpAny_bind (RZ.nextOf_tuple_item (h1.extBut s1.extBut D.i1z) (hl1.extBut s1.extBut D.l1z) hx fun g2 a2 s2 => wpAny_pure ?_)
    have p2 : IsPair g2 TO a b := s2.extBut _ _ D.TOi1 (s1.extBut _ _ D.TOz hTO)
    refine wpAny_bind (wpAny_seqItems p2 rfl (wpAny_bind (wpAny_updateSeq_pair p2 fun g3 p3 s3 => ?_)))
    refine wpAny_bind (wpAny_letGo (wpAny_pure ?_))
    refine wpAny_bind (wpAny_bind (wpAny_onRaise ?_))
    show wpAny _ _ (Builtin.SmallTypes.nextOf (.ref i2) >>= _) _ _ _
    refine wpAny_bind (wpAny_nextOf_list_end hh (((h2.extBut s1.extBut D.i2z).extBut s2.extBut D.i12.symm).extBut s3.extBut D.TOi2.symm) (((hl2.extBut s1.extBut D.l2z).extBut s2.extBut D.l2i1).extBut s3.extBut D.l2TO) hy fun g4 e s4 he => ?_)
    obtain ⟨oe, hoe, hce⟩ := he
    have z4 : ZipO g4 z TI TO .ellipsis f1 := s4 _ _ D.i2z.symm (s3.extBut _ _ D.TOz.symm (s2.extBut _ _ D.i1z.symm z1))
    have ez : e ≠ z := fun q => by subst q; rw [z4] at hoe; cases hoe; simp at hce
    exact wpAny_setField_rec z4 (by simp) fun g5 _ s5 => hE g5 e (fun c o c1 c2 c3 c4 q => s5.extBut _ _ c1 (s4 _ _ c4 (s3.extBut _ _ c2 (s2.extBut _ _ c3 (s1.extBut _ _ c1 q))))) ⟨oe, s5.extBut _ _ ez hoe, hce⟩
end
section
variable {prog : Program} {w : World} {A : Around} {E : Value → Shared → Prop} {s : Shared}
theorem zmpy_item {z TI TO i1 i2 l1 l2 : Addr} {k1 k2 : Nat} {xs ys : Array Value} {x y a b : Value} {Q : Option Value → Shared → Prop} (D : ZipApart z TI TO i1 i2 l1 l2)
    (hz : IsZip s.heap z TI TO .none) (hTI : IsPair s.heap TI (.ref i1) (.ref i2)) (hTO : IsPair s.heap TO a b)
    (h1 : s.heap.IsTupleIter i1 l1 k1) (h2 : s.heap.IsListIter i2 l2 k2) (hl1 : s.heap.IsTuple l1 xs) (hl2 : s.heap.IsList l2 ys) (hx : xs[k1]? = some x) (hy : ys[k2]? = some y)
    (hQ : ∀ h', IsZip h' z TI TO (rawInt s.heap.objs.size) → IsPair h' TO x y → h'.IsTupleIter i1 l1 (k1 + 1) → h'.IsListIter i2 l2 (k2 + 1) → IsPair h' s.heap.objs.size x y → h'.objs.size = s.heap.objs.size + 1 →
      (∀ c o, c ≠ z → c ≠ TO → c ≠ i1 → c ≠ i2 → s.heap.get? c = some o → h'.get? c = some o) → Q (some (.ref s.heap.objs.size)) { s with heap := h' }) :
    wpAny (model prog w) A (pyNext (.ref z)) Q E s := by
  have hT : s.TypeIs (.ref z) "zip" := ⟨_, hz, rfl⟩
  unfold pyNext
  exact wpAny_bind (wpAny_attempt (wpAny_callSpecial?_slot (name := Str.ofString "__next__") hT F.slot_zip_next
    (wpAny_call_entry F.slot_zip_next hT F.entry_zip_next
      (zmnext D (fun h => free_none hz h) hz hTI hTO h1 h2 hl1 hl2 hx hy fun h' a1 a2 a3 a4 a5 a6 a7 => wpAny_pure (hQ h' a1 a2 a3 a4 a5 a6 a7)) (F.args_zip_next_1 _))))
theorem zmpy_end {z TI TO i1 i2 l1 l2 : Addr} {k1 k2 : Nat} {xs ys : Array Value} {a b : Value} {Q : Option Value → Shared → Prop} (hh : A.handled = none) (D : ZipApart z TI TO i1 i2 l1 l2)
    (hz : IsZip s.heap z TI TO .none) (hTI : IsPair s.heap TI (.ref i1) (.ref i2)) (hTO : IsPair s.heap TO a b)
    (h1 : s.heap.IsTupleIter i1 l1 k1) (h2 : s.heap.IsListIter i2 l2 k2) (hl1 : s.heap.IsTuple l1 xs) (hl2 : s.heap.IsList l2 ys) (hend : xs[k1]? = none ∨ ys[k2]? = none)
    (hQ : ∀ h', (∀ c o, c ≠ z → c ≠ TO → c ≠ i1 → c ≠ i2 → s.heap.get? c = some o → h'.get? c = some o) → Q none { s with heap := h' }) : wpAny (model prog w) A (pyNext (.ref z)) Q E s := by
  have hT : s.TypeIs (.ref z) "zip" := ⟨_, hz, rfl⟩
  unfold pyNext
  refine wpAny_bind (wpAny_attempt (wpAny_callSpecial?_slot (name := Str.ofString "__next__") hT F.slot_zip_next
    (wpAny_call_entry F.slot_zip_next hT F.entry_zip_next (zmend hh D (fun h => free_none hz h) hz hTI hTO h1 h2 hl1 hl2 hend fun h' e hk he => ?_) (F.args_zip_next_1 _))))
  obtain ⟨o, ho, hc⟩ := he
  exact wpAny_bind (wpAny_isInstance (T := "StopIteration") (b := true) ⟨o, ho, hc⟩ isSubtype_stop (wpAny_pure (hQ _ hk)))
end
abbrev zmH1 (h : Heap) (l1 : Addr) : Heap := h.push { cls := .type "tuple_iterator", data := .fields #[.ref l1, .int 0 0] }
abbrev zmH2 (h : Heap) (l1 l2 : Addr) : Heap := (zmH1 h l1).push { cls := .type "list_iterator", data := .fields #[.ref l2, .int 0 0] }
abbrev zmH3 (h : Heap) (l1 l2 : Addr) : Heap := (zmH2 h l1 l2).push { cls := .type "tuple", data := .seq #[.ref h.objs.size, .ref (zmH1 h l1).objs.size] }
abbrev zmH4 (h : Heap) (l1 l2 : Addr) : Heap := (zmH3 h l1 l2).push { cls := .type "tuple", data := .seq #[.none, .none] }
abbrev zmH5 (h : Heap) (l1 l2 : Addr) : Heap := (zmH4 h l1 l2).push { cls := .type "zip", data := .fields #[.none, .bool false, .bool false, .ref (zmH2 h l1 l2).objs.size, .ref (zmH3 h l1 l2).objs.size] }
theorem meets_zm (l1 l2 : Addr) (xs ys : Array Value) :
    Meets (Builtin.«zip.__new__» ⟨[.type "zip", .ref l1, .ref l2], []⟩) (fun _ R s => s.heap.IsTuple l1 xs ∧ s.heap.IsList l2 ys ∧
      R (.ok (.ret (.ref (zmH4 s.heap l1 l2).objs.size))) { s with heap := zmH5 s.heap l1 l2 }) :=
  .of_wp fun prog w A R s h => by
    obtain ⟨hp, g, d, tk, os⟩ := s; obtain ⟨hl1, hl2, h⟩ := h
    have hsub := sub_zip
    have hL1 : Heap.IsTuple (Shared.heap ⟨hp, g, d, tk, os⟩) l1 xs := hl1
    have hL2 : Heap.IsList (Shared.heap ⟨hp.push { cls := .type "tuple_iterator", data := .fields #[.ref l1, .int 0 0] }, g, d, tk, os⟩) l2 ys := Heap.IsList.push hl2 _
    wp_walk using wpAny_pyIter_tuple hL1, wpAny_pyIter_list hL2
    exact ⟨_, rfl, h⟩
section
variable {prog : Program} {w : World} {A : Around} {E : Value → Shared → Prop} {s : Shared}
theorem call_zm {l1 l2 : Addr} {xs ys : Array Value} {Q : Value → Shared → Prop} (hl1 : s.heap.IsTuple l1 xs) (hl2 : s.heap.IsList l2 ys)
    (h : ∀ h', IsZip h' (s.heap.objs.size + 4) (s.heap.objs.size + 2) (s.heap.objs.size + 3) .none → IsPair h' (s.heap.objs.size + 2) (.ref s.heap.objs.size) (.ref (s.heap.objs.size + 1)) →
      IsPair h' (s.heap.objs.size + 3) .none .none → h'.IsTupleIter s.heap.objs.size l1 0 → h'.IsListIter (s.heap.objs.size + 1) l2 0 → h'.objs.size = s.heap.objs.size + 5 →
      (∀ c o, s.heap.get? c = some o → h'.get? c = some o) → Q (.ref (s.heap.objs.size + 4)) { s with heap := h' }) :
    wpAny (model prog w) A (call (.type "zip") [.ref l1, .ref l2]) Q E s := by
  refine callType_new F.called_zip (by decide) (F.typeCall_zip_2 _ _) (F.newCall_zip_2 _ _) (fun obj => F.args_object_init_3 obj _ _) F.entry_zip_new
    (meets_zm l1 l2 xs ys) ⟨hl1, hl2, ?_⟩
  have z1 : (zmH1 s.heap l1).objs.size = s.heap.objs.size + 1 := Heap.size_push ..
  have z2 : (zmH2 s.heap l1 l2).objs.size = s.heap.objs.size + 2 := by rw [Heap.size_push, z1]
  have z3 : (zmH3 s.heap l1 l2).objs.size = s.heap.objs.size + 3 := by rw [Heap.size_push, z2]
  have z4 : (zmH4 s.heap l1 l2).objs.size = s.heap.objs.size + 4 := by rw [Heap.size_push, z3]
  have z5 : (zmH5 s.heap l1 l2).objs.size = s.heap.objs.size + 5 := by rw [Heap.size_push, z4]
  have p1 : ∀ {h : Heap} {o u : Obj} {c : Addr}, h.get? c = some u → (h.push o).get? c = some u := fun e => Heap.get?_push_of_some _ e
  have g5 : (zmH5 s.heap l1 l2).get? (zmH4 s.heap l1 l2).objs.size = some _ := Heap.get?_push_size _ rfl
  have g4 : (zmH5 s.heap l1 l2).get? (zmH3 s.heap l1 l2).objs.size = some _ := p1 (Heap.get?_push_size _ rfl)
  have g3 : (zmH5 s.heap l1 l2).get? (zmH2 s.heap l1 l2).objs.size = some _ := p1 (p1 (Heap.get?_push_size _ rfl))
  have g2 : (zmH5 s.heap l1 l2).get? (zmH1 s.heap l1).objs.size = some _ := p1 (p1 (p1 (Heap.get?_push_size _ rfl)))
  have g1 : (zmH5 s.heap l1 l2).get? s.heap.objs.size = some _ := p1 (p1 (p1 (p1 (Heap.get?_push_size _ rfl))))
  show _ ∧ _
  rw [z2, z3, z4] at g5
  rw [z1, z2] at g3
  rw [z3] at g4
  rw [z1] at g2
  rw [z4]
  exact ⟨⟨_, g5, rfl⟩, h _ g5 g3 g4 ⟨_, g1, rfl, rfl⟩ ⟨_, g2, rfl, rfl⟩ z5 fun c o x => p1 (p1 (p1 (p1 (p1 x))))⟩
end
/-- the tuple at a and the list at b -/
def Itzm (K : PySem.W.Frag) (a b : Addr) : It :=
  ⟨fun i H => ∃ (xs ys : List V) (x y : V), SqT K H a xs ∧ SqL K H b ys ∧ xs[i]? = some x ∧ ys[i]? = some y,
    fun i H v H' => ∃ T x y, v = .ref T ∧ H T = none ∧ H' = upd H T (.tup [x, y]) ∧ (∀ xs, SqT K H a xs → xs[i]? = some x) ∧ ∀ ys, SqL K H b ys → ys[i]? = some y,
    fun i H => ∃ xs ys : List V, SqT K H a xs ∧ SqL K H b ys ∧ (xs.length ≤ i ∨ ys.length ≤ i)⟩
theorem turn_zm {P : Program} {w : World} {K : PySem.W.Frag} {elts : List Expr} {kk : Nat} {tpos : Pos} {a b z TI TO i1 i2 : Addr} (D : ZipApart z TI TO i1 i2 a b) :
    Turn P w K (.Tuple elts kk tpos) (Itzm K a b) [z, TI, TO, i1, i2] z (fun i h => IsZip h z TI TO .none ∧ IsPair h TI (.ref i1) (.ref i2) ∧ (∃ x y, IsPair h TO x y) ∧ h.IsTupleIter i1 a i ∧ h.IsListIter i2 b i) where
  mem := by simp
  obj := fun i h st c hc => by
    obtain ⟨hz, hTI, ⟨x, y, hTO⟩, ⟨o1, e1, _, d1⟩, ⟨o2, e2, _, d2⟩⟩ := st
    have e' : c = z ∨ c = TI ∨ c = TO ∨ c = i1 ∨ c = i2 := by simpa using hc
    rcases e' with rfl | rfl | rfl | rfl | rfl
    · exact ⟨_, hz, fun v q => nomatch q⟩
    · exact ⟨_, hTI, fun v q => nomatch q⟩
    · exact ⟨_, hTO, fun v q => nomatch q⟩
    · exact ⟨o1, e1, fun v q => by rw [d1] at q; cases q⟩
    · exact ⟨o2, e2, fun v q => by rw [d2] at q; cases q⟩
  keep := fun i h h' st k => by
    obtain ⟨hz, hTI, ⟨x, y, hTO⟩, h1, h2⟩ := st
    exact ⟨k z (by simp) _ hz, k TI (by simp) _ hTI, ⟨x, y, k TO (by simp) _ hTO⟩, h1.at fun o q => k i1 (by simp) o q, h2.at fun o q => k i2 (by simp) o q⟩
  item := by
    intro X hP hw hK hc i pins s σ H E I hf st hg
    subst hP hw hK
    obtain ⟨hz, hTI, ⟨x0, y0, hTO⟩, h1, h2⟩ := st
    obtain ⟨xs, ys, x, y, hqx, hqy, hx, hy⟩ := hg
    obtain ⟨its, rv, p, _⟩ := I.tuple hqx
    obtain ⟨its2, rv2, p2, _⟩ := I.list hqy
    obtain ⟨u, hu, ru⟩ := rv.get hx
    obtain ⟨u2, hu2, ru2⟩ := rv2.get hy
    have hzl : z < s.heap.objs.size := Heap.lt_size hz
    refine zmpy_item D hz hTI hTO h1 h2 p p2.isList (x := u) (y := u2) (by simpa using hu) (by simpa using hu2) fun h' z' TO' h1' h2' hT hsz hk => ?_
    refine ⟨_, rfl, wpAny_letOwnedTupleGo_zip (s := { s with heap := h' }) z' fun h'' z'' sb => ?_⟩
    have hT2 : h''.get? s.heap.objs.size = some { cls := .type "tuple", data := .seq #[u, u2] } := (sb.2 _ (Nat.ne_of_gt hzl)).trans hT
    have new : ObjOk X.prog X.w (upd H s.heap.objs.size (.tup [x, y])) h'' s.heap.objs.size (.tup [x, y]) :=
      ⟨by show 2 ≤ sizeLine; decide, [u, u2], .cons ru (.cons ru2 .nil), ⟨_, hT2, rfl, _, rfl⟩⟩
    have I1 : Inv X pins σ (upd H s.heap.objs.size (.tup [x, y])) { s with heap := h'' } :=
      I.turnedNew (t' := s.toks) (ch := [z, TI, TO, i1, i2]) (fun c o hb q => (sb.2 c (fun q' => hb (by simp [q']))).trans (hk c o (fun q' => hb (by simp [q'])) (fun q' => hb (by simp [q'])) (fun q' => hb (by simp [q'])) (fun q' => hb (by simp [q'])) q)) hf (Nat.le_refl _) new
    refine ⟨.ref s.heap.objs.size, _, I1, rfl, ⟨_, x, y, rfl, I.hok.fresh (Nat.le_refl _), rfl, fun l hl => by rw [I.tuple_inj hl hqx]; exact hx, fun l hl => by rw [I.list_inj hl hqy]; exact hy⟩, ⟨z'', ?_, ⟨u, u2, ?_⟩, ?_, ?_⟩, fun c hcm => ?_⟩
    · exact (sb.2 _ D.TIz).trans (hk _ _ D.TIz D.TITO D.TIi1 D.TIi2 hTI)
    · exact (sb.2 _ D.TOz).trans TO'
    · exact h1'.at fun o q => (sb.2 _ D.i1z).trans q
    · exact h2'.at fun o q => (sb.2 _ D.i2z).trans q
    · have hlt : c < s.heap.objs.size := by
        have e' : c = z ∨ c = TI ∨ c = TO ∨ c = i1 ∨ c = i2 := by simpa using hcm
        rcases e' with rfl | rfl | rfl | rfl | rfl
        · exact hzl
        · exact Heap.lt_size hTI
        · exact Heap.lt_size hTO
        · obtain ⟨_, e1, _⟩ := h1; exact Heap.lt_size e1
        · obtain ⟨_, e2, _⟩ := h2; exact Heap.lt_size e2
      rw [upd_ne (Nat.ne_of_lt hlt)]
      exact (hf c hcm).1
  done := by
    intro X hP hw hK hc i pins s σ H E I hf st hg
    subst hP hw hK
    obtain ⟨hz, hTI, ⟨x0, y0, hTO⟩, h1, h2⟩ := st
    obtain ⟨xs, ys, hqx, hqy, hend⟩ := hg
    obtain ⟨its, rv, p, _⟩ := I.tuple hqx
    obtain ⟨its2, rv2, p2, _⟩ := I.list hqy
    have l1 := rv.length
    have l2 := rv2.length
    have he : its.toArray[i]? = none ∨ its2.toArray[i]? = none := by
      rcases hend with q | q
      · exact .inl (by simp; omega)
      · exact .inr (by simp; omega)
    exact zmpy_end (I.ok.hd hc) D hz hTI hTO h1 h2 p p2.isList he fun h' hk => ⟨rfl, I.turnedL (t' := s.toks) (ch := [z, TI, TO, i1, i2]) (fun c o hb q =>
      hk c o (fun q' => hb (by simp [q'])) (fun q' => hb (by simp [q'])) (fun q' => hb (by simp [q'])) (fun q' => hb (by simp [q'])) q) hf⟩
  self := fun A i s Q E st h => wpAny_pyIter_zip st.1 h
def iZipM (K : PySem.W.Frag) (ta : TA) : TI := fun σ H R => ta σ H fun vs H1 => ∃ a b xs ys, vs = [.ref a, .ref b] ∧ SqT K H1 a xs ∧ SqL K H1 b ys ∧ R (Itzm K a b) H1
theorem pi_zipM {X : Cx} {e e2 : Expr} {ta : TA} {p pos tpos : Pos} {elts : List Expr} {kk : Nat} (hg : Gl X "zip") (hm : X.mg "zip" = none) (ha : PA X [e, e2] ta)
    (hs : starEach [e, e2] X.env = (false, eval e X.env) :: starEach [e2] X.env := by rfl) (hpl : (backTo pos (starEach [e2] X.env)).any (·.1) = false := by rfl) :
    PI X (.Tuple elts kk tpos) (.Call (.Name "zip" p) [e, e2] [] pos) (iZipM X.K ta) := by
  refine ⟨fun pins s σ H R I h => ?_⟩
  refine Call_ (ld_blt I hg hm PyProof.Rows.boot_zip (PyProof.Rows.callWith_type1 (thn (ha.run pos pins s σ H _ I h) fun us s1 ⟨vs, H1, I1, r1, q1⟩ => ?_) hs hpl))
  obtain ⟨a, b, xs, ys, ex, hqx, hqy, q⟩ := q1
  subst ex
  cases r1 with
  | cons r rr =>
    cases rr with
    | cons r' rr =>
      cases rr
      cases r
      cases r'
      obtain ⟨its, rv, p1, _⟩ := I1.tuple hqx
      obtain ⟨its2, rv2, p2, _⟩ := I1.list hqy
      obtain ⟨o1, ho1, _⟩ := id p1
      refine call_zm (show s1.heap.IsTuple a its.toArray from p1) p2.isList fun h' hz hTI hTO h1 h2 hsz hk => wpAny_pyIter_zip hz ?_
      have I2 : Inv X pins σ H1 { s1 with heap := h' } := I1.kept (t' := s1.toks) hk
      refine ⟨s1.heap.objs.size + 4, [s1.heap.objs.size + 4, s1.heap.objs.size + 2, s1.heap.objs.size + 3, s1.heap.objs.size, s1.heap.objs.size + 1], _, _, H1, rfl, I2, turn_zm (PySem.W.ktu_apart s1.heap.objs.size a b (Heap.lt_size ho1) p2.lt), ⟨hz, hTI, ⟨_, _, hTO⟩, h1, h2⟩, fun c hcm => ?_, q⟩
      have e' : c = s1.heap.objs.size + 4 ∨ c = s1.heap.objs.size + 2 ∨ c = s1.heap.objs.size + 3 ∨ c = s1.heap.objs.size ∨ c = s1.heap.objs.size + 1 := by simpa using hcm
      have hle : s1.heap.objs.size ≤ c := by
        rcases e' with z | z | z | z | z <;> rw [z]
        · exact Nat.le_add_right _ _
        · exact Nat.le_add_right _ _
        · exact Nat.le_add_right _ _
        · exact Nat.le_refl _
        · exact Nat.le_add_right _ _
      exact I1.fpOk hle (I1.hok.fresh hle)
end KX

namespace KX
open PySem PySem.Spec PyProof.Rows L2
/-! ### own classes: fields, methods, making, len -/
def FldR (C : Addr) (f : Str) (x : V) (H : Hp) (Q : VK) : Prop := ∃ a dx fs v, x = .ref a ∧ H a = some (.ins C dx fs) ∧ fs.lookup f = some v ∧ Q v H
def tFldC (C : Addr) (f : Str) (ta : TE) : TE := fun σ H Q => ta σ H fun x H1 => FldR C f x H1 Q
def PutF (C : Addr) (f : Str) (y x : V) (H : Hp) (R : Hp → Prop) : Prop := ∃ a dx fs, x = .ref a ∧ H a = some (.ins C dx fs) ∧ fs.length < 1000 ∧ PutR H a (.ins C dx (putF f y fs)) R
def sFldC (C : Addr) (f : Str) (ta tv : TE) : TS := fun D σ H => tv σ H fun y H1 => ta σ H1 fun x H2 => PutF C f y x H2 (D.nx σ)
def MethR (C : Addr) (m : Str) (x : V) (H : Hp) (R : Hp → Prop) : Prop := ∃ a dx fs, x = .ref a ∧ H a = some (.ins C dx fs) ∧ fs.lookup m = none ∧ R H
def tMethC (C : Addr) (m : Str) (sp : Sp) (E : XK) (ta : TE) (t : TA) : TE := fun σ H Q => ta σ H fun x H1 => MethR C m x H1 fun H1 => t σ H1 fun vs H2 => sp (x :: vs) H2 Q E
def tMethX (C : Addr) (m : Str) (sp : Sp) (E : L2.St → XK) (ta : TE) (t : TA) : TE := fun σ H Q => ta σ H fun x H1 => MethR C m x H1 fun H1 => t σ H1 fun vs H2 => sp (x :: vs) H2 Q (E σ)
def MakeR (C : Addr) (sp : Sp) (E : XK) (vs : List V) (H1 : Hp) (Q : VK) : Prop := ∀ x dx, H1 x = none → H1 dx = none → dx ≠ x → sp (.ref x :: vs) (upd (upd H1 dx (.own x)) x (.ins C dx [])) (fun v H2 => v = .non ∧ Q (.ref x) H2) E
def tMakeC (C : Addr) (sp : Sp) (E : XK) (t : TA) : TE := fun σ H Q => t σ H fun vs H1 => MakeR C sp E vs H1 Q
section
variable {X : Cx} {o e value : Expr} {f m x : Str} {pos pos' apos p : Pos} {ta tv : TE} {C g : Addr} {CX : CXT} {k : Nat} {fd : FuncData} {ps : List Str} {sp : Sp} {E : XK} {es : List Expr} {t : TA} {σ : L2.St} {H : Hp} {Q : VK} {R : Hp → Prop}
theorem pe_fldC (c : Cls X.K C) (n : NoAttr X.K C f) (he : PE X e ta) (hb : attributeBase e f X.env (eval e X.env) = eval e X.env := by rfl) : PE X (.Attribute e f pos) (tFldC C f ta) := by
  refine ⟨fun pins s σ H Q I h => ?_⟩
  refine attr_of hb (thn (he.run pins s σ H _ I h) fun u s1 ⟨x, H1, I1, rx, a, dx, fs, v, ex, ea, l, q⟩ => ?_)
  subst ex
  obtain rfl : u = Value.ref a := rx
  exact getattr_ok I1 ea c n l fun u' s2 I2 ru => ⟨v, H1, I2, ru, q⟩
theorem ps_fldC (c : Cls X.K C) (n : NoAttr X.K C f) (ha : PE X o ta) (hv : PE X value tv) (hs : swapsWith value (some (.Attribute o f pos')) pos.line X.env = pure false := by rfl) : PS X (.Assign [.Attribute o f pos'] value pos) (sFldC C f ta tv) := by
  refine ⟨fun pins s σ H D I h => ?_⟩
  refine plainObj_wpAny_Assign_Attribute (thn (hv.run pins s σ H _ I h) fun u s1 ⟨y, H1, I1, ry, q⟩ => thn (ha.run pins s1 σ H1 _ I1 q) fun ov s2 ⟨x, H2, I2, rx, a, dx, fs, ex, ea, l, q2⟩ => ?_) hs
  subst ex
  obtain rfl : ov = Value.ref a := rx
  exact setattr_ok I2 ea c n l ry fun s3 I3 => ⟨σ, _, I3, q2⟩
theorem pe_methC {pl : Sem Bool} (c : Cls X.K C) (hm : Meth X.K C m g) (F : FnOk X.prog X.w X.K X.mg X.base CX k g fd ps sp) (hr : Room k X.A) (hb : Binds X.K fd ps []) (hx : Passes CX X E) (he : PE X o ta) (ha : PA X (e :: es) t)
    (hst : starEach (e :: es) X.env = (false, eval e X.env) :: starEach es X.env := by rfl) (hpl : (backTo pos (starEach es X.env)).any (·.1) = false := by rfl)
    (ht : eval (.Call (.Attribute o m apos) (e :: es) [] pos) X.env = (do
      let ov ← eval o X.env
      standAt apos.atName
      let (f, first) ← holding [ov] (getMethod ov m pl)
      callWith pos f first (backTo pos (starEach (e :: es) X.env)) (backToKw pos (keywordEach [] X.env))) := by rfl) :
    PE X (.Call (.Attribute o m apos) (e :: es) [] pos) (tMethC C m sp E ta t) := by
  refine ⟨fun pins s σ H Q I h => ?_⟩
  refine PySem.W.methodCall_KW (pl := pl) (thn (he.run pins s σ H _ I h) fun u s1 ⟨x, H1, I1, rx, a, dx, fs, ex, ea, l, q⟩ => ?_) ht
  subst ex
  obtain rfl : u = Value.ref a := rx
  refine getmeth_ok I1 ea c hm l ?_
  refine PySem.W.callWith_K (first := [.ref a]) (h₀ := X.base) I.ok.mod.kin hm.kp (thn (ha.run pos pins s1 σ H1 _ I1 q) fun us s2 ⟨vs, H2, I2, r, q2⟩ => ⟨I2.kIn, ?_⟩) hst hpl
  exact L2.run_fn (us := .ref a :: us) (vs := .ref a :: vs) (ds := []) (dvs := []) F hr hb .nil hx I2 (.cons rfl r) (by rw [List.append_nil]; exact q2)
theorem pe_methC0 {pl : Sem Bool} (c : Cls X.K C) (hm : Meth X.K C m g) (F : FnOk X.prog X.w X.K X.mg X.base CX k g fd ps sp) (hr : Room k X.A) (hb : Binds X.K fd ps []) (hx : Passes CX X E) (he : PE X o ta)
    (ht : eval (.Call (.Attribute o m apos) [] [] pos) X.env = (do
      let ov ← eval o X.env
      standAt apos.atName
      let (f, first) ← holding [ov] (getMethod ov m pl)
      callWith pos f first (backTo pos (starEach [] X.env)) (backToKw pos (keywordEach [] X.env))) := by rfl) :
    PE X (.Call (.Attribute o m apos) [] [] pos) (tMethC C m sp E ta tNil) := by
  refine ⟨fun pins s σ H Q I h => ?_⟩
  refine PySem.W.methodCall_KW (pl := pl) (thn (he.run pins s σ H _ I h) fun u s1 ⟨x, H1, I1, rx, a, dx, fs, ex, ea, l, q⟩ => ?_) ht
  subst ex
  obtain rfl : u = Value.ref a := rx
  refine getmeth_ok I1 ea c hm l ?_
  exact PySem.W.callWith_K0 (first := [.ref a]) I1.kIn hm.kp (L2.run_fn (us := [.ref a]) (vs := [.ref a]) (ds := []) (dvs := []) F hr hb .nil hx I1 (.cons rfl .nil) q)
theorem pe_makeC (M : Mk X.K C g) (F : FnOk X.prog X.w X.K X.mg X.base CX k g fd ps sp) (hr : Room (k + 1) X.A) (hg : Gl X x) (hm : X.mg x = some (.ref C)) (hb : Binds X.K fd ps []) (hx : Passes CX X E)
    (ha : PA X (e :: es) t) (hdb : (x == ("__debug__" : Str)) = false := by decide) (he : starEach (e :: es) X.env = (false, eval e X.env) :: starEach es X.env := by rfl) (hpl : (backTo pos (starEach es X.env)).any (·.1) = false := by rfl) :
    PE X (.Call (.Name x p) (e :: es) [] pos) (tMakeC C sp E t) := by
  refine (pe_make (ds := []) (dvs := []) M F hr hg hm hb .nil hx ha hdb he hpl).imp fun σ H Q q => ?_
  have ε : (fun vs H1 => MakeR C sp E vs H1 Q) = fun vs H1 => ∀ x dx, H1 x = none → H1 dx = none → dx ≠ x → sp (.ref x :: (vs ++ [])) (upd (upd H1 dx (.own x)) x (.ins C dx [])) (fun v H2 => v = .non ∧ Q (.ref x) H2) E := by
    funext vs H1
    rw [List.append_nil]
    rfl
  show t σ H fun vs H1 => ∀ x dx, H1 x = none → H1 dx = none → dx ≠ x → sp (.ref x :: (vs ++ [])) (upd (upd H1 dx (.own x)) x (.ins C dx [])) (fun v H2 => v = .non ∧ Q (.ref x) H2) E
  rw [← ε]
  exact q
/-- len of an instance with an own __len__ -/
def rLenO (C : Addr) (sp : Sp) (E : XK) : List V → Hp → VK → Prop := fun xs H Q => ∃ a dx fs, xs = [.ref a] ∧ H a = some (.ins C dx fs) ∧ sp [.ref a] H (fun v H' => ∃ n : Int, v = .int n ∧ 0 ≤ n ∧ n < 2 ^ 63 ∧ Q (.int n) H') E
theorem call_lenO (hs : PySem.W.findIn X.K (.ref C) "__len__" = some (some (.ref g))) (hf : PySem.W.isFn X.K (.ref g) = true) (F : FnOk X.prog X.w X.K X.mg X.base CX k g fd ps sp) (hr : Room (k + 1) X.A) (hb : Binds X.K fd ps []) (hx : Passes CX X E) : CallR X (.builtin "len") (rLenO C sp E) := by
  intro pins s σ H xs us Q I r ⟨a, dx, fs, e, ha, hsp⟩
  subst e
  obtain ⟨u, rfl, rx⟩ := vals1 r
  cases rx
  obtain ⟨mA, J, _⟩ := ins_get I.hok ha
  obtain ⟨od, J, _⟩ := J.look
  refine Calls.call_function_entry kind_len plain_len entry_len (args_len1 _) ?_
  unfold Builtin.«len»
  refine wpAny_bind (m := oneArg "len" _) (wpAny_pure ?_)
  have e0 : Env0 X.prog X.w X.K X.mg X.base X.A.in1 X.stack s H := I.env0.in1
  have hl := F.len _ _ _ _ hsp
  have r2 : Vals [V.ref a] [Value.ref a] := .cons rfl .nil
  refine wpAny_bind (m := callSpecial? (.ref a) (Str.ofString "__len__")) (PySem.W.special_fn (args := []) I.kIn J hs (beq_iff_eq.mp hf) (wpAny_call (codeAny_mono (F.run X.A.in1 X.stack s H ⟨[.ref a], []⟩ [.ref a] [.ref a] _ E hr.in1 e0 (by
    have := hb s [.ref a] I.kIn (by simpa using hl)
    simpa using this) r2 hsp) fun r s' hq => ?_)))
  cases r with
  | error e => exact hx pins σ H s e s' I hq
  | ok fl =>
    cases fl with
    | ret u =>
      obtain ⟨z, H', I', rz, n, ez, h0, h1, q⟩ := I.after hq
      subst ez
      obtain ⟨t, rfl⟩ := (show ∃ t, u = Value.int n t from rz)
      refine wpAny_bind (wpAny_holding (wpAny_pure ?_))
      refine wpAny_bind (wpAny_letGo ?_)
      show wpAny _ _ (if n < 0 then _ else _) _ _ _
      rw [if_neg (by omega)]
      show wpAny _ _ (if n ≥ 2 ^ 63 then _ else _) _ _ _
      rw [if_neg (by omega)]
      exact wpAny_bind (wpAny_mkInt (wpAny_pure ⟨_, rfl, .int n, H', I'.tok _, ⟨_, rfl⟩, q⟩))
    | next => exact False.elim hq
    | brk => exact False.elim hq
    | cont => exact False.elim hq
theorem i_fldC (q : ta σ H fun x H1 => FldR C f x H1 Q) : tFldC C f ta σ H Q := q
theorem i_fld {a dx : Addr} {fs : List (Str × V)} {v : V} (h : H a = some (.ins C dx fs)) (l : fs.lookup f = some v) (q : Q v H) : FldR C f (.ref a) H Q := ⟨a, dx, fs, v, rfl, h, l, q⟩
theorem i_sFldC {fx fb fk : L2.St → Hp → Prop} (q : tv σ H fun y H1 => ta σ H1 fun x H2 => PutF C f y x H2 (fx σ)) : sFldC C f ta tv ⟨fx, Q, fb, fk⟩ σ H := q
theorem i_putF {a dx : Addr} {fs : List (Str × V)} {y : V} (h : H a = some (.ins C dx fs)) (l : fs.length < 1000) (q : PutR H a (.ins C dx (putF f y fs)) R) : PutF C f y (.ref a) H R := ⟨a, dx, fs, rfl, h, l, q⟩
theorem i_methC (q : ta σ H fun x H1 => MethR C m x H1 fun H1 => t σ H1 fun vs H2 => sp (x :: vs) H2 Q E) : tMethC C m sp E ta t σ H Q := q
theorem i_methX {E : L2.St → XK} (q : ta σ H fun x H1 => MethR C m x H1 fun H1 => t σ H1 fun vs H2 => sp (x :: vs) H2 Q (E σ)) : tMethX C m sp E ta t σ H Q := q
theorem i_meth {a dx : Addr} {fs : List (Str × V)} (h : H a = some (.ins C dx fs)) (l : fs.lookup m = none) (q : R H) : MethR C m (.ref a) H R := ⟨a, dx, fs, rfl, h, l, q⟩
theorem i_makeC (q : t σ H fun vs H1 => MakeR C sp E vs H1 Q) : tMakeC C sp E t σ H Q := q
theorem i_make {vs : List V} (q : ∀ a dx H', H a = none → H dx = none → dx ≠ a → Same H H' → H' a = some (.ins C dx []) → sp (.ref a :: vs) H' (fun v H2 => v = .non ∧ Q (.ref a) H2) E) : MakeR C sp E vs H Q :=
  fun a dx ha hd ne => q a dx _ ha hd ne ((same_new hd).trans (same_new (by rw [upd_ne (Ne.symm ne)]; exact ha))) upd_same
theorem i_rLenO {a dx : Addr} {fs : List (Str × V)} (h : H a = some (.ins C dx fs)) (q : sp [.ref a] H (fun v H' => ∃ n : Int, v = .int n ∧ 0 ≤ n ∧ n < 2 ^ 63 ∧ Q (.int n) H') E) : rLenO C sp E [.ref a] H Q := ⟨a, dx, fs, rfl, h, q⟩
end
theorem cls_of {K : PySem.W.Frag} {C : Addr} (h : clsB K C = true) : Cls K C := by
  unfold clsB at h
  simp only [Bool.and_eq_true, beq_iff_eq] at h
  exact ⟨h.1, h.2.1, h.2.2.1, h.2.2.2.1⟩
theorem mk_of {K : PySem.W.Frag} {C f : Addr} (h : clsB K C = true) (m : PySem.W.findIn K (.ref C) "__init__" = some (some (.ref f))) (t : PySem.W.typeIn K (.ref f) = some (.type "function")) : Mk K C f := by
  unfold clsB at h
  simp only [Bool.and_eq_true, beq_iff_eq] at h
  exact ⟨h.2.2.2.2.1, m, beq_iff_eq.mpr t, h.2.2.2.2.2⟩
theorem na_of {K : PySem.W.Frag} {C : Addr} {fs : List Str} (h : naB K C fs = true) {f : Str} (m : f ∈ fs) : NoAttr K C f := beq_iff_eq.mp (List.all_eq_true.mp h f m)
theorem meth_of {K : PySem.W.Frag} {C f : Addr} {m : Str} (a : PySem.W.findIn K (.ref C) m = some (some (.ref f))) (t : PySem.W.typeIn K (.ref f) = some (.type "function")) (k : PySem.W.keepIn K (.ref f) = true) : Meth K C m f := ⟨a, beq_iff_eq.mpr t, k⟩
/-! ### dicts by their reading -/
def DgR (x y : V) (H : Hp) (Q : VK) : Prop := ∃ a v, x = .ref a ∧ DGet H a y (some v) ∧ Q v H
def DinR (b : Bool) (x y : V) (H : Hp) (Q : VK) : Prop := ∃ a o, x = .ref a ∧ DGet H a y o ∧ Q (.bl (b == o.isSome)) H
def DpR (x y v : V) (H : Hp) (R : Hp → Prop) : Prop := ∃ a H', x = .ref a ∧ DPut H a y v H' ∧ R H'
section
variable {X : Cx} {o i value : Expr} {td ty tv : TE} {pos pos' : Pos} {σ : L2.St} {H : Hp} {Q : VK} {R : Hp → Prop}
def tDg (td ty : TE) : TE := fun σ H Q => td σ H fun x H1 => ty σ H1 fun y H2 => DgR x y H2 Q
theorem pe_dg (hu : X.A.units + 1 < cLine) (ho : PE X o td) (hi : PE X i ty) (hs : NoSl i := by exact fun _ _ => rfl) : PE X (.Subscript o i pos) (tDg td ty) := pe_dget hu ho hi hs
def rDin : R2 := fun y x H Q => DinR true x y H Q
def rDnotin : R2 := fun y x H Q => DinR false x y H Q
theorem op_dnotin (hu : X.A.units + 1 < cLine) : OpR X (compareOp .NotIn) rDnotin := by
  intro pins s σ H y x v u Q I ry rx ⟨a, o, ex, g, q⟩
  subst ex
  obtain rfl : u = Value.ref a := rx
  exact d_notIn hu I g ry fun s' I' => ⟨.bl (!o.isSome), H, I', rfl, by cases o <;> simpa using q⟩
def sDp (td ty tv : TE) : TS := fun D σ H => tv σ H fun v H1 => td σ H1 fun x H2 => ty σ H2 fun y H3 => DpR x y v H3 (D.nx σ)
theorem ps_dp (hu : X.A.units + 1 < cLine) (ho : PE X o td) (hi : PE X i ty) (hv : PE X value tv) (hs : swapsWith value (some (.Subscript o i pos')) pos.line X.env = pure false := by rfl) :
    PS X (.Assign [.Subscript o i pos'] value pos) (sDp td ty tv) := ps_dput hu ho hi hv hs
theorem i_dg0 (q : td σ H fun x H1 => ty σ H1 fun y H2 => DgR x y H2 Q) : tDg td ty σ H Q := q
theorem i_dg {a : Addr} {y v : V} (g : DGet H a y (some v)) (q : Q v H) : DgR (.ref a) y H Q := ⟨a, v, rfl, g, q⟩
theorem i_dnotin {a : Addr} {y : V} {o : Option V} (g : DGet H a y o) (q : Q (.bl (!o.isSome)) H) : rDnotin y (.ref a) H Q := ⟨a, o, rfl, g, by cases o <;> simpa using q⟩
theorem i_sDp {fx fb fk : L2.St → Hp → Prop} (q : tv σ H fun v H1 => td σ H1 fun x H2 => ty σ H2 fun y H3 => DpR x y v H3 (fx σ)) : sDp td ty tv ⟨fx, Q, fb, fk⟩ σ H := q
theorem i_dpK {a : Addr} {kvs : List (Key × V)} {k : Key} {v : V} (e : H a = some (.dK kvs)) (hl : kvs.length < sizeLine) (q : PutR H a (.dK (putK kvs k v)) R) : DpR (.ref a) (kV k) v H R := ⟨a, _, rfl, DPut.k e hl, q⟩
theorem i_dpS {a : Addr} {kvs : List (Key × V)} {k : Str} {v : V} (e : H a = some (.dK kvs)) (hl : kvs.length < sizeLine) (q : PutR H a (.dK (putK kvs (.inr k) v)) R) : DpR (.ref a) (.str k) v H R := i_dpK (k := .inr k) e hl q
theorem i_dpI {a : Addr} {kvs : List (Key × V)} {k : Int} {v : V} (e : H a = some (.dK kvs)) (hl : kvs.length < sizeLine) (q : PutR H a (.dK (putK kvs (.inl k) v)) R) : DpR (.ref a) (.int k) v H R := i_dpK (k := .inl k) e hl q
theorem i_dpT {a b : Addr} {kvs : List (List Key × V)} {k : List Key} {v : V} (e : H a = some (.dT kvs)) (eb : H b = some (.tup (k.map kV))) (hl : kvs.length < sizeLine) (q : PutR H a (.dT (putK kvs k v)) R) : DpR (.ref a) (.ref b) v H R := ⟨a, _, rfl, DPut.t e eb hl, q⟩
/-- d[..] as a target, of any key -/
def rSetDp : TSet := fun o i v H R => DpR o i v H R
end
section
variable {X : Cx} {K : PySem.W.Frag}
theorem op_notIn_seqK (h : X.K = K) : OpR X (compareOp .NotIn) (rIn K true) := h ▸ op_notIn_seq
end
/-! ### a dict under a lock -/
def BackR (d : Addr) (od : Obj) (u : HO) (H' : Hp) (R : Hp → Prop) : Prop := H' d = some (.frz od u) ∧ R (upd H' d u)
section
variable {t : TE} {ts : TS} {σ : L2.St} {H : Hp} {Q : VK} {d : Addr} {u : HO}
theorem i_lockE (h : H d = some u) (m : Mut (some u)) (q : ∀ od H1, Off d H H1 → H1 d = some (.frz od u) → t σ H1 fun v H' => BackR d od u H' (Q v)) : tLockE t σ H Q :=
  ⟨d, u, h, m, fun od => q od _ off_upd upd_same⟩
theorem i_lockS {f b k : L2.St → Hp → Prop} (h : H d = some u) (m : Mut (some u)) (q : ∀ od H1, Off d H H1 → H1 d = some (.frz od u) → ts ⟨fun σ' H' => BackR d od u H' (f σ'), fun v H' => BackR d od u H' (Q v), fun σ' H' => BackR d od u H' (b σ'), fun σ' H' => BackR d od u H' (k σ')⟩ σ H1) : tLock ts ⟨f, Q, b, k⟩ σ H :=
  ⟨d, u, h, m, fun od => q od _ off_upd upd_same⟩
theorem i_back {H1 H' : Hp} {od : Obj} {R : Hp → Prop} (o : Off d H H1) (h : H d = some u) (s : Same H1 H') (e : H1 d = some (.frz od u)) (q : ∀ H2, Same H H2 → Off d H' H2 → R H2) : BackR d od u H' R := by
  refine ⟨s _ _ e, q _ (fun b x hb => ?_) off_upd⟩
  by_cases z : b = d
  · subst z; rw [h] at hb; cases hb; exact upd_same
  · exact off_upd b x z (s _ _ (o b x z hb))
theorem none_off {H1 : Hp} {od : Obj} {p : Addr} (o : Off d H H1) (e : H1 d = some (.frz od u)) (n : H1 p = none) : H p = none := by
  cases z : H p with
  | none => rfl
  | some x =>
    by_cases q : p = d
    · subst q; rw [e] at n; cases n
    · rw [o p x q z] at n; cases n
end
/-! ### walks over a dict -/
section
variable {d : Addr} {o : Obj} {kvs : List (Key × V)}
theorem wq_items : Wq (Iti d o kvs) kvs.length (fun H => H d = some (.frz o (.dK kvs))) (PairAt (fun i => kvs[i]?.map fun kv => kV kv.1) (fun i => kvs[i]?.map Prod.snd)) := by
  have W := walk_items (d := d) (o := o) (kvs := kvs)
  refine ⟨fun i H g h => W.goes i H h g, fun i H x H' g y h => ?_, fun H g => W.stops H g⟩
  obtain ⟨T, u, v, e, n, e2, h1, h2⟩ := W.yields i H x H' h g y
  subst e2
  exact ⟨same_new n, T, u, v, e, upd_same, h1, h2⟩
theorem wq_values : Wq (Itd d o kvs) kvs.length (fun H => H d = some (.frz o (.dK kvs))) (fun i x _ => ∃ k, kvs[i]? = some (k, x)) := by
  have W := walk_values (d := d) (o := o) (kvs := kvs)
  refine ⟨fun i H g h => W.goes i H h g, fun i H x H' g y h => ?_, fun H g => W.stops H g⟩
  obtain ⟨e, k⟩ := W.yields i H x H' h g y
  subst e
  exact ⟨Same.refl _, k⟩
theorem wq_keys : Wq (Itk d o kvs) kvs.length (fun H => H d = some (.frz o (.dK kvs))) (fun i x _ => ∃ k v, kvs[i]? = some (k, v) ∧ x = kV k) := by
  have W := walk_keys (d := d) (o := o) (kvs := kvs)
  refine ⟨fun i H g h => W.goes i H h g, fun i H x H' g y h => ?_, fun H g => W.stops H g⟩
  obtain ⟨e, k⟩ := W.yields i H x H' h g y
  subst e
  exact ⟨Same.refl _, k⟩
theorem wq_zm {K : PySem.W.Frag} {a b : Addr} {xs ys : List V} {n : Nat} (hn : n = min xs.length ys.length) : Wq (Itzm K a b) n (fun H => SqT K H a xs ∧ SqL K H b ys) (PairAt (fun i => xs[i]?) (fun i => ys[i]?)) := by
  subst hn
  refine ⟨fun i H g h => ?_, fun i H v H' g y h => ?_, fun H g => ⟨xs, ys, g.1, g.2, by omega⟩⟩
  · have h1 : i < xs.length := by omega
    have h2 : i < ys.length := by omega
    exact ⟨xs, ys, xs[i], ys[i], g.1, g.2, by simp [h1], by simp [h2]⟩
  · obtain ⟨T, x, z, e, hT, eH, k1, k2⟩ := y
    subst eH
    exact ⟨same_new hT, T, x, z, e, upd_same, k1 xs g.1, k2 ys g.2⟩
end
section
variable {td : TE} {σ : L2.St} {H : Hp} {R : It → Hp → Prop}
theorem i_iItems (q : td σ H fun x H1 => ∃ d o kvs, x = .ref d ∧ H1 d = some (.frz o (.dK kvs)) ∧ R (Iti d o kvs) H1) : iItems td σ H R := q
theorem i_iVals (q : td σ H fun x H1 => ∃ d o kvs, x = .ref d ∧ H1 d = some (.frz o (.dK kvs)) ∧ R (Itd d o kvs) H1) : iVals td σ H R := q
theorem i_exfrz {d : Addr} {o : Obj} {kvs : List (Key × V)} {F : Addr → Obj → List (Key × V) → Prop} (h : H d = some (.frz o (.dK kvs))) (q : F d o kvs) : ∃ d' o kvs, V.ref d = .ref d' ∧ H d' = some (.frz o (.dK kvs)) ∧ F d' o kvs := ⟨d, o, kvs, rfl, h, q⟩
theorem i_iKeys (q : td σ H fun x H1 => ∃ d o, x = .ref d ∧ ((∃ kvs, H1 d = some (.frz o (.dK kvs)) ∧ R (Itk d o kvs) H1) ∨ ∃ kvs, H1 d = some (.frz o (.dT kvs)) ∧ R (Itkt d o kvs) H1)) : iKeys td σ H R := q
theorem i_exkeys {d : Addr} {o : Obj} {kvs : List (Key × V)} {F : Prop} {B : Addr → Obj → Prop} (h : H d = some (.frz o (.dK kvs))) (q : R (Itk d o kvs) H) : ∃ d' o, V.ref d = .ref d' ∧ ((∃ kvs, H d' = some (.frz o (.dK kvs)) ∧ R (Itk d' o kvs) H) ∨ ∃ kvs, H d' = some (.frz o (.dT kvs)) ∧ R (Itkt d' o kvs) H) :=
  ⟨d, o, rfl, .inl ⟨kvs, h, q⟩⟩
theorem i_iZipM {K : PySem.W.Frag} {ta : TA} (q : ta σ H fun vs H1 => ∃ a b xs ys, vs = [.ref a, .ref b] ∧ SqT K H1 a xs ∧ SqL K H1 b ys ∧ R (Itzm K a b) H1) : iZipM K ta σ H R := q
theorem i_exzm {K : PySem.W.Frag} {p r : Addr} {xs ys : List V} {F : Addr → Addr → Prop} (h : SqT K H p xs) (k : SqL K H r ys) (q : F p r) : ∃ a b xs ys, [V.ref p, V.ref r] = [.ref a, .ref b] ∧ SqT K H a xs ∧ SqL K H b ys ∧ F a b := ⟨p, r, xs, ys, rfl, h, k, q⟩
end
/-! ### comprehensions over walks -/
theorem i_cc {u0 : Addr → HO} {wi : TI} {g : TG} {tt : TT} {tb : Addr → TB} {vs : List Nat} {σ : L2.St} {H : Hp} {Q : VK} (q : wi σ H fun J H1 => CcR u0 J g tt tb vs σ H1 Q) : tCc u0 wi g tt tb vs σ H Q := q
theorem c_wq {J : It} {n : Nat} {G : Hp → Prop} {R : Nat → V → Hp → Prop} (W : Wq J n G R) {u0 : Addr → HO} {g : TG} {tt : TT} {tb : Addr → TB} {vs : List Nat} {σ : L2.St} {H1 : Hp} {Q : VK}
    (q : ∀ D H0, H1 D = none → Same H1 H0 → H0 D = some (u0 D) → ∃ Pv : Nat → Hp → Prop, Pv 0 H0 ∧ (∀ i H, Pv i H → G H) ∧
      (∀ i x H H', i < n → Pv i H → Same H H' → R i x H' → g x (wipe σ vs) H' fun σ2 H2 => wipe σ2 vs = wipe σ vs ∧ tt σ2 H2 fun b H3 => if b = true then tb D σ2 H3 (Pv (i + 1)) else Pv (i + 1) H3) ∧
      (∀ H, Pv n H → Q (.ref D) H)) : CcR u0 J g tt tb vs σ H1 Q := by
  intro D hD
  obtain ⟨Pv, h0, hG, hs, hd⟩ := q D _ hD (same_new hD) upd_same
  refine ⟨fun i m H => m = n - i ∧ i ≤ n ∧ Pv i H, ⟨n, by simp, Nat.zero_le _, h0⟩, ?_⟩
  rintro i m H ⟨rfl, hi, p⟩
  by_cases hlt : i < n
  · refine .inr ⟨W.go i H (hG _ _ p) hlt, Pv (i + 1), fun H' p' => ⟨n - (i + 1), by omega, rfl, hlt, p'⟩, fun x H' y => ?_⟩
    obtain ⟨s, r⟩ := W.yl i H x H' (hG _ _ p) y hlt
    exact hs i x H H' hlt p s r
  · have e : i = n := by omega
    subst e
    exact .inl ⟨W.st H (hG _ _ p), hd H p⟩
theorem ci_wq {J : It} {n : Nat} {G : Hp → Prop} {R : Nat → V → Hp → Prop} (W : Wq J n G R) {g : TG} {tt : TT} {tb : TB} {vs : List Nat} {σ : L2.St} {H1 : Hp} {Nx : Hp → Prop} (Pv : Nat → Hp → Prop) (h0 : Pv 0 H1) (hG : ∀ i H, Pv i H → G H)
    (hs : ∀ i x H H', i < n → Pv i H → Same H H' → R i x H' → g x (wipe σ vs) H' fun σ2 H2 => wipe σ2 vs = wipe σ vs ∧ tt σ2 H2 fun b H3 => if b = true then tb σ2 H3 (Pv (i + 1)) else Pv (i + 1) H3)
    (hd : ∀ H, Pv n H → Nx H) : CcI J g tt tb vs σ Nx H1 := by
  refine ⟨fun i m H => m = n - i ∧ i ≤ n ∧ Pv i H, ⟨n, by simp, Nat.zero_le _, h0⟩, ?_⟩
  rintro i m H ⟨rfl, hi, p⟩
  by_cases hlt : i < n
  · refine .inr ⟨W.go i H (hG _ _ p) hlt, Pv (i + 1), fun H' p' => ⟨n - (i + 1), by omega, rfl, hlt, p'⟩, fun x H' y => ?_⟩
    obtain ⟨s, r⟩ := W.yl i H x H' (hG _ _ p) y hlt
    exact hs i x H H' hlt p s r
  · have e : i = n := by omega
    subst e
    exact .inl ⟨W.st H (hG _ _ p), hd H p⟩
theorem cc_yes {g : TG} {x : V} {σ σ1 : L2.St} {H : Hp} {vs : List Nat} {S N : L2.St → Hp → Prop} (h : g x σ1 H fun σ2 H2 => wipe σ2 vs = wipe σ vs ∧ S σ2 H2) : g x σ1 H fun σ2 H2 => wipe σ2 vs = wipe σ vs ∧ tYes σ2 H2 fun b H3 => if b = true then S σ2 H3 else N σ2 H3 := by
  have e : (fun (σ2 : L2.St) H2 => wipe σ2 vs = wipe σ vs ∧ tYes σ2 H2 fun b H3 => if b = true then S σ2 H3 else N σ2 H3) = fun σ2 H2 => wipe σ2 vs = wipe σ vs ∧ S σ2 H2 := by
    funext σ2 H2
    show (_ ∧ if true = true then S σ2 H2 else N σ2 H2) = _
    rw [if_pos rfl]
  rw [e]; exact h
theorem i_tbD {tk tv : TE} {D : Addr} {σ : L2.St} {H : Hp} {N : Hp → Prop} (q : tk σ H fun y H1 => tv σ H1 fun z H2 => DpR (.ref D) y z H2 N) : tbD tk tv D σ H N := by
  have e : (fun (y : V) H1 => tv σ H1 fun z H2 => ∃ H3, DPut H2 D y z H3 ∧ N H3) = fun y H1 => tv σ H1 fun z H2 => DpR (.ref D) y z H2 N := by
    funext y H1
    congr 1
    funext z H2
    exact propext ⟨fun ⟨H3, a, b⟩ => ⟨D, H3, rfl, a, b⟩, fun ⟨a, H3, e, g, n⟩ => by cases e; exact ⟨H3, g, n⟩⟩
  show tk σ H fun y H1 => tv σ H1 fun z H2 => ∃ H3, DPut H2 D y z H3 ∧ N H3
  rw [e]; exact q
/-! ### lists by methods, copies -/
section
variable {H : Hp} {Q : VK} {l p : Addr} {xs : List V} {X : Cx} {K : PySem.W.Frag} {σ : L2.St}
theorem i_rPopAt {i : Int} {k : Nat} {y : V} (h : H l = some (.lst xs)) (b : -(2 ^ 63) ≤ i ∧ i < 2 ^ 63) (e : seqIndex? i xs.length = some k) (ey : xs[k]? = some y) (q : PutR H l (.lst (xs.eraseIdx k)) (Q y)) : rPopAt (.ref l) [.int i] H Q := ⟨l, xs, i, k, y, rfl, rfl, h, b.1, b.2, e, ey, q⟩
theorem i_rReverse (h : H l = some (.lst xs)) (q : PutR H l (.lst xs.reverse) (Q .non)) : rReverse (.ref l) [] H Q := ⟨l, xs, rfl, rfl, h, q⟩
theorem i_rClear (h : H l = some (.lst xs)) (q : PutR H l (.lst []) (Q .non)) : rClear (.ref l) [] H Q := ⟨l, xs, rfl, rfl, h, q⟩
theorem i_bm0 {T : String} {r : V → List V → Hp → VK → Prop} {to : TE} (q : to σ H fun x H1 => tyV K T x H1 ∧ r x [] H1 Q) : tBM0 K T r to σ H Q := q
theorem i_rDClear {kvs : List (Key × V)} (h : H p = some (.dK kvs)) (q : PutR H p (.dK []) (Q .non)) : rDClear (.ref p) [] H Q := ⟨p, kvs, rfl, rfl, h, q⟩
theorem i_tyD {kvs : List (Key × V)} {B : Prop} (h : H p = some (.dK kvs)) (q : B) : tyV K "dict" (.ref p) H ∧ B := ⟨.inr (.inr (.inl ⟨rfl, .inl ⟨kvs, h⟩⟩)), q⟩
def rDictD : List V → Hp → VK → Prop := fun xs H Q => ∃ (a : Addr) (kvs : List (Key × V)), xs = [.ref a] ∧ Rd H a (.dK kvs) ∧ NewR H (.dK kvs) Q
theorem call_dictDN : CallR X (.type "dict") rDictD := call_dictD
theorem i_dictD {kvs : List (Key × V)} (h : Rd H p (.dK kvs)) (q : NewR H (.dK kvs) Q) : rDictD [.ref p] H Q := ⟨p, kvs, rfl, h, q⟩
def rListDk : List V → Hp → VK → Prop := fun xs H Q => ∃ (a : Addr) (kvs : List (Key × V)), xs = [.ref a] ∧ Rd H a (.dK kvs) ∧ NewR H (.lst (kvs.map fun kv => kV kv.1)) Q
theorem call_listDN (hc : X.calm = true) : CallR X (.type "list") rListDk := call_listD hc
theorem i_listDk {kvs : List (Key × V)} (h : Rd H p (.dK kvs)) (q : NewR H (.lst (kvs.map fun kv => kV kv.1)) Q) : rListDk [.ref p] H Q := ⟨p, kvs, rfl, h, q⟩
def rListU (K : PySem.W.Frag) : List V → Hp → VK → Prop := fun xs H Q => ∃ p ys, xs = [.ref p] ∧ SqT K H p ys ∧ NewR H (.lst ys) Q
theorem call_listU : CallR X (.type "list") (rListU X.K) := fun pins s σ H xs us Q I r ⟨p, ys, e, h, q⟩ => call_list_of pins s σ H xs us Q I r ⟨p, ys, e, .inr h, q⟩
theorem i_listU {ys : List V} (h : SqT K H p ys) (q : NewR H (.lst ys) Q) : rListU K [.ref p] H Q := ⟨p, ys, rfl, h, q⟩
def rLenDk : List V → Hp → VK → Prop := fun xs H Q => ∃ (a : Addr) (kvs : List (Key × V)), xs = [.ref a] ∧ Rd H a (.dK kvs) ∧ Q (.int kvs.length) H
theorem call_lenDk : CallR X (.builtin "len") rLenDk := by
  intro pins s σ H xs us Q I r ⟨a, kvs, e, ha, q⟩
  subst e
  obtain ⟨u, rfl, ru⟩ := vals1 r
  cases ru
  exact d_len I ha fun t s' I' => ⟨.int kvs.length, H, I', ⟨t, rfl⟩, q⟩
theorem i_lenDk {kvs : List (Key × V)} (h : Rd H p (.dK kvs)) (q : Q (.int kvs.length) H) : rLenDk [.ref p] H Q := ⟨p, kvs, rfl, h, q⟩
end
end KX

namespace KX
open PySem PySem.Spec PyProof.Rows L2
/-! ### the part of a heap that never changes -/
def mutO : HO → Bool
  | .lst _ => true
  | .dK _ => true
  | .dT _ => true
  | .ins _ _ _ => true
  | _ => false
def tp (H : Hp) : Hp := fun b => match H b with
  | some o => if mutO o = true then none else some o
  | none => none
theorem tp_same {H : Hp} : Same (tp H) H := fun b o e => by
  unfold tp at e
  split at e
  · rename_i x hx
    split at e
    · cases e
    · cases e; exact hx
  · cases e
theorem tp_get {H : Hp} {b : Addr} {o : HO} (h : H b = some o) (m : mutO o = false) : tp H b = some o := by
  unfold tp; rw [h]; simp [m]
theorem tp_none {H : Hp} {b : Addr} {o : HO} (h : H b = some o) (m : mutO o = true) : tp H b = none := by
  unfold tp; rw [h]; simp [m]
theorem tp_mut {H : Hp} {b : Addr} {o : HO} (h : tp H b = some o) : mutO o = false := by
  unfold tp at h
  split at h
  · split at h
    · cases h
    · rename_i o' _ q; cases h; cases z : mutO o with | true => exact absurd z q | false => rfl
  · cases h
theorem Same.tp {H H' : Hp} (s : Same H H') : Same (tp H) (tp H') := fun b o e => tp_get (s _ _ (tp_same _ _ e)) (tp_mut e)
/-- everything but what D names is kept -/
def Fr (D : Addr → Prop) (H H' : Hp) : Prop := ∀ b o, ¬ D b → H b = some o → H' b = some o
def Mv (D : Addr → Prop) (H : Hp) : Prop := ∀ a, D a → ∃ o, H a = some o ∧ mutO o = true
theorem Fr.refl (D : Addr → Prop) (H : Hp) : Fr D H H := fun _ _ _ h => h
theorem Fr.of_same {D : Addr → Prop} {H H' : Hp} (s : Same H H') : Fr D H H' := fun b o _ h => s b o h
theorem Fr.of_off {a : Addr} {D : Addr → Prop} {H H' : Hp} (s : Off a H H') (d : D a) : Fr D H H' := fun b o n h => s b o (fun e => n (e ▸ d)) h
theorem Fr.trans {D : Addr → Prop} {H H1 H2 : Hp} (a : Fr D H H1) (b : Fr D H1 H2) : Fr D H H2 := fun c o n h => b c o n (a c o n h)
theorem Fr.mono {D D' : Addr → Prop} {H H' : Hp} (a : Fr D H H') (d : ∀ x, D x → D' x) : Fr D' H H' := fun c o n h => a c o (fun z => n (d c z)) h
theorem Fr.off {a : Addr} {H H' : Hp} (s : Fr (· = a) H H') : Off a H H' := fun b o n h => s b o n h
theorem Fr.tp {D : Addr → Prop} {H H' : Hp} (f : Fr D H H') (m : Mv D H) : Same (tp H) (tp H') := fun b o e => by
  refine tp_get (f b o (fun d => ?_) (tp_same _ _ e)) (tp_mut e)
  obtain ⟨x, hx, hm⟩ := m b d
  rw [tp_none hx hm] at e; cases e
theorem Off.tp {a : Addr} {H H' : Hp} {o : HO} (f : Off a H H') (h : H a = some o) (m : mutO o = true) : Same (KX.tp H) (KX.tp H') :=
  Fr.tp (D := (· = a)) (fun b x n e => f b x n e) fun b e => e ▸ ⟨o, h, m⟩
mutual
/-- data without lists and dicts -/
def flatD : PyData → Bool
  | .list _ => false
  | .dict _ => false
  | .tuple ds => flatDs ds
  | _ => true
def flatDs : List PyData → Bool
  | [] => true
  | d :: ds => flatD d && flatDs ds
end
theorem flatDs_all : ∀ ds : List PyData, flatDs ds = ds.all flatD
  | [] => rfl
  | d :: ds => by rw [flatDs, List.all_cons, flatDs_all ds]
mutual
theorem DaF.tp {b : Bool} {K : PySem.W.Frag} {H : Hp} : ∀ {v : V} {d : PyData}, DaF b K H v d → flatD d = true → DaF b K (tp H) v d
  | _, _, .non, _ => .non
  | _, _, .bl c, _ => .bl c
  | _, _, .int i, _ => .int i
  | _, _, .str x, _ => .str x
  | _, _, .lst .., h => by simp [flatD] at h
  | _, _, .dic .., h => by simp [flatD] at h
  | _, _, .tup hq ha, h => .tup (hq.imp (fun r => r.imp (fun e => tp_get e rfl) fun ⟨o, e⟩ => ⟨o, tp_get e rfl⟩) id) (DaAllF.tp ha (by simpa [flatD] using h))
theorem DaAllF.tp {b : Bool} {K : PySem.W.Frag} {H : Hp} : ∀ {vs : List V} {ds : List PyData}, DaAllF b K H vs ds → flatDs ds = true → DaAllF b K (tp H) vs ds
  | _, _, .nil, _ => .nil
  | _, _, .cons a r, h => by
    rw [flatDs, Bool.and_eq_true] at h
    exact .cons (DaF.tp a h.1) (DaAllF.tp r h.2)
end
/-! ### things that stand at their places, which may change -/
structure Lay (R : Type) where
  at_ : R → Addr
  ok : R → Prop
  is : Hp → R → HO → Prop
  mono : ∀ {T T' x o}, Same T T' → is T x o → is T' x o
  mu : ∀ {T x o}, is T x o → mutO o = true
structure Lay.At {R : Type} (Y : Lay R) (H : Hp) : Prop where
  get : ∀ x, Y.ok x → ∃ o, H (Y.at_ x) = some o ∧ Y.is (tp H) x o
  inj : ∀ x y, Y.ok x → Y.ok y → Y.at_ x = Y.at_ y → x = y
def Lay.Own {R : Type} (Y : Lay R) (a : Addr) : Prop := ∃ x, Y.ok x ∧ Y.at_ x = a
section
variable {R : Type} {Y Y' : Lay R} {H H' : Hp} {D : Addr → Prop}
theorem Lay.At.mv (h : Y.At H) : Mv Y.Own H := fun a ⟨x, k, e⟩ => by
  obtain ⟨o, g, i⟩ := h.get x k
  exact ⟨o, e ▸ g, Y.mu i⟩
theorem Lay.At.same (h : Y.At H) (s : Same H H') : Y.At H' := ⟨fun x k => by
  obtain ⟨o, g, i⟩ := h.get x k
  exact ⟨o, s _ _ g, Y.mono (KX.Same.tp s) i⟩, h.inj⟩
theorem Lay.At.fr (h : Y.At H) (f : Fr D H H') (m : Mv D H) (dj : ∀ a, D a → ¬ Y.Own a) : Y.At H' := ⟨fun x k => by
  obtain ⟨o, g, i⟩ := h.get x k
  exact ⟨o, f _ _ (fun d => dj _ d ⟨x, k, rfl⟩) g, Y.mono (KX.Fr.tp f m) i⟩, h.inj⟩
theorem Lay.At.off {a : Addr} {o : HO} (h : Y.At H) (f : Off a H H') (e : H a = some o) (m : mutO o = true) (dj : ¬ Y.Own a) : Y.At H' :=
  h.fr (D := (· = a)) (fun b x n z => f b x n z) (fun b z => z ▸ ⟨o, e, m⟩) fun b z => z ▸ dj
theorem Lay.At.set (h : Y.At H) {x0 : R} {o' : HO} (k : Y.ok x0) (f : Off (Y.at_ x0) H H') (e : H' (Y.at_ x0) = some o') (eok : ∀ x, Y'.ok x → Y.ok x) (eat : ∀ x, Y'.at_ x = Y.at_ x)
    (keep : ∀ T x o, Y'.ok x → x ≠ x0 → Y.is T x o → Y'.is T x o) (new : Y'.is (tp H') x0 o') : Y'.At H' := by
  obtain ⟨o, g, i⟩ := h.get x0 k
  have st : Same (tp H) (tp H') := Off.tp f g (Y.mu i)
  refine ⟨fun x kx => ?_, fun x y kx ky z => h.inj x y (eok x kx) (eok y ky) (by rw [← eat, ← eat]; exact z)⟩
  by_cases z : x = x0
  · subst z; exact ⟨o', by rw [eat]; exact e, new⟩
  · obtain ⟨o1, g1, i1⟩ := h.get x (eok x kx)
    exact ⟨o1, by rw [eat]; exact f _ _ (fun q => z (h.inj x x0 (eok x kx) k q)) g1, Y'.mono st (keep _ _ _ kx z i1)⟩
theorem Lay.At.ne (h : Y.At H) {x y : R} (kx : Y.ok x) (ky : Y.ok y) (n : x ≠ y) : Y.at_ x ≠ Y.at_ y := fun e => n (h.inj x y kx ky e)
theorem Lay.At.fresh (h : Y.At H) {a : Addr} (n : H a = none) : ¬ Y.Own a := fun ⟨x, k, e⟩ => by
  obtain ⟨o, g, _⟩ := h.get x k
  rw [e, n] at g; cases g
theorem Lay.At.not_tp (h : Y.At H) {a : Addr} {o : HO} (e : H a = some o) (m : mutO o = false) : ¬ Y.Own a := fun z => by
  obtain ⟨x, g, q⟩ := h.mv a z
  rw [e] at g; cases g; rw [m] at q; cases q
end
/-! ### tables over the names -/
section
variable {α κ : Type} [DecidableEq α] [DecidableEq κ] {g : α → κ} {f : α → V}
theorem valV_tab (inj : ∀ a b, g a = g b → a = b) : ∀ {xs : List α} {a : α}, valV (xs.map fun x => (g x, f x)) (g a) = if a ∈ xs then some (f a) else none
  | [], a => by simp [valV_nil]
  | x :: xs, a => by
    rw [List.map_cons]
    by_cases e : x = a
    · subst e; rw [valV_pos rfl]; simp
    · rw [valV_neg (fun z => e (inj _ _ z)), valV_tab inj]
      have : a ≠ x := fun z => e z.symm
      simp [this]
theorem putK_tab (inj : ∀ a b, g a = g b → a = b) {xs : List α} {a : α} {v : V} (h : a ∈ xs) : putK (xs.map fun x => (g x, f x)) (g a) v = xs.map fun x => (g x, if x = a then v else f x) := by
  have any : ((xs.map fun x => (g x, f x)).any fun kv => decide (kv.1 = g a)) = true := List.any_eq_true.mpr ⟨(g a, f a), List.mem_map.mpr ⟨a, h, rfl⟩, by simp⟩
  unfold putK
  rw [if_pos any, List.map_map]
  refine List.map_congr_left fun x _ => ?_
  show (if g x = g a then (g x, v) else (g x, f x)) = _
  by_cases e : x = a
  · subst e; simp
  · rw [if_neg (fun z => e (inj _ _ z)), if_neg e]
theorem putK_add {xs : List α} {a : α} (inj : ∀ a b, g a = g b → a = b) (h : ¬ a ∈ xs) : putK (xs.map fun x => (g x, f x)) (g a) (f a) = (xs ++ [a]).map fun x => (g x, f x) := by
  rw [putK_new _ (by rw [valV_tab inj, if_neg h]), List.map_append]
  rfl
end
theorem inr_inj (a b : Str) (h : (Sum.inr a : Key) = .inr b) : a = b := by cases h; rfl
theorem inl_inj (a b : Int) (h : (Sum.inl a : Key) = .inl b) : a = b := by cases h; rfl
def kk (q : Str × Str) : List Key := [.inr q.1, .inr q.2]
theorem kk_inj (a b : Str × Str) (h : kk a = kk b) : a = b := by
  obtain ⟨a1, a2⟩ := a; obtain ⟨b1, b2⟩ := b
  unfold kk at h
  cases h; rfl
/-! ### a catalog -/
structure CS where
  ns : List Str
  us : Str → List Str
  cnt : Str → Nat
  col : Str → Str → List PyData
  gone : Str → List Int
  log : List PyData
def CS.pairs (S : CS) : List (Str × Str) := S.ns.flatMap fun m => (S.us m).map fun u => (m, u)
theorem CS.mem_pairs {S : CS} {m u : Str} : (m, u) ∈ S.pairs ↔ m ∈ S.ns ∧ u ∈ S.us m := by
  unfold CS.pairs
  simp only [List.mem_flatMap, List.mem_map, Prod.mk.injEq]
  constructor
  · rintro ⟨a, ha, b, hb, rfl, rfl⟩; exact ⟨ha, hb⟩
  · rintro ⟨a, b⟩; exact ⟨m, a, u, b, rfl, rfl⟩
structure CL where
  p : Addr
  dx : Addr
  a1 : Addr
  a2 : Addr
  a3 : Addr
  a4 : Addr
  a5 : Addr
  tu : Str → Addr
  tc : Str → Str → Addr
  tw : Str → Addr
inductive CRo
  | ob | use | win | cnt | wdr | log
  | col (m u : Str)
  | gon (n : Str)
def cflds (L : CL) : List (Str × V) := [("use_table", .ref L.a1), ("window_table", .ref L.a2), ("count_table", .ref L.a3), ("withdrawn_table", .ref L.a4), ("record", .ref L.a5)]
def CL.at (L : CL) : CRo → Addr
  | .ob => L.p
  | .use => L.a1
  | .win => L.a2
  | .cnt => L.a3
  | .wdr => L.a4
  | .log => L.a5
  | .col m u => L.tc m u
  | .gon n => L.tw n
def CS.ok (S : CS) : CRo → Prop
  | .col m u => m ∈ S.ns ∧ u ∈ S.us m
  | .gon n => n ∈ S.ns
  | _ => True
def tabS (ns : List Str) (f : Str → V) : List (Key × V) := ns.map fun n => (.inr n, f n)
def tabP (ps : List (Str × Str)) (f : Str → Str → V) : List (List Key × V) := ps.map fun q => (kk q, f q.1 q.2)
def tabI (ks : List Int) : List (Key × V) := ks.map fun k => (.inl k, .bl true)
def CS.is (K : PySem.W.Frag) (C : Addr) (L : CL) (S : CS) (T : Hp) : CRo → HO → Prop
  | .ob, o => o = .ins C L.dx (cflds L)
  | .use, o => o = .dK (tabS S.ns fun n => .ref (L.tu n)) ∧ ∀ n ∈ S.ns, T (L.tu n) = some (.tup ((S.us n).map V.str))
  | .win, o => o = .dT (tabP S.pairs fun m u => .ref (L.tc m u))
  | .cnt, o => o = .dK (tabS S.ns fun n => .int (S.cnt n))
  | .wdr, o => o = .dK (tabS S.ns fun n => .ref (L.tw n))
  | .log, o => ∃ vs, o = .lst vs ∧ DaAllF false K T vs S.log
  | .col m u, o => ∃ vs, o = .lst vs ∧ DaAllF false K T vs (S.col m u)
  | .gon n, o => o = .dK (tabI (S.gone n))
def CatY (K : PySem.W.Frag) (C : Addr) (L : CL) (S : CS) : Lay CRo where
  at_ := L.at
  ok := S.ok
  is := S.is K C L
  mono := fun {T T' x o} s h => by
    cases x with
    | use => exact ⟨h.1, fun n hn => s _ _ (h.2 n hn)⟩
    | log => obtain ⟨vs, e, d⟩ := h; exact ⟨vs, e, DaAllF.same s d⟩
    | col m u => obtain ⟨vs, e, d⟩ := h; exact ⟨vs, e, DaAllF.same s d⟩
    | _ => exact h
  mu := fun {T x o} h => by
    cases x with
    | use => rw [h.1]; rfl
    | log => obtain ⟨vs, e, d⟩ := h; rw [e]; rfl
    | col m u => obtain ⟨vs, e, d⟩ := h; rw [e]; rfl
    | ob => rw [show o = _ from h]; rfl
    | win => rw [show o = _ from h]; rfl
    | cnt => rw [show o = _ from h]; rfl
    | wdr => rw [show o = _ from h]; rfl
    | gon n => rw [show o = _ from h]; rfl
abbrev CatAt (K : PySem.W.Frag) (C : Addr) (H : Hp) (L : CL) (S : CS) : Prop := (CatY K C L S).At H
section
variable {K : PySem.W.Frag} {C : Addr} {H H' : Hp} {L : CL} {S : CS}
theorem CatAt.ob (h : CatAt K C H L S) : H L.p = some (.ins C L.dx (cflds L)) := by obtain ⟨o, g, e⟩ := h.get .ob trivial; rw [show o = _ from e] at g; exact g
theorem CatAt.use (h : CatAt K C H L S) : H L.a1 = some (.dK (tabS S.ns fun n => .ref (L.tu n))) := by obtain ⟨o, g, e⟩ := h.get .use trivial; rw [show o = _ from e.1] at g; exact g
theorem CatAt.win (h : CatAt K C H L S) : H L.a2 = some (.dT (tabP S.pairs fun m u => .ref (L.tc m u))) := by obtain ⟨o, g, e⟩ := h.get .win trivial; rw [show o = _ from e] at g; exact g
theorem CatAt.cnt (h : CatAt K C H L S) : H L.a3 = some (.dK (tabS S.ns fun n => .int (S.cnt n))) := by obtain ⟨o, g, e⟩ := h.get .cnt trivial; rw [show o = _ from e] at g; exact g
theorem CatAt.wdr (h : CatAt K C H L S) : H L.a4 = some (.dK (tabS S.ns fun n => .ref (L.tw n))) := by obtain ⟨o, g, e⟩ := h.get .wdr trivial; rw [show o = _ from e] at g; exact g
theorem CatAt.log (h : CatAt K C H L S) : ∃ vs, H L.a5 = some (.lst vs) ∧ DaAllF false K (tp H) vs S.log := by obtain ⟨o, g, vs, e, d⟩ := h.get .log trivial; rw [e] at g; exact ⟨vs, g, d⟩
theorem CatAt.tup (h : CatAt K C H L S) {n : Str} (hn : n ∈ S.ns) : H (L.tu n) = some (.tup ((S.us n).map V.str)) := by obtain ⟨o, g, e⟩ := h.get .use trivial; exact tp_same _ _ (e.2 n hn)
theorem CatAt.col (h : CatAt K C H L S) {m u : Str} (hm : m ∈ S.ns) (hu : u ∈ S.us m) : ∃ vs, H (L.tc m u) = some (.lst vs) ∧ DaAllF false K (tp H) vs (S.col m u) := by
  obtain ⟨o, g, vs, e, d⟩ := h.get (.col m u) ⟨hm, hu⟩; rw [e] at g; exact ⟨vs, g, d⟩
theorem CatAt.gon (h : CatAt K C H L S) {n : Str} (hn : n ∈ S.ns) : H (L.tw n) = some (.dK (tabI (S.gone n))) := by obtain ⟨o, g, e⟩ := h.get (.gon n) hn; rw [show o = _ from e] at g; exact g
theorem tabS_get {ns : List Str} {f : Str → V} {n : Str} : valV (tabS ns f) (.inr n) = if n ∈ ns then some (f n) else none := valV_tab inr_inj
theorem tabP_get {ps : List (Str × Str)} {f : Str → Str → V} {m u : Str} : valV (tabP ps f) [.inr m, .inr u] = if (m, u) ∈ ps then some (f m u) else none := by
  have z := valV_tab (g := kk) (f := fun q : Str × Str => f q.1 q.2) (xs := ps) (a := (m, u)) kk_inj
  refine z.trans ?_
  by_cases q : (m, u) ∈ ps
  · rw [if_pos q, if_pos q]
  · rw [if_neg q, if_neg q]
theorem tabI_get {ks : List Int} {k : Int} : valV (tabI ks) (.inl k) = if k ∈ ks then some (.bl true) else none := valV_tab (f := fun _ => .bl true) inl_inj
theorem tabS_put {ns : List Str} {f : Str → V} {n : Str} {v : V} (h : n ∈ ns) : putK (tabS ns f) (.inr n) v = tabS ns fun x => if x = n then v else f x := putK_tab inr_inj h
theorem tabI_put {ks : List Int} {k : Int} (h : ¬ k ∈ ks) : putK (tabI ks) (.inl k) (.bl true) = tabI (ks ++ [k]) := putK_add (f := fun _ => .bl true) inl_inj h
/-! what the dicts hold -/
theorem dget_S {a : Addr} {ns : List Str} {f : Str → V} {n : Str} (h : Rd H a (.dK (tabS ns f))) (hn : n ∈ ns) : DGet H a (.str n) (some (f n)) := .inl ⟨_, .inr n, h, rfl, by rw [tabS_get, if_pos hn]⟩
theorem dget_S0 {a : Addr} {ns : List Str} {f : Str → V} {n : Str} (h : Rd H a (.dK (tabS ns f))) : DGet H a (.str n) (if n ∈ ns then some (f n) else none) := .inl ⟨_, .inr n, h, rfl, by rw [tabS_get]⟩
theorem dget_P {a b : Addr} {ps : List (Str × Str)} {f : Str → Str → V} {m u : Str} (h : Rd H a (.dT (tabP ps f))) (hb : H b = some (.tup [.str m, .str u])) (hn : (m, u) ∈ ps) : DGet H a (.ref b) (some (f m u)) := .inr ⟨_, [.inr m, .inr u], b, h, rfl, hb, by rw [tabP_get, if_pos hn]⟩
theorem dget_I0 {a : Addr} {ks : List Int} {k : Int} (h : Rd H a (.dK (tabI ks))) : DGet H a (.int k) (if k ∈ ks then some (.bl true) else none) := .inl ⟨_, .inl k, h, rfl, by rw [tabI_get]⟩
/-! changes -/
def CS.setCnt (S : CS) (n : Str) (k : Nat) : CS := { S with cnt := fun x => if x = n then k else S.cnt x }
def CS.addCol (S : CS) (m u : Str) (d : PyData) : CS := { S with col := fun x y => if x = m ∧ y = u then S.col x y ++ [d] else S.col x y }
def CS.addGone (S : CS) (n : Str) (k : Int) : CS := { S with gone := fun x => if x = n then S.gone x ++ [k] else S.gone x }
def CS.addRec (S : CS) (d : PyData) : CS := { S with log := S.log ++ [d] }
theorem CatAt.setCnt (h : CatAt K C H L S) {n : Str} {k : Nat} (hn : n ∈ S.ns) (f : Off L.a3 H H') (e : H' L.a3 = some (.dK (putK (tabS S.ns fun n => .int (S.cnt n)) (.inr n) (.int k)))) : CatAt K C H' L (S.setCnt n k) := by
  rw [tabS_put hn] at e
  refine Lay.At.set (Y' := CatY K C L (S.setCnt n k)) h (x0 := .cnt) trivial f e (fun x k => by cases x <;> exact k) (fun x => rfl) (fun T x o kx n h => ?_) ?_
  · cases x <;> first | exact h | exact absurd rfl n
  · show HO.dK _ = HO.dK (tabS S.ns fun x => .int ((if x = n then k else S.cnt x : Nat)))
    congr 2
    funext x
    split <;> rfl
theorem CatAt.addCol (h : CatAt K C H L S) {m u : Str} {vs : List V} {v : V} {d : PyData} (hm : m ∈ S.ns) (hu : u ∈ S.us m) (f : Off (L.tc m u) H H') (g : H (L.tc m u) = some (.lst vs)) (e : H' (L.tc m u) = some (.lst (vs ++ [v]))) (hd : DaF false K (tp H) v d) : CatAt K C H' L (S.addCol m u d) := by
  obtain ⟨vs', g', ds⟩ := h.col hm hu
  rw [g] at g'; cases g'
  have st : Same (tp H) (tp H') := Off.tp f g rfl
  refine Lay.At.set (Y' := CatY K C L (S.addCol m u d)) h (x0 := .col m u) ⟨hm, hu⟩ f e (fun x k => by cases x <;> exact k) (fun x => rfl) (fun T x o kx n h => ?_) ?_
  · cases x with
    | col a b =>
      obtain ⟨ws, e1, e2⟩ := h
      refine ⟨ws, e1, ?_⟩
      show DaAllF false K T ws (if a = m ∧ b = u then S.col a b ++ [d] else S.col a b)
      rw [if_neg (fun z => n (by rw [z.1, z.2]))]
      exact e2
    | _ => exact h
  · refine ⟨_, rfl, ?_⟩
    show DaAllF false K (tp H') (vs ++ [v]) (if m = m ∧ u = u then S.col m u ++ [d] else S.col m u)
    rw [if_pos ⟨rfl, rfl⟩]
    exact (DaAllF.same st ds).app (.cons (DaF.same st hd) .nil)
theorem CatAt.addGone (h : CatAt K C H L S) {n : Str} {k : Int} (hn : n ∈ S.ns) (hk : ¬ k ∈ S.gone n) (f : Off (L.tw n) H H') (e : H' (L.tw n) = some (.dK (putK (tabI (S.gone n)) (.inl k) (.bl true)))) : CatAt K C H' L (S.addGone n k) := by
  rw [tabI_put hk] at e
  refine Lay.At.set (Y' := CatY K C L (S.addGone n k)) h (x0 := .gon n) hn f e (fun x k => by cases x <;> exact k) (fun x => rfl) (fun T x o kx z h => ?_) ?_
  · cases x with
    | gon a =>
      show o = .dK (tabI (if a = n then S.gone a ++ [k] else S.gone a))
      rw [if_neg (fun q => z (by rw [q]))]
      exact h
    | _ => exact h
  · show HO.dK _ = HO.dK (tabI (if n = n then S.gone n ++ [k] else S.gone n))
    rw [if_pos rfl]
theorem CatAt.addRec (h : CatAt K C H L S) {vs : List V} {v : V} {d : PyData} (f : Off L.a5 H H') (g : H L.a5 = some (.lst vs)) (e : H' L.a5 = some (.lst (vs ++ [v]))) (hd : DaF false K (tp H) v d) : CatAt K C H' L (S.addRec d) := by
  obtain ⟨vs', g', ds⟩ := h.log
  rw [g] at g'; cases g'
  have st : Same (tp H) (tp H') := Off.tp f g rfl
  refine Lay.At.set (Y' := CatY K C L (S.addRec d)) h (x0 := .log) trivial f e (fun x k => by cases x <;> exact k) (fun x => rfl) (fun T x o kx n h => ?_) ?_
  · cases x <;> first | exact h | exact absurd rfl n
  · exact ⟨_, rfl, (DaAllF.same st ds).app (.cons (DaF.same st hd) .nil)⟩
theorem fld_use : (cflds L).lookup ("use_table" : Str) = some (.ref L.a1) := by rfl
theorem fld_win : (cflds L).lookup ("window_table" : Str) = some (.ref L.a2) := by rfl
theorem fld_cnt : (cflds L).lookup ("count_table" : Str) = some (.ref L.a3) := by rfl
theorem fld_wdr : (cflds L).lookup ("withdrawn_table" : Str) = some (.ref L.a4) := by rfl
theorem fld_rec : (cflds L).lookup ("record" : Str) = some (.ref L.a5) := by rfl
theorem fld_no {m : Str} (h : (["use_table", "window_table", "count_table", "withdrawn_table", "record"] : List Str).contains m = false) : (cflds L).lookup m = none := by
  simp only [List.contains_eq_mem, List.mem_cons, List.not_mem_nil, or_false, decide_eq_false_iff_not, not_or] at h
  unfold cflds
  simp only [List.lookup, beq_eq_false_iff_ne.mpr h.1, beq_eq_false_iff_ne.mpr h.2.1, beq_eq_false_iff_ne.mpr h.2.2.1, beq_eq_false_iff_ne.mpr h.2.2.2.1, beq_eq_false_iff_ne.mpr h.2.2.2.2]
end
end KX

namespace KX
open PySem PySem.Spec PyProof.Rows L2
section
variable {K : PySem.W.Frag} {H : Hp} {Q : VK} {P : Program} {w : World}
theorem i_rSum {p : Addr} {ns : List Int} (h : SqL K H p (ns.map V.int)) (q : Q (.int ns.sum) H) : rSum K [.ref p] H Q := ⟨p, ns, rfl, h, q⟩
theorem i_lenK {a : Addr} {S : Key → Bool} {n : Nat} (h : H a = some (SetK P w a S n)) (q : Q (.int n) H) : rLenK P w [.ref a] H Q := ⟨a, S, n, rfl, h, q⟩
def SaR (P : Program) (w : World) (D : Addr) (y : V) (H1 : Hp) (N : Hp → Prop) : Prop := ∃ (k : Key) (S : Key → Bool) (n : Nat), y = kV k ∧ H1 D = some (SetK P w D S n) ∧ n + 1 < scanBound ∧ N (upd H1 D (SetK P w D (fun j => S j || decide (j = k)) (if S k = true then n else n + 1)))
theorem i_tbS {te : TE} {D : Addr} {σ : L2.St} {N : Hp → Prop} (q : te σ H fun y H1 => SaR P w D y H1 N) : tbS P w te D σ H N := q
theorem i_saR {D : Addr} {S : Key → Bool} {n : Nat} {k : Key} {N : Hp → Prop} (h : H D = some (SetK P w D S n)) (lt : n + 1 < scanBound) (new : S k = false) (q : PutR H D (SetK P w D (fun j => S j || decide (j = k)) (n + 1)) N) : SaR P w D (kV k) H N :=
  ⟨k, S, n, rfl, h, lt, by rw [new]; exact q⟩
end
theorem i_exqT {K : PySem.W.Frag} {H : Hp} {p : Addr} {xs : List V} {B : Prop} (h : SqT K H p xs) (q : B) : (∃ xs, SqT K H p xs) ∧ B := ⟨⟨xs, h⟩, q⟩
theorem i_exqL {K : PySem.W.Frag} {H : Hp} {p : Addr} {xs : List V} {B : Prop} (h : SqL K H p xs) (q : B) : (∃ xs, SqL K H p xs) ∧ B := ⟨⟨xs, h⟩, q⟩
theorem pi_tupK {X : Cx} {K : PySem.W.Frag} {tg e : Expr} {te : TE} (h : X.K = K) (he : PE X e te) : PI X tg e (iTup K te) := h ▸ pi_tup he
/-- a table at D over xs, whose values are new things -/
structure TabQ {α : Type} (mk : List α → (α → Addr) → HO) (el : HO) (H1 : Hp) (D : Addr) (xs : List α) (f : α → Addr) (H : Hp) : Prop where
  tab : H D = some (mk xs f)
  els : ∀ x ∈ xs, H1 (f x) = none ∧ f x ≠ D ∧ H (f x) = some el
  inj : ∀ x ∈ xs, ∀ y ∈ xs, f x = f y → x = y
theorem TabQ.same {α : Type} {mk : List α → (α → Addr) → HO} {el : HO} {H1 : Hp} {D : Addr} {xs : List α} {f : α → Addr} {H H2 : Hp} (q : TabQ mk el H1 D xs f H) (s : Same H H2) : TabQ mk el H1 D xs f H2 :=
  ⟨s _ _ q.tab, fun x hx => ⟨(q.els x hx).1, (q.els x hx).2.1, s _ _ (q.els x hx).2.2⟩, q.inj⟩
theorem TabQ.add {α : Type} [DecidableEq α] {mk : List α → (α → Addr) → HO} {el : HO} {H1 : Hp} {D a : Addr} {x : α} {xs : List α} {f : α → Addr} {H H2 H3 : Hp} (q : TabQ mk el H1 D xs f H) (nx : ¬ x ∈ xs) (s1 : Same H1 H ∨ H1 a = none) (s : Same H H2) (na : H a = none) (ea : H2 a = some el) (o : Off D H2 H3)
    (e : H3 D = some (mk (xs ++ [x]) fun y => if y = x then a else f y)) : TabQ mk el H1 D (xs ++ [x]) (fun y => if y = x then a else f y) H3 := by
  have nD : a ≠ D := fun z => by rw [z, q.tab] at na; cases na
  have n1 : H1 a = none := s1.elim (fun s1 => none_of s1 na) id
  have old : ∀ y ∈ xs, f y ≠ a := fun y hy z => by rw [← z, (q.els y hy).2.2] at na; cases na
  have ne : ∀ y ∈ xs, y ≠ x := fun y hy z => nx (z ▸ hy)
  refine ⟨e, fun y hy => ?_, fun y hy z hz h => ?_⟩
  · rcases List.mem_append.mp hy with hy | hy
    · rw [if_neg (ne y hy)]
      exact ⟨(q.els y hy).1, (q.els y hy).2.1, o.get (q.els y hy).2.1 (s _ _ (q.els y hy).2.2)⟩
    · rw [List.mem_singleton] at hy
      subst hy
      rw [if_pos rfl]
      exact ⟨n1, nD, o.get nD ea⟩
  · rcases List.mem_append.mp hy with hy | hy <;> rcases List.mem_append.mp hz with hz | hz
    · rw [if_neg (ne y hy), if_neg (ne z hz)] at h; exact q.inj y hy z hz h
    · rw [List.mem_singleton] at hz; rw [hz, if_neg (ne y hy), if_pos rfl] at h; exact absurd h (old y hy)
    · rw [List.mem_singleton] at hy; rw [hy, if_pos rfl, if_neg (ne z hz)] at h; exact absurd h.symm (old z hz)
    · rw [List.mem_singleton] at hy hz; rw [hy, hz]
def mkP (xs : List (Str × Str)) (f : Str × Str → Addr) : HO := .dT (tabP xs fun m u => .ref (f (m, u)))
def mkS (xs : List Str) (f : Str → Addr) : HO := .dK (tabS xs fun n => .ref (f n))
theorem mkP_add {xs : List (Str × Str)} {f : Str × Str → Addr} {q : Str × Str} {a : Addr} (h : ¬ q ∈ xs) : HO.dT (putK (tabP xs fun m u => .ref (f (m, u))) (kk q) (.ref a)) = mkP (xs ++ [q]) fun y => if y = q then a else f y := by
  have e1 : (tabP xs fun m u => V.ref (f (m, u))) = tabP xs fun m u => .ref (if (m, u) = q then a else f (m, u)) := by
    unfold tabP
    refine List.map_congr_left fun x hx => ?_
    have : x ≠ q := fun z => h (z ▸ hx)
    show (kk x, V.ref (f (x.1, x.2))) = (kk x, V.ref (if (x.1, x.2) = q then a else f (x.1, x.2)))
    rw [if_neg this]
  rw [e1]
  have e2 := putK_add (g := kk) (f := fun x : Str × Str => V.ref (if x = q then a else f x)) (xs := xs) (a := q) kk_inj h
  rw [if_pos rfl] at e2
  exact congrArg HO.dT e2
theorem mkS_add {xs : List Str} {f : Str → Addr} {n : Str} {a : Addr} (h : ¬ n ∈ xs) : HO.dK (putK (tabS xs fun n => .ref (f n)) (.inr n) (.ref a)) = mkS (xs ++ [n]) fun y => if y = n then a else f y := by
  have e1 : (tabS xs fun n => V.ref (f n)) = tabS xs fun y => .ref (if y = n then a else f y) := by
    unfold tabS
    refine List.map_congr_left fun x hx => ?_
    have : x ≠ n := fun z => h (z ▸ hx)
    show (Sum.inr x, V.ref (f x)) = (Sum.inr x, V.ref (if x = n then a else f x))
    rw [if_neg this]
  rw [e1]
  have e2 := putK_add (g := fun n : Str => (Sum.inr n : Key)) (f := fun x : Str => V.ref (if x = n then a else f x)) (xs := xs) (a := n) inr_inj h
  rw [if_pos rfl] at e2
  exact congrArg HO.dK e2
theorem tabS_add {xs : List Str} {n : Str} {f : Str → V} (h : ¬ n ∈ xs) : putK (tabS xs f) (.inr n) (f n) = tabS (xs ++ [n]) f := putK_add (g := fun n : Str => (Sum.inr n : Key)) inr_inj h
theorem take_add {α : Type} {xs : List α} {i : Nat} {d : α} (h : i < xs.length) : xs.take (i + 1) = xs.take i ++ [xs.getD i d] := by
  rw [List.take_succ]
  simp [List.getD, h]
theorem take_new {α : Type} {xs : List α} {i : Nat} {d : α} (nd : xs.Nodup) (h : i < xs.length) : ¬ xs.getD i d ∈ xs.take i := by
  intro m
  obtain ⟨j, hj, e⟩ := List.getElem_of_mem m
  rw [List.length_take] at hj
  rw [List.getElem_take] at e
  have e2 : xs.getD i d = xs[i] := by simp [List.getD, h]
  rw [e2] at e
  have hl : j < i := by omega
  exact List.pairwise_iff_getElem.mp nd j i (by omega) h hl e
theorem da_uses {b : Bool} {K : PySem.W.Frag} {H : Hp} {tu : Str → Addr} {us : Str → List Str} : ∀ {ns : List Str}, (∀ n ∈ ns, H (tu n) = some (.tup ((us n).map V.str))) → DaKvF b K H (tabS ns fun n => .ref (tu n)) (ns.map fun n => (.str n, .tuple ((us n).map .str)))
  | [], _ => .nil
  | n :: ns, h => .cons (.tup (SqT.of (h n (by simp))) (da_strs (us n))) (da_uses fun m hm => h m (List.mem_cons_of_mem _ hm))
where
  da_strs : ∀ xs : List Str, DaAllF b K H (xs.map V.str) (xs.map .str)
    | [] => .nil
    | _ :: xs => .cons (.str _) (da_strs xs)
theorem da_strs {b : Bool} {K : PySem.W.Frag} {H : Hp} : ∀ xs : List Str, DaAllF b K H (xs.map V.str) (xs.map .str)
  | [] => .nil
  | _ :: xs => .cons (.str _) (da_strs xs)
end KX

namespace KX
open PySem PySem.Spec PyProof.Rows L2
/-! ### enumerate(a tuple) -/
section
variable {prog : Program} {w : World} {A : Around} {E : Value → Shared → Prop} {s : Shared}
end
def IteT (K : PySem.W.Frag) (a : Addr) : It :=
  ⟨fun i H => ∃ (xs : List V) (x : V), SqT K H a xs ∧ xs[i]? = some x, fun i H v H' => ∃ T x, v = .ref T ∧ H T = none ∧ H' = L2.upd H T (.tup [.int (i : Nat), x]) ∧ ∀ xs, SqT K H a xs → xs[i]? = some x, fun i H => ∃ xs : List V, SqT K H a xs ∧ xs.length ≤ i⟩
def iEnumT (K : PySem.W.Frag) (ta : TA) : TI := fun σ H R => ta σ H fun vs H1 => ∃ a xs, vs = [.ref a] ∧ SqT K H1 a xs ∧ R (IteT K a) H1
end KX

namespace KX
open PySem PySem.Spec PyProof.Rows L2
/-! ### a comprehension within another one: its free names were relabelled -/
def relF (env : Env) : Str × NameKind → Str × NameKind := fun (n, k) => if (k == NameKind.free && env.scope.kind == .function && env.kindOf n == some .cell) then (n, NameKind.cell) else (n, k)
/-! ### list comprehensions of two fors, over the dict's walkers -/
def AccR (D : Addr) (y : V) (H : Hp) (N : Hp → Prop) : Prop := ∃ acc, H D = some (.lst acc) ∧ acc.length < sizeLine ∧ PutR H D (.lst (acc ++ [y])) N
def tbAcc (te : TE) : Addr → TB := fun D σ H N => te σ H fun y H7 => AccR D y H7 N
/-! ### list(range), dict(pairs), remove -/
theorem i_lstRg {te : L2.St → Hp → (Int → Int → Hp → Prop) → Prop} {σ : L2.St} {H : Hp} {Q : VK} (q : te σ H fun a b H1 => RgOk a b ∧ NewR H1 (.lst (rgV a b)) Q) : tLstRg te σ H Q := q
theorem i_rg1 {ta : TE} {σ : L2.St} {H : Hp} {Q : Int → Int → Hp → Prop} (q : ta σ H fun x H1 => ∃ n, x = .int n ∧ Q 0 n H1) : tRg1 ta σ H Q := q
def rDictP (K : PySem.W.Frag) : List V → Hp → VK → Prop := fun xs H Q => ∃ (a : Addr) (ps : List Addr) (kvs : List (Key × V)), xs = [.ref a] ∧ SqL K H a (ps.map V.ref) ∧ Paired (fun p kv => SqT K H p [kV kv.1, kv.2]) ps kvs ∧ NewR H (.dK (mergeK [] kvs)) Q
theorem call_dictPN {X : Cx} (hc : X.calm = true) : CallR X (.type "dict") (rDictP X.K) := call_dictP hc
theorem i_dictP {K : PySem.W.Frag} {H : Hp} {Q : VK} {a : Addr} {ps : List Addr} {kvs : List (Key × V)} (h : SqL K H a (ps.map V.ref)) (hp : Paired (fun p kv => SqT K H p [kV kv.1, kv.2]) ps kvs) (q : NewR H (.dK (mergeK [] kvs)) Q) : rDictP K [.ref a] H Q := ⟨a, ps, kvs, rfl, h, hp, q⟩
/-! ### d.get -/
end KX

namespace KX
open PySem PySem.Spec PyProof.Rows L2
/-! ### the heap without some addresses -/
def wos (zs : List Addr) (H : Hp) : Hp := fun b => if b ∈ zs then none else H b
section
variable {zs zs' : List Addr} {H H' H0 : Hp} {a b r : Addr} {o : HO}
end
end KX

namespace KX
open PySem PySem.Spec PyProof.Rows L2
/-! ### list(zip(a, b)): of lists and tuples in any mix -/
def SI : Bool → Heap → Addr → Addr → Nat → Prop
  | true, h, i, l, k => h.IsTupleIter i l k
  | false, h, i, l, k => h.IsListIter i l k
def SS : Bool → Heap → Addr → Array Value → Prop
  | true, h, l, xs => h.IsTuple l xs
  | false, h, l, xs => h.IsList l xs
theorem SI.ext {t : Bool} {h h' : Heap} {c i l : Addr} {k : Nat} (a : SI t h i l k) (s : Heap.ExtBut c h h') (n : i ≠ c) : SI t h' i l k := by
  cases t with
  | true => exact Heap.IsTupleIter.extBut a s n
  | false => exact Heap.IsListIter.extBut a s n
theorem SI.at {t : Bool} {h h' : Heap} {i l : Addr} {k : Nat} (a : SI t h i l k) (e : ∀ o, h.get? i = some o → h'.get? i = some o) : SI t h' i l k := by
  cases t with
  | true => exact Heap.IsTupleIter.at a e
  | false => exact Heap.IsListIter.at a e
theorem SI.there {t : Bool} {h : Heap} {i l : Addr} {k : Nat} (a : SI t h i l k) : ∃ o, h.get? i = some o := by
  cases t with
  | true => obtain ⟨o, e, _⟩ := a; exact ⟨o, e⟩
  | false => obtain ⟨o, e, _⟩ := a; exact ⟨o, e⟩
theorem SS.ext {t : Bool} {h h' : Heap} {c l : Addr} {xs : Array Value} (a : SS t h l xs) (s : Heap.ExtBut c h h') (n : l ≠ c) : SS t h' l xs := by
  cases t with
  | true => exact Heap.IsTuple.extBut a s n
  | false => exact Heap.IsList.extBut a s n
theorem SS.there {t : Bool} {h : Heap} {l : Addr} {xs : Array Value} (a : SS t h l xs) : ∃ o, h.get? l = some o := by
  cases t with
  | true => obtain ⟨o, e, _⟩ := a; exact ⟨o, e⟩
  | false => obtain ⟨o, e, _⟩ := a; exact ⟨o, e⟩
section
variable {prog : Program} {w : World} {A : Around} {E : Value → Shared → Prop} {s : Shared}
end
/-! ### the zip object made -/
abbrev zlH1 (h : Heap) (l1 : Addr) : Heap := h.push { cls := .type "list_iterator", data := .fields #[.ref l1, .int 0 0] }
abbrev zlH2 (h : Heap) (l1 l2 : Addr) : Heap := (zlH1 h l1).push { cls := .type "tuple_iterator", data := .fields #[.ref l2, .int 0 0] }
abbrev zlH3 (h : Heap) (l1 l2 : Addr) : Heap := (zlH2 h l1 l2).push { cls := .type "tuple", data := .seq #[.ref h.objs.size, .ref (zlH1 h l1).objs.size] }
abbrev zlH4 (h : Heap) (l1 l2 : Addr) : Heap := (zlH3 h l1 l2).push { cls := .type "tuple", data := .seq #[.none, .none] }
abbrev zlH5 (h : Heap) (l1 l2 : Addr) : Heap := (zlH4 h l1 l2).push { cls := .type "zip", data := .fields #[.none, .bool false, .bool false, .ref (zlH2 h l1 l2).objs.size, .ref (zlH3 h l1 l2).objs.size] }
section
variable {prog : Program} {w : World} {A : Around} {E : Value → Shared → Prop} {s : Shared}
end
end KX

namespace KX
open PySem PySem.Spec PyProof.Rows L2
def SqA (t : Bool) (K : PySem.W.Frag) (H : Hp) (a : Addr) (xs : List V) : Prop := if t = true then SqT K H a xs else SqL K H a xs
theorem SqA.same {t : Bool} {K : PySem.W.Frag} {H H' : Hp} {a : Addr} {xs : List V} (h : SqA t K H a xs) (s : Same H H') : SqA t K H' a xs := by
  cases t with
  | true => exact same_seqT s h
  | false => exact L2.Same.seq s h
def tLz (K : PySem.W.Frag) (ta : TA) : TE := fun σ H Q => ta σ H fun vs H1 => ∃ a b xs ys t1 t2, vs = [.ref a, .ref b] ∧ SqA t1 K H1 a xs ∧ SqA t2 K H1 b ys ∧ min xs.length ys.length ≤ 1000 ∧
  ∀ D ps H', H1 D = none → Same H1 H' → H' D = some (.lst (ps.map V.ref)) → Paired (fun p q => H' p = some (.tup [q.1, q.2])) ps (xs.zip ys) → (∀ p ∈ ps, H1 p = none) → Q (.ref D) H'
end KX

namespace KX
open PySem PySem.Spec PyProof.Rows L2
/-! ### list(d.values()) -/
def tLv (td : TE) : TE := fun σ H Q => td σ H fun x H1 => ∃ d kvs, x = .ref d ∧ H1 d = some (.dK kvs) ∧ NewR H1 (.lst (kvs.map Prod.snd)) Q
end KX

namespace KX
open PySem PySem.Spec PyProof.Rows L2
/-! ### demands: tuples of a text and a number, lists of them, dicts whose keys they are -/
abbrev Dm := Str × Int
def DemV (h : Hp) (q : Dm) (y : V) : Prop := ∃ b, y = .ref b ∧ h b = some (.tup [.str q.1, .int q.2])
theorem DemV.same {h h' : Hp} {q : Dm} {y : V} (s : Same h h') (d : DemV h q y) : DemV h' q y := by obtain ⟨b, e, k⟩ := d; exact ⟨b, e, s _ _ k⟩
theorem DemV.tp {h : Hp} {q : Dm} {y : V} (d : DemV h q y) : DemV (tp h) q y := by obtain ⟨b, e, k⟩ := d; exact ⟨b, e, tp_get k rfl⟩
abbrev DemL (h : Hp) (qs : List Dm) (ys : List V) : Prop := Paired (DemV h) qs ys
theorem DemL.same {h h' : Hp} {qs : List Dm} {ys : List V} (s : Same h h') (d : DemL h qs ys) : DemL h' qs ys := Paired.mapP d fun _ _ k => k.same s
def demD (q : Dm) : PyData := .tuple [.str q.1, .int q.2]
theorem DemV.da {b : Bool} {K : PySem.W.Frag} {h : Hp} {q : Dm} {y : V} (d : DemV h q y) : DaF b K h y (demD q) := by
  obtain ⟨a, rfl, k⟩ := d
  exact .tup (SqT.of k) (.cons (.str _) (.cons (.int _) .nil))
theorem DemL.da {b : Bool} {K : PySem.W.Frag} {h : Hp} : ∀ {qs : List Dm} {ys : List V}, DemL h qs ys → DaAllF b K h ys (qs.map demD)
  | _, _, .nil => .nil
  | _, _, .cons a r => .cons a.da (DemL.da r)
theorem paired_get {α β : Type} {F : α → β → Prop} : ∀ {l₁ : List α} {l₂ : List β}, Paired F l₁ l₂ → ∀ {i : Nat} {y : β}, l₂[i]? = some y → ∃ x, l₁[i]? = some x ∧ F x y
  | _, _, .nil, i, y, h => by simp at h
  | _, _, .cons a r, 0, y, h => by simp at h; subst h; exact ⟨_, rfl, a⟩
  | _, _, .cons a r, i + 1, y, h => by simp at h; exact paired_get (i := i) r h
/-! first occurrences -/
def addU (acc : List Dm) (q : Dm) : List Dm := if q ∈ acc then acc else acc ++ [q]
def uniq (l : List Dm) : List Dm := l.foldl addU []
theorem foldU_mem {q : Dm} : ∀ (l acc : List Dm), q ∈ l.foldl addU acc ↔ q ∈ acc ∨ q ∈ l
  | [], acc => by simp
  | x :: l, acc => by
    rw [List.foldl_cons, foldU_mem l]
    unfold addU
    split
    · rename_i h
      constructor
      · rintro (a | a)
        · exact .inl a
        · exact .inr (List.mem_cons_of_mem _ a)
      · rintro (a | a)
        · exact .inl a
        · rcases List.mem_cons.mp a with rfl | a
          · exact .inl h
          · exact .inr a
    · simp only [List.mem_append, List.mem_cons, List.not_mem_nil, or_assoc, false_or]
theorem uniq_mem {q : Dm} {l : List Dm} : q ∈ uniq l ↔ q ∈ l := by unfold uniq; rw [foldU_mem]; simp
theorem foldU_nodup : ∀ (l acc : List Dm), acc.Nodup → (l.foldl addU acc).Nodup
  | [], acc, h => h
  | x :: l, acc, h => by
    rw [List.foldl_cons]
    refine foldU_nodup l _ ?_
    unfold addU
    split
    · exact h
    · rename_i n
      refine List.nodup_append.mpr ⟨h, by simp, fun a ha b hb e => ?_⟩
      subst e
      rw [List.mem_singleton] at hb
      exact n (hb ▸ ha)
theorem uniq_nodup (l : List Dm) : (uniq l).Nodup := foldU_nodup l [] List.nodup_nil
/-- the law's way: an item stays if none before it is equal -/
def firstsI (l : List Dm) : List Nat := (List.range l.length).filter fun k => decide ((l.getD k default).2 > 0) && !((l.take k).contains (l.getD k default))
/-! dicts of demands -/
def dk (q : Dm) : List Key := [.inr q.1, .inl q.2]
def tabD (qs : List Dm) (f : Dm → V) : List (List Key × V) := qs.map fun q => (dk q, f q)
/-- list(d) of such a dict: the very tuples -/
def rListDT : List V → Hp → VK → Prop := fun xs H Q => ∃ d kvs, xs = [V.ref d] ∧ Rd H d (.dT kvs) ∧ ∀ p bs, H p = none → IsKeys H kvs bs → Q (.ref p) (upd H p (.lst (bs.map V.ref)))
/-! comprehensions whose elements are told over what never changes -/
theorem l_tpf {J : It} {n : Nat} {G : Hp → Prop} {R : Nat → V → Hp → Prop} (W : Wq J n G R) {g : TG} {tt : TT} {te : TE} {vs : List Nat} {Q : VK} {σ : L2.St} {H1 : Hp} (p : Nat → Bool) {α : Type} (f : Nat → α) (P : Hp → α → V → Prop) (mono : ∀ a y h h', Same h h' → P h a y → P h' a y) (hlen : n < sizeLine) (hG : ∀ H', Same H1 H' → G H')
    (hs : ∀ (i : Nat) x H' (S : VK) (N : Hp → Prop), i < n → R i x H' → Same H1 H' → (p i = true → ∀ y H'', P (tp H'') (f i) y → Same H' H'' → S y H'') → (p i = false → ∀ H'', Same H' H'' → N H'') →
      g x (wipe σ vs) H' fun σ2 H2 => wipe σ2 vs = wipe σ vs ∧ tt σ2 H2 fun b H3 => if b = true then te σ2 H3 S else N H3)
    (q : ∀ D H' ys, H1 D = none → Same H1 H' → H' D = some (.lst ys) → Paired (P (tp H')) (((List.range n).filter p).map f) ys → Q (.ref D) H') : LcR J g tt te vs σ H1 Q := by
  refine l_wq W fun D H0 n0 s0 e0 => ⟨fun i ys H => Same H1 H ∧ H D = some (.lst ys) ∧ Paired (P (tp H)) (((List.range i).filter p).map f) ys ∧ ys.length ≤ i, ⟨s0, e0, .nil, Nat.le_refl _⟩, fun i ys H h => hG _ h.1, fun i ys x Ha H hi h sa hr => ?_, fun ys H h => ?_⟩
  · obtain ⟨s1, e1, hy, hl⟩ := h
    replace s1 := s1.trans sa
    replace e1 := sa _ _ e1
    replace hy := Paired.mapP hy fun a b k => mono a b _ _ (KX.Same.tp sa) k
    have ht : List.range (i + 1) = List.range i ++ [i] := List.range_succ
    refine hs i x H (fun y H4 => LcEl D (fun ys H => Same H1 H ∧ H D = some (.lst ys) ∧ Paired (P (tp H)) (((List.range (i + 1)).filter p).map f) ys ∧ ys.length ≤ i + 1) y H4) (fun H3 => ∃ ys, Same H1 H3 ∧ H3 D = some (.lst ys) ∧ Paired (P (tp H3)) (((List.range (i + 1)).filter p).map f) ys ∧ ys.length ≤ i + 1) hi hr s1 (fun hp y H'' hd s2 => ?_) fun hp H'' s2 => ?_
    · refine i_lcEl (s2 _ _ e1) (by omega) fun H5 o5 e5 => ⟨Off.new n0 (s1.trans s2) o5, e5, ?_, by simp; omega⟩
      have s5 : Same (tp H'') (tp H5) := Off.tp o5 (s2 _ _ e1) rfl
      rw [ht, List.filter_append, List.map_append]
      have e : ([i].filter p).map f = [f i] := by simp [hp]
      rw [e]
      exact Paired.snoc (Paired.mapP hy fun a b k => mono a b _ _ ((KX.Same.tp s2).trans s5) k) (mono _ _ _ _ s5 hd)
    · refine ⟨ys, s1.trans s2, s2 _ _ e1, ?_, by omega⟩
      rw [ht, List.filter_append, List.map_append]
      have e : ([i].filter p).map f = [] := by simp [hp]
      rw [e, List.append_nil]
      exact Paired.mapP hy fun a b k => mono a b _ _ (KX.Same.tp s2) k
  · obtain ⟨s1, e1, hy, hl⟩ := h
    exact q D H ys n0 s1 e1 hy
theorem l_tp {J : It} {n : Nat} {G : Hp → Prop} {R : Nat → V → Hp → Prop} (W : Wq J n G R) {g : TG} {te : TE} {vs : List Nat} {Q : VK} {σ : L2.St} {H1 : Hp} {α : Type} (f : Nat → α) (P : Hp → α → V → Prop) (mono : ∀ a y h h', Same h h' → P h a y → P h' a y) (hlen : n < sizeLine) (hG : ∀ H', Same H1 H' → G H')
    (hs : ∀ (i : Nat) x H' (S : VK), i < n → R i x H' → Same H1 H' → (∀ y H'', P (tp H'') (f i) y → Same H' H'' → S y H'') → g x (wipe σ vs) H' fun σ2 H2 => wipe σ2 vs = wipe σ vs ∧ te σ2 H2 S)
    (q : ∀ D H' ys, H1 D = none → Same H1 H' → H' D = some (.lst ys) → Paired (P (tp H')) ((List.range n).map f) ys → Q (.ref D) H') : LcR J g tYes te vs σ H1 Q :=
  l_tpf W (fun _ => true) f P mono hlen hG (fun i x H' S N hi hr s1 hS _ => lc_yes (hs i x H' S hi hr s1 (hS rfl))) (fun D H' ys n0 s e k => q D H' ys n0 s e (by rw [List.filter_eq_self.mpr (by simp)] at k; exact k))
theorem sl_listK {X : Cx} {K : PySem.W.Frag} (h : X.K = K) : SlR X (rSlL K) := h ▸ sl_list
end KX

namespace KX
open PySem PySem.Spec PyProof.Rows L2
open LamX (CodeO TabS Tabs ExtN lamEnv lamCx TabB)
/-! ### a lambda of one parameter -/
/-- one parameter, no other name of its own: captured ones and globals -/
structure LamP (sc scope : Scope) (pr : Str) : Prop where
  kind : scope.kind = .function
  co : scope.isCoroutine = false
  gen : scope.isGenerator = false
  own : ∀ y ∈ scope.names, y.2 ≠ .cell ∧ (y.2 = .local → y.1 = pr)
  par : scope.names.lookup pr = some .local
  free : ∀ y ∈ scope.names, y.2 = .free → sc.names.lookup y.1 = some .cell ∨ sc.names.lookup y.1 = some .free
def lamPB (sc scope : Scope) (pr : Str) : Bool :=
  decide (scope.kind = .function) && !scope.isCoroutine && !scope.isGenerator && (decide (scope.names.lookup pr = some .local) && scope.names.all fun y => (!decide (y.2 = .cell) && (!decide (y.2 = .local) || decide (y.1 = pr))) && (!decide (y.2 = .free) || decide (sc.names.lookup y.1 = some .cell) || decide (sc.names.lookup y.1 = some .free)))
section
variable {X : Cx}
theorem LamP.has {scope : Scope} {pr : Str} (L : LamP X.env.scope scope pr) (ok : X.Ok) : ∀ y ∈ scope.names, y.2 = .free → ∃ c, X.env.cells.lookup y.1 = some c := fun y hy e => by
  rcases L.free y hy e with k | k
  · exact ok.has _ (.inl k)
  · exact ok.has _ (.inr k)
end
/-- what a call of the lambda, with one argument, reads in the def that holds it in its slot i -/
def tActP (i : Nat) (f c' : Addr) (q : Str) (tl : V → Hp → VK → Prop) (ta : TA) : TE := fun σ H Q => σ[i]? = some (some (.ref f)) ∧ ta σ H fun vs H1 => ∃ v, vs = [v] ∧ H1 c' = some (CodeO c' q) ∧ tl v H1 Q
section
variable {X : Cx}
end
/-- the def g calls what it got in its slot i, with one argument: TT is what it makes of the lambda's reading -/
def GivesP (X : Cx) (N : List Str) (x : Str) (sc : Scope) (g : Addr) (bg : List Stmt) (a : Str) (i : Nat) (q : Str) (k : Nat) (TT : V → V → (V → Hp → VK → Prop) → Hp → VK → Prop) : Prop :=
  ∀ (cdv : Value) (f c' : Addr) (s : Shared) (H : Hp) (Q : VK) (y z : V) (tl : V → Hp → VK → Prop), Rg k (X.A.deeper (envOfC x sc s.heap.objs.size g cdv)) →
    (∀ (ar : Expr) (ta : TA) (p1 p2 : Pos), PA (recvCx X N x sc g cdv s H).nox [ar] ta → starEach [ar] (recvCx X N x sc g cdv s H).nox.env = [(false, eval ar (recvCx X N x sc g cdv s H).nox.env)] → PE (recvCx X N x sc g cdv s H).nox (.Call (.Name a p1) [ar] [] p2) (tActP i f c' q tl ta)) →
    H c' = some (CodeO c' q) → TT y z tl H Q → ∃ t, PSs (recvCx X N x sc g cdv s H).nox bg t ∧ t { nx := fun _ H' => Q .non H', rt := Q } (L2.start N [y, z, .ref f]) H
def tLamP (T : List (Addr × Str)) (t1 t2 : TE) (j : Nat) (TT : V → V → (V → Hp → VK → Prop) → Hp → VK → Prop) (tb : TE) : TE := fun σ H Q => t1 σ H fun y H1 => t2 σ H1 fun z H2 => Tabs T H2 ∧ ∀ H3, ExtN H2 H3 → Tabs T H3 → TT y z (fun v => tb (σ.set j (some v))) H3 Q
section
variable {X : Cx}
end
end KX

namespace KX
open PySem PySem.Spec PyProof.Rows L2
/-! ### a search in breadth, plain: what was found in order, from where, how far -/
structure Bf where
  ord : List Dm
  par : Dm → Option Dm
  dst : Dm → Int
def Bf.add (q : Dm) (b : Bf) (o : Dm) : Bf := if o ∈ b.ord then b else ⟨b.ord ++ [o], fun x => if x = o then some q else b.par x, fun x => if x = o then b.dst q + 1 else b.dst x⟩
def bfsT (nx : Dm → List Dm) (b : Bf) (q : Dm) : Bf := (nx q).foldl (Bf.add q) b
def bfsAt (nx : Dm → List Dm) (l : List Dm) : Nat → Bf
  | 0 => ⟨uniq l, fun _ => none, fun _ => 1⟩
  | k + 1 => match (bfsAt nx l k).ord[k]? with
    | none => bfsAt nx l k
    | some q => bfsT nx (bfsAt nx l k) q
theorem bfsAt_s {nx : Dm → List Dm} {l : List Dm} {k : Nat} {q : Dm} (h : (bfsAt nx l k).ord[k]? = some q) : bfsAt nx l (k + 1) = bfsT nx (bfsAt nx l k) q := by
  show (match (bfsAt nx l k).ord[k]? with | none => bfsAt nx l k | some q => bfsT nx (bfsAt nx l k) q) = _
  rw [h]
theorem bfsAt_e {nx : Dm → List Dm} {l : List Dm} {k : Nat} (h : (bfsAt nx l k).ord.length ≤ k) : ∀ n, bfsAt nx l (k + n) = bfsAt nx l k
  | 0 => rfl
  | n + 1 => by
    show (match (bfsAt nx l (k + n)).ord[k + n]? with | none => bfsAt nx l (k + n) | some q => bfsT nx (bfsAt nx l (k + n)) q) = _
    rw [bfsAt_e h n, List.getElem?_eq_none (by omega)]
structure BI (nx : Dm → List Dm) (l : List Dm) (k : Nat) (b : Bf) : Prop where
  nd : b.ord.Nodup
  src : ∀ (j : Nat) q, b.ord[j]? = some q → (b.par q = none ∧ q ∈ l ∧ b.dst q = 1) ∨ ∃ (i : Nat) (p : Dm), i < j ∧ b.ord[i]? = some p ∧ b.par q = some p ∧ q ∈ nx p ∧ b.dst q = b.dst p + 1
  srt : ∀ (i j : Nat) p q, i ≤ j → b.ord[i]? = some p → b.ord[j]? = some q → b.dst p ≤ b.dst q
  ini : ∀ q ∈ l, q ∈ b.ord
  cl : ∀ (i : Nat) p, i < k → b.ord[i]? = some p → ∀ o ∈ nx p, o ∈ b.ord
  nr : ∀ p, b.ord[k]? = some p → ∀ q ∈ b.ord, b.dst q ≤ b.dst p + 1
/-- within one turn -/
structure BJ (nx : Dm → List Dm) (l : List Dm) (k : Nat) (r : Dm) (b : Bf) : Prop where
  nd : b.ord.Nodup
  src : ∀ (j : Nat) q, b.ord[j]? = some q → (b.par q = none ∧ q ∈ l ∧ b.dst q = 1) ∨ ∃ (i : Nat) (p : Dm), i < j ∧ b.ord[i]? = some p ∧ b.par q = some p ∧ q ∈ nx p ∧ b.dst q = b.dst p + 1
  srt : ∀ (i j : Nat) p q, i ≤ j → b.ord[i]? = some p → b.ord[j]? = some q → b.dst p ≤ b.dst q
  ini : ∀ q ∈ l, q ∈ b.ord
  cl : ∀ (i : Nat) p, i < k → b.ord[i]? = some p → ∀ o ∈ nx p, o ∈ b.ord
  at_ : b.ord[k]? = some r
  nr : ∀ q ∈ b.ord, b.dst q ≤ b.dst r + 1
theorem get_app {l : List Dm} {o : Dm} {j : Nat} {q : Dm} (h : (l ++ [o])[j]? = some q) : l[j]? = some q ∨ j = l.length ∧ q = o := by
  by_cases z : j < l.length
  · left; rwa [List.getElem?_append_left z] at h
  · right
    rw [List.getElem?_append_right (by omega)] at h
    by_cases y : j - l.length = 0
    · rw [y] at h; cases h; exact ⟨by omega, rfl⟩
    · rw [List.getElem?_eq_none (by show 1 ≤ _; omega)] at h; cases h
theorem get_app' {l : List Dm} {o : Dm} {j : Nat} {q : Dm} (h : l[j]? = some q) : (l ++ [o])[j]? = some q := by
  rw [List.getElem?_append_left (List.getElem?_eq_some_iff.mp h).1]; exact h
theorem BJ.add {nx : Dm → List Dm} {l : List Dm} {k : Nat} {r o : Dm} {b : Bf} (h : BJ nx l k r b) (ho : o ∈ nx r) : BJ nx l k r (b.add r o) := by
  unfold Bf.add
  split
  · exact h
  · rename_i no
    have ne : ∀ {j : Nat} {q}, b.ord[j]? = some q → q ≠ o := fun e z => no (z ▸ List.mem_of_getElem? e)
    have hr := ne h.at_
    refine ⟨?_, fun j q hj => ?_, fun i j p q hij hi hj => ?_, fun q hq => List.mem_append_left _ (h.ini q hq), fun i p hi hp x hx => ?_, get_app' h.at_, fun q hq => ?_⟩
    · exact List.nodup_append.mpr ⟨h.nd, (by simp), fun a ha c hc => by rw [List.mem_singleton.mp hc]; exact fun z => no (z ▸ ha)⟩
    · rcases get_app hj with e | ⟨ej, rfl⟩
      · have nq := ne e
        rcases h.src j q e with ⟨a, c, d⟩ | ⟨i, p, a, c, d, f, g⟩
        · exact .inl ⟨by simp [nq, a], c, by simp [nq, d]⟩
        · exact .inr ⟨i, p, a, get_app' c, by simp [nq, d], f, by simp [nq, ne c, g]⟩
      · exact .inr ⟨k, r, by have := (List.getElem?_eq_some_iff.mp h.at_).1; omega, get_app' h.at_, by simp, ho, by simp [hr]⟩
    · rcases get_app hi with e | ⟨ei, rfl⟩
      · rcases get_app hj with f | ⟨ej, rfl⟩
        · have := h.srt i j p q hij e f
          simpa [ne e, ne f] using this
        · have := h.nr p (List.mem_of_getElem? e)
          simpa [ne e] using this
      · rcases get_app hj with f | ⟨ej, rfl⟩
        · have := (List.getElem?_eq_some_iff.mp f).1; omega
        · exact Int.le_refl _
    · rcases get_app hp with e | ⟨ei, rfl⟩
      · exact List.mem_append_left _ (h.cl i p hi e x hx)
      · have := (List.getElem?_eq_some_iff.mp h.at_).1; omega
    · rcases List.mem_append.mp hq with m | m
      · obtain ⟨j, hj⟩ := List.mem_iff_getElem?.mp m
        have := h.nr q m
        simpa [ne hj, hr] using this
      · rw [List.mem_singleton.mp m]; simp [hr]
theorem BJ.sub {r o : Dm} {b : Bf} : ∀ q ∈ b.ord, q ∈ (b.add r o).ord := fun q h => by
  unfold Bf.add
  split
  · exact h
  · exact List.mem_append_left _ h
theorem BJ.self {r o : Dm} {b : Bf} : o ∈ (b.add r o).ord := by
  unfold Bf.add
  split
  · assumption
  · simp
theorem bfold {nx : Dm → List Dm} {l : List Dm} {k : Nat} {r : Dm} : ∀ (zs : List Dm) {b : Bf}, BJ nx l k r b → (∀ o ∈ zs, o ∈ nx r) → BJ nx l k r (zs.foldl (Bf.add r) b) ∧ (∀ q ∈ b.ord, q ∈ (zs.foldl (Bf.add r) b).ord) ∧ ∀ o ∈ zs, o ∈ (zs.foldl (Bf.add r) b).ord
  | [], b, h, _ => ⟨h, fun q m => m, fun o m => by cases m⟩
  | z :: zs, b, h, hz => by
    obtain ⟨a, c, d⟩ := bfold zs (h.add (hz z (by simp))) fun o m => hz o (by simp [m])
    refine ⟨a, fun q m => c q (BJ.sub q m), fun o m => ?_⟩
    rcases List.mem_cons.mp m with rfl | m
    · exact c _ BJ.self
    · exact d o m
theorem BI.turn {nx : Dm → List Dm} {l : List Dm} {k : Nat} {r : Dm} {b : Bf} (h : BI nx l k b) (hr : b.ord[k]? = some r) : BI nx l (k + 1) (bfsT nx b r) := by
  obtain ⟨a, c, d⟩ := bfold (nx r) (⟨h.nd, h.src, h.srt, h.ini, h.cl, hr, h.nr r hr⟩ : BJ nx l k r b) fun o m => m
  refine ⟨a.nd, a.src, a.srt, a.ini, fun i p hi hp => ?_, fun p hp q hq => ?_⟩
  · by_cases e : i < k
    · exact a.cl i p e hp
    · have e : i = k := by omega
      subst e
      have := a.at_
      rw [show ((nx r).foldl (Bf.add r) b).ord[i]? = some p from hp] at this
      cases this
      exact d
  · have h1 := a.nr q hq
    have h2 := a.srt k (k + 1) r p (by omega) a.at_ hp
    show (List.foldl (Bf.add r) b (nx r)).dst q ≤ (List.foldl (Bf.add r) b (nx r)).dst p + 1
    omega
theorem BI.at {nx : Dm → List Dm} {l : List Dm} : ∀ k, BI nx l k (bfsAt nx l k)
  | 0 => ⟨uniq_nodup l, fun j q h => .inl ⟨rfl, uniq_mem.mp (List.mem_of_getElem? h), rfl⟩, fun i j p q _ _ _ => Int.le_refl _, fun q h => uniq_mem.mpr h, fun i p h => absurd h (by omega), fun p _ q _ => by show (1 : Int) ≤ 1 + 1; omega⟩
  | k + 1 => by
    have h := BI.at (nx := nx) (l := l) k
    cases e : (bfsAt nx l k).ord[k]? with
    | some q => rw [bfsAt_s e]; exact h.turn e
    | none =>
      have e' := bfsAt_e (List.getElem?_eq_none_iff.mp e) 1
      rw [e']
      refine ⟨h.nd, h.src, h.srt, h.ini, fun i p hi hp => h.cl i p ?_ hp, fun p hp => ?_⟩
      · have := (List.getElem?_eq_some_iff.mp hp).1
        have := List.getElem?_eq_none_iff.mp e
        omega
      · rw [List.getElem?_eq_none (by have := List.getElem?_eq_none_iff.mp e; omega)] at hp; cases hp
/-- all that is found lies in what is closed under going on -/
theorem BI.sub {nx : Dm → List Dm} {l : List Dm} {k : Nat} {b : Bf} (h : BI nx l k b) {P : Dm → Prop} (hl : ∀ q ∈ l, P q) (hn : ∀ p, P p → ∀ q ∈ nx p, P q) : ∀ n (j : Nat) q, j < n → b.ord[j]? = some q → P q
  | 0, j, q, hj, _ => absurd hj (by omega)
  | n + 1, j, q, hj, e => by
    rcases h.src j q e with ⟨_, m, _⟩ | ⟨i, p, a, c, d, f, _⟩
    · exact hl q m
    · exact hn p (h.sub hl hn n i p (by omega) c) q f
theorem BI.all {nx : Dm → List Dm} {l : List Dm} {k : Nat} {b : Bf} (h : BI nx l k b) {P : Dm → Prop} (hl : ∀ q ∈ l, P q) (hn : ∀ p, P p → ∀ q ∈ nx p, P q) : ∀ q ∈ b.ord, P q := fun q m => by
  obtain ⟨j, hj⟩ := List.mem_iff_getElem?.mp m
  exact h.sub hl hn (j + 1) j q (by omega) hj
theorem BI.len {nx : Dm → List Dm} {l U : List Dm} {k : Nat} {b : Bf} (h : BI nx l k b) {P : Dm → Prop} (hl : ∀ q ∈ l, P q) (hn : ∀ p, P p → ∀ q ∈ nx p, P q ∧ q ∈ U) : b.ord.length ≤ l.length + U.length := by
  rw [← List.length_append]
  refine List.Nodup.length_le_of_subset h.nd fun q m => ?_
  have : P q ∧ q ∈ l ++ U := h.all (P := fun q => P q ∧ q ∈ l ++ U) (fun q m => ⟨hl q m, List.mem_append_left _ m⟩) (fun p hp q m => ⟨(hn p hp.1 q m).1, List.mem_append_right _ (hn p hp.1 q m).2⟩) q m
  exact this.2
/-- the way to a demand -/
def Bf.path (b : Bf) : Nat → Dm → List Dm
  | 0, q => [q]
  | n + 1, q => match b.par q with
    | none => [q]
    | some p => b.path n p ++ [q]
theorem Bf.path_none {b : Bf} {q : Dm} (h : b.par q = none) (n : Nat) : b.path n q = [q] := by
  cases n with
  | zero => rfl
  | succ n => show (match b.par q with | none => [q] | some p => b.path n p ++ [q]) = _; rw [h]
theorem Bf.path_some {b : Bf} {q p : Dm} (h : b.par q = some p) (n : Nat) : b.path (n + 1) q = b.path n p ++ [q] := by
  show (match b.par q with | none => [q] | some p => b.path n p ++ [q]) = _; rw [h]
/-- more fuel than the place changes nothing -/
theorem BI.fuel {nx : Dm → List Dm} {l : List Dm} {k : Nat} {b : Bf} (h : BI nx l k b) : ∀ (m n i : Nat) (q : Dm), b.ord[i]? = some q → i ≤ m → i ≤ n → b.path m q = b.path n q
  | 0, n, i, q, e, hm, hn => by
    rcases h.src i q e with ⟨a, _⟩ | ⟨j, p, hj, _⟩
    · rw [Bf.path_none a, Bf.path_none a]
    · omega
  | m + 1, n, i, q, e, hm, hn => by
    rcases h.src i q e with ⟨a, _⟩ | ⟨j, p, hj, ep, d, _⟩
    · rw [Bf.path_none a, Bf.path_none a]
    · obtain ⟨n, rfl⟩ : ∃ n', n = n' + 1 := ⟨n - 1, by omega⟩
      rw [Bf.path_some d, Bf.path_some d, h.fuel m n j p ep (by omega) (by omega)]
/-- the way to q, one step back -/
theorem BI.back {nx : Dm → List Dm} {l : List Dm} {k : Nat} {b : Bf} (h : BI nx l k b) {n j : Nat} {q p : Dm} (e : b.ord[j]? = some q) (hn : j ≤ n) (d : b.par q = some p) : ∃ i, i < j ∧ b.ord[i]? = some p ∧ b.path n q = b.path n p ++ [q] := by
  rcases h.src j q e with ⟨a, _⟩ | ⟨i, p', hi, ep, d', _⟩
  · rw [a] at d; cases d
  · rw [d'] at d; cases d
    obtain ⟨n, rfl⟩ : ∃ n', n = n' + 1 := ⟨n - 1, by omega⟩
    exact ⟨i, hi, ep, by rw [Bf.path_some d', h.fuel n (n + 1) i p ep (by omega) (by omega)]⟩
/-- a row of demands, each followed by the next -/
def ChainL (nx : Dm → List Dm) (c : List Dm) : Prop := ∀ (i : Nat) x y, c[i]? = some x → c[i + 1]? = some y → y ∈ nx x
theorem ChainL.snoc {nx : Dm → List Dm} {c : List Dm} {p q : Dm} (h : ChainL nx c) (e : c.getLast? = some p) (m : q ∈ nx p) : ChainL nx (c ++ [q]) := fun i x y hx hy => by
  rcases get_app hy with a | ⟨a, rfl⟩
  · have := (List.getElem?_eq_some_iff.mp a).1
    rw [List.getElem?_append_left (by omega)] at hx
    exact h i x y hx a
  · rw [List.getElem?_append_left (by omega)] at hx
    rw [List.getLast?_eq_getElem?, show c.length - 1 = i by omega, hx] at e
    cases e
    exact m
structure PathOk (nx : Dm → List Dm) (l : List Dm) (b : Bf) (q : Dm) (c : List Dm) : Prop where
  ch : ChainL nx c
  hd : ∃ x, c.head? = some x ∧ x ∈ l
  la : c.getLast? = some q
  len : (c.length : Int) = b.dst q
  sub : ∀ x ∈ c, x ∈ b.ord
theorem BI.path {nx : Dm → List Dm} {l : List Dm} {k : Nat} {b : Bf} (h : BI nx l k b) : ∀ n (j : Nat) q, j ≤ n → b.ord[j]? = some q → PathOk nx l b q (b.path n q)
  | 0, j, q, hj, e => by
    rcases h.src j q e with ⟨a, m, d⟩ | ⟨i, p, a, _⟩
    · exact ⟨fun i x y _ hy => by (have hy : ([q] : List Dm)[i + 1]? = some y := hy); simp at hy, ⟨q, rfl, m⟩, rfl, by rw [d]; rfl, fun x hx => by rw [List.mem_singleton.mp hx]; exact List.mem_of_getElem? e⟩
    · omega
  | n + 1, j, q, hj, e => by
    rcases h.src j q e with ⟨a, m, d⟩ | ⟨i, p, a, c, d, f, g⟩
    · have ep : b.path (n + 1) q = [q] := by unfold Bf.path; rw [a]
      rw [ep]
      exact ⟨fun i x y _ hy => by simp at hy, ⟨q, rfl, m⟩, rfl, by rw [d]; rfl, fun x hx => by rw [List.mem_singleton.mp hx]; exact List.mem_of_getElem? e⟩
    · have ep : b.path (n + 1) q = b.path n p ++ [q] := by show (match b.par q with | none => [q] | some p => b.path n p ++ [q]) = _; rw [d]
      rw [ep]
      have o := h.path n i p (by omega) c
      obtain ⟨x, hx, mx⟩ := o.hd
      refine ⟨o.ch.snoc o.la f, ⟨x, by rw [List.head?_append, hx]; rfl, mx⟩, by simp, by rw [List.length_append, g, ← o.len]; rfl, fun y hy => ?_⟩
      rcases List.mem_append.mp hy with m | m
      · exact o.sub y m
      · rw [List.mem_singleton.mp m]; exact List.mem_of_getElem? e
end KX

namespace KX
open PySem PySem.Spec PyProof.Rows L2
section
variable {X : Cx}
end
end KX

/-! dict(xs), xs a list of pairs whose first parts are tuples of texts and numbers -/
namespace KX
open PySem PySem.Spec PyProof.Rows L2
abbrev tK (P : Program) (w : World) := tupleKind (mixKind P w)
abbrev TX := List (List Key × Addr × Value)
def mergH (acc rest : TX) : TX := rest.foldl (fun a q => storedH a q.1 q.2.1 q.2.2) acc
section
variable {prog : Program} {w : World} {A : Around} {E : Value → Shared → Prop}
end
section
variable {X : Cx}
def PairT (K : PySem.W.Frag) (H : Hp) (p : Addr) (q : List Key × Addr × V) : Prop := SqT K H p [.ref q.2.1, q.2.2] ∧ H q.2.1 = some (.tup (q.1.map kV))
def mergT (acc : List (List Key × V)) (kvs : List (List Key × Addr × V)) : List (List Key × V) := kvs.foldl (fun a q => putK a q.1 q.2.2) acc
def rDictT (K : PySem.W.Frag) : List V → Hp → VK → Prop := fun xs H Q => ∃ (a : Addr) (ps : List Addr) (kvs : List (List Key × Addr × V)), xs = [.ref a] ∧ SqL K H a (ps.map V.ref) ∧ Paired (PairT K H) ps kvs ∧ NewR H (.dT (mergT [] kvs)) Q
end
end KX

namespace KX
open PySem PySem.Spec PyProof.Rows L2
/-! ### a dict that is walked once and read no more: it stays frozen; d.get -/
def tFrz (t : TE) : TE := fun σ H Q => t σ H fun x H1 => ∃ d u, x = .ref d ∧ H1 d = some u ∧ Mut (some u) ∧ ∀ od, Q x (upd H1 d (.frz od u))
end KX

namespace KX
open PySem PySem.Spec PyProof.Rows L2
/-! ### list(d.items()) -/
def tLi (td : TE) : TE := fun σ H Q => td σ H fun x H1 => ∃ d kvs, x = .ref d ∧ H1 d = some (.dK kvs) ∧ ∀ D ps H', H1 D = none → Same H1 H' → H' D = some (.lst (ps.map V.ref)) → Paired (fun (p : Addr) (q : Key × V) => H' p = some (.tup [kV q.1, q.2])) ps kvs → Q (.ref D) H'
theorem paired_of_at {α β : Type} {F : α → β → Prop} : ∀ {l₁ : List α} {l₂ : List β}, l₁.length = l₂.length → (∀ (j : Nat) x y, l₁[j]? = some x → l₂[j]? = some y → F x y) → Paired F l₁ l₂
  | [], [], _, _ => .nil
  | x :: l, y :: m, hl, h => .cons (h 0 x y rfl rfl) (paired_of_at (by simpa using hl) fun j a b ha hb => h (j + 1) a b (by simpa using ha) (by simpa using hb))
  | [], _ :: _, hl, _ => by simp at hl
  | _ :: _, [], hl, _ => by simp at hl
theorem pe_listItems {X : Cx} {e : Expr} {td : TE} {p pos cpos apos : Pos} (hc : X.calm = true) (hg : Gl X "list") (hmg : X.mg "list" = none) (he : PE X e td)
    (hbase : attributeBase e "items" X.env (eval e X.env) = eval e X.env := by rfl) (hline : (apos.endLine == cpos.line) = true := by rfl)
    (hst : starEach [.Call (.Attribute e "items" apos) [] [] cpos] X.env = (false, eval (.Call (.Attribute e "items" apos) [] [] cpos) X.env) :: starEach [] X.env := by rfl) :
    PE X (.Call (.Name "list" p) [.Call (.Attribute e "items" apos) [] [] cpos] [] pos) (tLi td) := by
  refine ⟨fun pins s σ H Q I hq => ?_⟩
  refine wpAny_Call_Name_kw (ld_blt I hg hmg PyProof.Rows.boot_list ?_)
  refine PyProof.Rows.callWith_type1 ?_ hst rfl
  rw [hst]
  show wpAny _ _ (spliced ((false, eval _ X.env) :: backTo pos (starEach [] X.env))) _ _ s
  refine Calls.spliced_cons ?_
  refine wpAny_Call_method (T := "dict") (id := "dict.items") hbase rfl hline F.plainAttrs_dict F.slot_dict_items F.type_dict_items (thn (he.run pins s σ H _ I hq) fun u s1 ⟨x, H1, I1, rx, d, kvs, ex, hd, q⟩ => ?_)
  subst ex
  obtain rfl : u = Value.ref d := rx
  obtain ⟨z, lo, vs, rk, hdo⟩ := (show ObjOk X.prog X.w H1 s1.heap d (.dK kvs) from I1.hok d _ hd)
  obtain ⟨ep, hat⟩ := hdo.dictAt
  have hl : kvs.length = vs.length := Paired.length rk
  refine ⟨hat.dictOf.typeIs, hat.dictOf.mapOf.noDict, ?_⟩
  have I2 : Inv X pins σ H1 { s1 with heap := s1.heap.push { cls := .type "dict_items", data := .fields #[.ref d] } } := I1.kept (t' := s1.toks) fun b ob q => Heap.get?_push_of_some _ q
  refine method_meetsIn F.slot_dict_items F.entry_dict_items rfl (PySem.evalArgs_none ⟨rfl, hat.dictOf.typeIs, F.args_dict_items_1 _, _, meets_dict_items (mixKind X.prog X.w) d lo, ⟨vs, hat.dictOf⟩, ?_⟩)
  refine Calls.spliced_nil ?_
  have view : Heap.IsItemsView (s1.heap.push { cls := .type "dict_items", data := .fields #[.ref d] }) s1.heap.objs.size d := ⟨_, Heap.get?_push_size _ rfl, rfl, rfl⟩
  refine PySem.W.kdx_call (s := { s1 with heap := s1.heap.push { cls := .type "dict_items", data := .fields #[.ref d] } }) (knd := mixKind X.prog X.w) (kvs := vs) (ep := ep) (I.ok.hd hc) view (hat.push _) (by rw [← hl]; exact z) fun h' tk acc c as hkeep hS hla hG hacc => ?_
  have len : (as.map V.ref).length ≤ sizeLine := by rw [List.length_map, hla, ← hl]; exact z
  have I3 : Inv X pins σ (upd H1 (s1.heap.push { cls := .type "dict_items", data := .fields #[.ref d] }).objs.size (.lst (as.map V.ref))) { s1 with heap := h', toks := tk } := I2.laid (t' := tk) hkeep (Nat.le_refl _) (show ObjOk X.prog X.w _ _ _ (.lst (as.map V.ref)) from ⟨len, acc.toList, c, by
    rw [hacc]
    clear hacc hG hla len
    induction as with
    | nil => exact .nil
    | cons a r ih => exact .cons rfl ih, by rw [Array.toArray_toList]; exact hS⟩)
  have nd : as.Nodup := hG.rise.imp fun h => Nat.ne_of_lt h
  have fr : H1 (s1.heap.push { cls := .type "dict_items", data := .fields #[.ref d] }).objs.size = none := I2.hok.fresh (Nat.le_refl _)
  obtain ⟨H2, I4, g, t⟩ := L2.DX.takeT (P := fun a ws => ∃ (j : Nat) (k : Key) (v : V), as[j]? = some a ∧ kvs[j]? = some (k, v) ∧ ws = [kV k, v]) I2 as _ I3 nd fun a ha => by
    have ab := hG.above a ha
    have fa : H1 a = none := I2.hok.fresh (Nat.le_of_lt ab)
    refine ⟨Nat.le_of_lt ab, by rw [upd_ne (Nat.ne_of_gt ab)]; exact fa, ?_⟩
    obtain ⟨j, hj⟩ := List.mem_iff_getElem?.mp ha
    obtain ⟨key, k, x, hx, hk, ho⟩ := hG.pairs j a hj
    obtain ⟨⟨k', v⟩, hkv⟩ : ∃ p, kvs[j]? = some p := ⟨kvs[j]'(by have := (List.getElem?_eq_some_iff.mp hx).1; omega), List.getElem?_eq_getElem _⟩
    obtain ⟨u, hu, ru⟩ := kv_get rk hkv
    rw [hx] at hu
    cases hu
    exact ⟨[kV k, v], ⟨j, k, v, hj, hkv, rfl⟩, fun H2 => ⟨by show 2 ≤ sizeLine; decide, [key, x], .cons (relV_key (show keyIs k key = true from hk)) (.cons ru .nil), ⟨_, ho, rfl, _, rfl⟩⟩⟩
  refine ⟨.ref _, H2, I4, rfl, q _ as H2 fr (fun b o e => g b o (by rw [upd_ne (ne_of_none e fr)]; exact e)) (g _ _ upd_same) (paired_of_at (by omega) fun j a kv ha hkv => ?_)⟩
  obtain ⟨ws, ⟨j', k, v, hj', hkv', rfl⟩, e⟩ := t a (List.mem_of_getElem? ha)
  have jj : j = j' := by
    obtain ⟨l1, e1⟩ := List.getElem?_eq_some_iff.mp ha
    obtain ⟨l2, e2⟩ := List.getElem?_eq_some_iff.mp hj'
    exact (List.getElem_inj nd).mp (e1.trans e2.symm)
  subst jj
  rw [hkv'] at hkv
  cases hkv
  exact e
theorem i_li {td : TE} {σ : L2.St} {H : Hp} {Q : VK} (q : td σ H fun x H1 => ∃ d kvs, x = .ref d ∧ H1 d = some (.dK kvs) ∧ ∀ D ps H', H1 D = none → Same H1 H' → H' D = some (.lst (ps.map V.ref)) → Paired (fun (p : Addr) (q : Key × V) => H' p = some (.tup [kV q.1, q.2])) ps kvs → Q (.ref D) H') : tLi td σ H Q := q
end KX

namespace KX
open PySem PySem.Spec PyProof.Rows L2
/-! ### for k, v in d.items(), d a dict with tuple keys -/
/-- the pairs, each a new tuple of the key's own tuple and the value -/
def ItiT (d : Addr) (o : Obj) (kvs : List (List Key × V)) : It :=
  ⟨fun i H => H d = some (.frz o (.dT kvs)) ∧ i < kvs.length, fun i H x H' => ∃ T k v q, kvs[i]? = some (k, v) ∧ H q = some (.tup (k.map kV)) ∧ x = .ref T ∧ H T = none ∧ H' = upd H T (.tup [.ref q, v]), fun i H => H d = some (.frz o (.dT kvs)) ∧ kvs.length ≤ i⟩
section
variable {X : Cx} {pins : List (Addr × Obj)} {σ : L2.St} {H : Hp} {s : Shared} {d : Addr} {o : Obj}
theorem Inv.frzTv {kvs : List (List Key × V)} (I : Inv X pins σ H s) (h : H d = some (.frz o (.dT kvs))) :
    (d == sysModules) = false ∧ s.heap.get? d = some o ∧ o.ExactDict ∧ ∃ (es : Array DictEntry) (ep : Nat), o.data = .dict es ep ∧ es.size = kvs.length ∧
      ∀ (i : Nat) (k : List Key) (v : V), kvs[i]? = some (k, v) → ∃ (en : DictEntry) (q : Addr), es[i]? = some en ∧ en.key = .ref q ∧ H q = some (.tup (k.map kV)) ∧ RelV v en.val := by
  obtain ⟨hd, z, hs, xs, pr, o', es, ep, ho, hx, hdt, he, _⟩ := I.hok d _ h
  rw [hd] at ho
  cases ho
  refine ⟨hs, hd, hx, es, ep, hdt, ?_, fun i k v e => ?_⟩
  · have l1 : es.size = xs.length := size_of_entries he
    have l2 : kvs.length = xs.length := Paired.length pr
    omega
  · obtain ⟨b, hb, e1, e2, e3⟩ := L2.paired_get pr e
    have q := entry_at he i
    rw [hb] at q
    exact ⟨_, b.2.1, q, rfl, e2, e3⟩
end
section
variable {P : Program} {w : World} {K : PySem.W.Frag} {d : Addr} {o : Obj} {es : Array DictEntry} {ep : Nat}
theorem turn_itemsT {kvs : List (List Key × V)} {elts : List Expr} {kk : Nat} {tpos : Pos} (it : Addr) (hod : o.data = .dict es ep) :
    Turn P w K (.Tuple elts kk tpos) (ItiT d o kvs) [it] it (fun i h => ∃ ok ov, IsItemIter h it d i kvs.length ep ok ov) where
  mem := by simp
  obj := fun i h st b hb => by
    have e : b = it := by simpa using hb
    subst e
    obtain ⟨ok, ov, e⟩ := st
    exact ⟨_, e, fun v z => nomatch z⟩
  keep := fun i h h' st k => let ⟨ok, ov, e⟩ := st; ⟨ok, ov, k it (by simp) _ e⟩
  item := by
    intro X hP hw hK hc i pins s σ H E I hf st hg
    subst hP hw hK
    obtain ⟨hd, hi⟩ := hg
    obtain ⟨hs, hgd, hx, es', ep', hdt, hsz, ent⟩ := Inv.frzTv I hd
    obtain ⟨rfl, rfl⟩ := dict_ep hod hdt
    obtain ⟨⟨k, v⟩, hkv⟩ : ∃ p, kvs[i]? = some p := ⟨kvs[i], List.getElem?_eq_getElem hi⟩
    obtain ⟨en, q, hen, hkey, hq, ru⟩ := ent i k v hkv
    obtain ⟨ok, ov, he⟩ := st
    rw [← hsz] at he
    have hlt : it < s.heap.objs.size := Heap.lt_size he
    have hi' : i < es'.size := by omega
    have een : es'[i] = en := by rw [Array.getElem?_eq_getElem hi'] at hen; exact Option.some.inj hen
    refine wpAny_pyNext_items_item_raw he ⟨o, hgd, hx, hdt⟩ hi' fun h' ho hT hz hk => ?_
    refine ⟨_, rfl, wpAny_letOwnedTupleGo_items (s := { s with heap := h' }) ho fun h'' he' sb => ?_⟩
    have hT2 : h''.get? s.heap.objs.size = some { cls := .type "tuple", data := .seq #[es'[i].key, es'[i].val] } := (sb.2 _ (Nat.ne_of_gt hlt)).trans hT
    have new : ObjOk X.prog X.w (upd H s.heap.objs.size (.tup [.ref q, v])) h'' s.heap.objs.size (.tup [.ref q, v]) :=
      ⟨by show 2 ≤ sizeLine; decide, [es'[i].key, es'[i].val], .cons (by rw [een]; exact hkey) (.cons (by rw [een]; exact ru) .nil), ⟨_, hT2, rfl, _, rfl⟩⟩
    have I1 : Inv X pins σ (upd H s.heap.objs.size (.tup [.ref q, v])) { s with heap := h'' } :=
      I.turnedNew (t' := s.toks) (ch := [it]) (fun b ob hb e => (sb.2 b (by simpa using hb)).trans (hk b ob (by simpa using hb) e)) hf (Nat.le_refl _) new
    refine ⟨.ref s.heap.objs.size, _, I1, rfl, ⟨_, k, v, q, hkv, hq, rfl, I.hok.fresh (Nat.le_refl _), rfl⟩, ⟨es'[i].key, es'[i].val, ?_⟩, fun b hb => ?_⟩
    · rw [← hsz]; exact he'
    · have e : b = it := by simpa using hb
      rw [e, upd_ne (Nat.ne_of_lt hlt)]
      exact (hf it (by simp)).1
  done := by
    intro X hP hw hK hc i pins s σ H E I hf st hg
    subst hP hw hK
    obtain ⟨hd, hi⟩ := hg
    obtain ⟨f0, f1, f2, f3, f4, f5⟩ := hf it (by simp)
    obtain ⟨hs, hgd, hx, es', ep', hdt, hsz, ent⟩ := Inv.frzTv I hd
    obtain ⟨rfl, rfl⟩ := dict_ep hod hdt
    obtain ⟨ok, ov, he⟩ := st
    rw [← hsz] at he
    exact wpAny_pyNext_items_end_raw (I.ok.hd hc) he ⟨o, hgd, hx, hdt⟩ (by omega) fun h' eb => ⟨rfl, I.turned (t' := s.toks) (fun b ob hb e => eb b ob hb e) f0 f1 f3 f4 f5⟩
  self := fun A i s Q E st h => let ⟨_, _, e⟩ := st; PySem.W.kcp_self e h
end
def iItemsT (td : TE) : TI := fun σ H R => td σ H fun x H1 => ∃ d o kvs, x = .ref d ∧ H1 d = some (.frz o (.dT kvs)) ∧ R (ItiT d o kvs) H1
theorem pi_itemsT {X : Cx} {e : Expr} {td : TE} {apos cpos : Pos} {elts : List Expr} {kk : Nat} {tpos : Pos} (he : PE X e td) (hbase : attributeBase e "items" X.env (eval e X.env) = eval e X.env := by rfl) (hline : (apos.endLine == cpos.line) = true := by rfl) :
    PI X (.Tuple elts kk tpos) (.Call (.Attribute e "items" apos) [] [] cpos) (iItemsT td) := by
  refine ⟨fun pins s σ H R I h => ?_⟩
  refine wpAny_Call_method (T := "dict") (id := "dict.items") hbase rfl hline F.plainAttrs_dict F.slot_dict_items F.type_dict_items (thn (he.run pins s σ H _ I h) fun u s1 ⟨x, H1, I1, rx, d, o, kvs, ex, hd, q⟩ => ?_)
  subst ex
  obtain rfl : u = Value.ref d := rx
  obtain ⟨hs, hgd, hx, es, ep, hdt, hsz, ent⟩ := Inv.frzTv I1 hd
  have hm : s1.heap.DictRaw d es ep := ⟨o, hgd, hx, hdt⟩
  refine ⟨hm.typeIs, fun b e => ?_, ?_⟩
  · cases e
    exact ⟨o, hgd, hx.2.1⟩
  have I2 : Inv X pins σ H1 { s1 with heap := s1.heap.push { cls := .type "dict_items", data := .fields #[.ref d] } } := I1.kept (t' := s1.toks) fun b ob q => Heap.get?_push_of_some _ q
  have fin : wpAny (model X.prog X.w) X.A (pyIter (.ref s1.heap.objs.size)) (PIE X pins σ (.Tuple elts kk tpos) R) X.xe { s1 with heap := s1.heap.push { cls := .type "dict_items", data := .fields #[.ref d] } } := by
    refine wpAny_pyIter_items_raw (d := d) (es := es) (ep := ep) ⟨_, Heap.get?_push_size _ rfl, rfl, rfl⟩ ⟨o, Heap.get?_push_of_some _ hgd, hx, hdt⟩ (pi_one (tk := s1.toks) I2 _ (turn_itemsT _ hdt) ⟨.none, .none, ?_⟩ q)
    rw [← hsz]
    exact Heap.get?_push_size _ rfl
  show wpAny _ _ (callWith cpos (.builtin "dict.items") [.ref d] [] []) _ X.xe s1
  exact method_meetsIn F.slot_dict_items F.entry_dict_items rfl (PySem.evalArgs_none ⟨rfl, hm.typeIs, F.args_dict_items_1 _, _, meets_dict_items_raw d hs, ⟨es, ep, hm⟩, fin⟩)
theorem i_iItemsT {td : TE} {σ : L2.St} {H : Hp} {R : It → Hp → Prop} (q : td σ H fun x H1 => ∃ d o kvs, x = .ref d ∧ H1 d = some (.frz o (.dT kvs)) ∧ R (ItiT d o kvs) H1) : iItemsT td σ H R := q
/-- a walk over them: the pair (the key's own tuple, the value) -/
theorem wq_itemsT {d : Addr} {o : Obj} {kvs : List (List Key × V)} : Wq (ItiT d o kvs) kvs.length (fun H => H d = some (.frz o (.dT kvs))) (fun i x H => ∃ T k v q, x = .ref T ∧ H T = some (.tup [.ref q, v]) ∧ kvs[i]? = some (k, v) ∧ H q = some (.tup (k.map kV))) := by
  refine ⟨fun i H g h => ⟨g, h⟩, fun i H x H' g y h => ?_, fun H g => ⟨g, Nat.le_refl _⟩⟩
  obtain ⟨T, k, v, q, h1, h2, h3, h4, h5⟩ := y
  subst h5
  exact ⟨same_new h4, T, k, v, q, h3, upd_same, h1, same_new h4 _ _ h2⟩
end KX

namespace KX
open PySem PySem.Spec PyProof.Rows L2
/-! ### == and != of dicts whose keys are tuples -/
section
variable {prog : Program} {w : World} {K : Type} [DecidableEq K] {knd : HeapKind prog w K} {A : Around} {E : Value → Shared → Prop} {s : Shared}
inductive KeqHitsT (A : Around) (s : Shared) (xb : List (K × Addr × Value)) : List (K × Addr × Value) → Bool → Prop
  | nil : KeqHitsT A s xb [] true
  | hit {k : K} {a b' : Addr} {v y : Value} {r : List (K × Addr × Value)} {e b : Bool} : atKey xb k = some (b', y) → SeqAt.EqAt A s v y e → KeqHitsT A s xb r b → KeqHitsT A s xb ((k, a, v) :: r) (e && b)
theorem samePairsT {nm : String} {a b : Addr} {xa xb : List (K × Addr × Value)} {r : Bool} {Q : Bool → Shared → Prop} (ha : (a == sysModules) = false) (hb : (b == sysModules) = false)
    (hu : knd.room A) (da : s.heap.DictOfH knd a xa) (db : s.heap.DictOfH knd b xb) (hits : xa.length = xb.length → KeqHitsT A s xb xa r) (h : Q (xa.length == xb.length && r) s) :
    wpAny (model prog w) A (Builtin.Dict.samePairs nm a b) Q E s := by
  obtain ⟨oa, es, ep, hoa, _, hda, hea, hisa, hna⟩ := da
  obtain ⟨ob, es', ep', hob, _, hdb, heb, hisb, hnb⟩ := db
  have hla : es.size = xa.length := size_of_entries hea
  have hlb : es'.size = xb.length := size_of_entries heb
  rw [← hla, ← hlb] at h
  unfold Builtin.Dict.samePairs Builtin.Dict.showsAll
  rw [if_neg (show ¬ (a == sysModules) = true by rw [ha]; exact Bool.false_ne_true), if_neg (show ¬ (b == sysModules) = true by rw [hb]; exact Bool.false_ne_true)]
  refine wpAny_bind (wpAny_pure (wpAny_bind (wpAny_pure ?_)))
  refine wpAny_bind (wpAny_dictEntries hoa hda ?_)
  dsimp only
  refine wpAny_bind (wpAny_dictEntries hob hdb ?_)
  by_cases hsz : es.size = es'.size
  case neg =>
    rw [if_pos (by simpa using hsz)]
    have hbf : (es.size == es'.size) = false := by simpa using hsz
    rw [hbf, Bool.false_and] at h
    exact wpAny_bind (wpAny_rule (wpAny_pure h))
  case pos =>
    have h' : Q r s := by simpa [hsz] using h
    have hits' := hits (by rw [← hla, ← hlb]; exact hsz)
    rw [if_neg (by rw [hsz]; simp)]
    refine wpAny_bind (wpAny_dictEpoch hoa hda ?_)
    refine wpAny_bind ?_
    rw [Std.Legacy.Range.forIn_eq_forIn_range']
    simp only [Std.Legacy.Range.size, Nat.sub_zero, Nat.add_sub_cancel, Nat.div_one]
    refine wpAny_forIn_list _
      (fun rest q s' => s' = s ∧ q = (none, ()) ∧ ∃ i, rest = List.range' i (es.size - i) ∧ i ≤ es.size ∧ KeqHitsT A s xb (xa.drop i) r)
      _ ?_ ?_ _ _ ⟨rfl, rfl, 0, by simp, Nat.zero_le _, hits'⟩
    · rintro x rest q s' ⟨rfl, rfl, i, hr, hi, hpre⟩
      have hlt : i < es.size := by
        rcases Nat.lt_or_ge i es.size with h | h
        · exact h
        · rw [Nat.sub_eq_zero_of_le h] at hr; simp at hr
      obtain ⟨rfl, hrest⟩ : x = i ∧ rest = List.range' (i + 1) (es.size - (i + 1)) := by
        have e : es.size - i = (es.size - (i + 1)) + 1 := by omega
        rw [e, List.range'_succ] at hr
        injection hr with h1 h2
        exact ⟨h1, h2⟩
      refine wpAny_bind (wpAny_dictEntries hoa hda ?_)
      rw [Array.getElem?_eq_getElem hlt]
      have hlt' : x < xa.length := by omega
      obtain ⟨k, q, v, hkv⟩ : ∃ k q v, xa[x] = (k, q, v) := ⟨_, _, _, rfl⟩
      have hdrop : xa.drop x = (k, q, v) :: xa.drop (x + 1) := by rw [← hkv]; exact List.drop_eq_getElem_cons hlt'
      have een : es[x] = entryOfKey knd (k, q, v) := by
        have z := entry_at hea x
        rw [Array.getElem?_eq_getElem hlt, List.getElem?_eq_getElem hlt', hkv] at z
        exact Option.some.inj z
      have hkey : knd.is s'.heap k q := hisa (k, q, v) (by rw [← hkv]; exact List.getElem_mem hlt')
      rw [hdrop] at hpre
      rw [een]
      show wpAny _ _ (holding [Value.ref q, v] _ >>= _) _ _ _
      cases hpre with
      | @hit _ _ b' _ y _ e b'' hat heq hrr =>
      refine wpAny_bind (wpAny_holding (wpAny_bind (wpAny_dictFind_heap hu hkey hob hdb heb hisb hnb (fun hn => ?_) (fun j p hj => ?_))))
      · rw [atKey_none_of_get hn] at hat; cases hat
      · have hp : p = (b', y) := by
          have z := atKey_of_get hnb hj
          rw [hat] at z
          exact (Option.some.inj z).symm
        subst hp
        have hjlt : j < es'.size := by rw [hlb]; exact (List.getElem?_eq_some_iff.mp hj).1
        have eej : es'[j] = entryOfKey knd (k, b', y) := by
          have z := entry_at heb j
          rw [Array.getElem?_eq_getElem hjlt, hj] at z
          exact Option.some.inj z
        refine wpAny_bind (wpAny_dictEntries hob hdb ?_)
        rw [Array.getElem?_eq_getElem hjlt, eej]
        refine wpAny_holding (heq prog w _ _ ?_)
        cases e with
        | false =>
          rw [Bool.false_and] at h'
          show wpAny _ _ (if (!false) = true then _ else _) _ _ _
          rw [if_pos (by decide)]
          exact wpAny_pure (wpAny_pure h')
        | true =>
          rw [Bool.true_and]
          show wpAny _ _ (if (!true) = true then _ else _) _ _ _
          rw [if_neg (by decide)]
          refine wpAny_bind (wpAny_dictEpoch hoa hda ?_)
          rw [if_neg (by simp)]
          exact wpAny_pure ⟨rfl, rfl, x + 1, hrest, hlt, hrr⟩
    · rintro q s' ⟨rfl, rfl, i, hr, hi, hpre⟩
      have hin : i = es.size := by
        rcases Nat.lt_or_ge i es.size with h | h
        · have e : es.size - i = (es.size - (i + 1)) + 1 := by omega
          rw [e, List.range'_succ] at hr; exact nomatch hr
        · exact Nat.le_antisymm hi h
      refine wpAny_pure ?_
      rw [hin, hla, List.drop_length] at hpre
      cases hpre
      exact h'
theorem keqT_ne {a b : Addr} {xa xb : List (K × Addr × Value)} {r : Bool} {Q : Value → Shared → Prop} (ha : (a == sysModules) = false) (hb : (b == sysModules) = false)
    (da : s.heap.DictOfH knd a xa) (db : s.heap.DictOfH knd b xb) (hu : A.units < cLine) (hr : knd.room A.in1) (hits : xa.length = xb.length → KeqHitsT A.in1 s xb xa r) (h : Q (.bool (!(xa.length == xb.length && r))) s) :
    wpAny (model prog w) A (compareOp .NotEq (.ref a) (.ref b)) Q E s := by
  refine wpAny_richCompare_same_room (op := .NotEq) da.typeIs db.typeIs PySem.F.slot_dict_ne (wpAny_call_entry PySem.F.slot_dict_ne da.typeIs PySem.F.entry_dict_ne ?_ (PySem.F.args_dict_ne_2 _ _)) hu
  show wpAny _ _ (Builtin.Dict.dictSlotArgs "__ne__" ⟨[.ref a, .ref b], []⟩ >>= _) _ _ s
  refine wpAny_bind ?_
  unfold Builtin.Dict.dictSlotArgs
  refine wpAny_bind (wpAny_notOrdered_dict da.typeIs ?_)
  show wpAny _ _ (pure (Value.ref a, Value.ref b)) _ _ s
  refine wpAny_pure ?_
  refine wpAny_bind (wpAny_isInstance (T := "dict") db.typeIs PySem.F.sub_dict_dict ?_)
  simp only [Bool.not_true, Bool.false_eq_true, if_false]
  refine wpAny_bind (wpAny_pure (wpAny_bind (wpAny_pure ?_)))
  refine wpAny_bind (samePairsT ha hb hr da db hits ?_)
  refine wpAny_pure ⟨_, rfl, ?_, ?_⟩
  · exact fun x => nomatch x
  · simpa using h
end
/-- two dicts with tuple keys: what each value is compared with -/
def EqT (K : PySem.W.Frag) (H : Hp) (ks ls : List (List Key × V)) (r : List Key × V → Bool) : Prop := ∀ p ∈ ks, ∃ u d e, valV ls p.1 = some u ∧ Dp K H p.2 d ∧ Dp K H u e ∧ SeqAt.shaped d = true ∧ SeqAt.shaped e = true ∧ r p = PyData.eqv d e
def rEqT (K : PySem.W.Frag) : R2 := fun x y H Q => ∃ a b ks ls r, x = .ref a ∧ y = .ref b ∧ H a = some (.dT ks) ∧ H b = some (.dT ls) ∧ EqT K H ks ls r ∧ Q (.bl (ks.length == ls.length && ks.all r)) H
def rNeT (K : PySem.W.Frag) : R2 := fun x y H Q => ∃ a b ks ls r, x = .ref a ∧ y = .ref b ∧ H a = some (.dT ks) ∧ H b = some (.dT ls) ∧ EqT K H ks ls r ∧ Q (.bl (!(ks.length == ls.length && ks.all r))) H
theorem hitsT {X : Cx} {pins : List (Addr × Obj)} {σ : L2.St} {H : Hp} {s : Shared} {A : Around} (I : Inv X pins σ H s) (hu : A.in1.units + 64 < cLine) {ls : List (List Key × V)} {xb : List (List Key × Addr × Value)} (rb : KT H ls xb) {r : List Key × V → Bool} :
    ∀ {ks : List (List Key × V)} {xa : List (List Key × Addr × Value)}, KT H ks xa → EqT X.K H ks ls r → KeqHitsT A s xb xa (ks.all r)
  | _, _, .nil, _ => .nil
  | _, _, .cons (a := p) (b := q) (l₁ := ps) (l₂ := qs) h t, e => by
    obtain ⟨k, a, v⟩ := q
    obtain ⟨u, d, e', hv, d1, d2, sd, se, hr⟩ := e p (by simp)
    obtain ⟨h1, h2, h3⟩ := h
    obtain ⟨y, hy, ry⟩ := RelO.some_of (v := u) (o := (atKey xb p.1).map (·.2)) (by rw [← hv]; exact rb.val p.1)
    obtain ⟨⟨b', y'⟩, hat, rfl⟩ := Option.map_eq_some_iff.mp hy
    obtain ⟨as, q1⟩ := Dp.reads I d p.2 v d1 h3
    obtain ⟨bs, q2⟩ := Dp.reads I e' u y' d2 ry
    have step : SeqAt.EqAt A s v y' (PyData.eqv d e') := SeqAt.eqAt_reads d e' A s v y' as bs q1 q2 (SeqAt.canLay_of_shaped sd) (SeqAt.canLay_of_shaped se) (SeqAt.room_of_shaped sd (by have := hu; show A.units + 64 < cLine; have e : A.in1.units = A.units + 1 := rfl; omega))
    show KeqHitsT A s xb ((k, a, v) :: qs) (r p && ps.all r)
    rw [hr]
    have hk : p.1 = k := h1
    exact .hit (by rw [← hk]; exact hat) step (hitsT I hu rb t fun p' hp => e p' (List.mem_cons_of_mem _ hp))
section
variable {X : Cx}
theorem op_neT (hu : X.A.units + 66 < cLine) : OpR X (compareOp .NotEq) (rNeT X.K) := by
  intro pins s σ H x y v u Q I rx ry h
  obtain ⟨a, b, ks, ls, r, rfl, rfl, ea, eb, ee, q⟩ := h
  obtain rfl : v = Value.ref a := rx
  obtain rfl : u = Value.ref b := ry
  obtain ⟨_, ya, xa, ra, da⟩ := dt_of I.hok ea
  obtain ⟨_, yb, xb, rb, db⟩ := dt_of I.hok eb
  have la : ks.length = xa.length := Paired.length ra
  have lb : ls.length = xb.length := Paired.length rb
  refine keqT_ne (r := ks.all r) ya yb da db (by omega) (tupleKind_room_in1 (by omega)) (fun _ => hitsT I (by show X.A.units + 1 + 1 + 64 < cLine; omega) rb ra ee) ?_
  rw [← la, ← lb]
  exact ⟨.bl _, H, I, rfl, q⟩
end
end KX

namespace KX
open PySem PySem.Spec PyProof.Rows L2
theorem ic_of {K : PySem.W.Frag} {C : Addr} (h : clsB K C = true) (i : icB K C = true) : C8.InsC K C := by
  unfold icB at i
  simp only [Bool.and_eq_true, beq_iff_eq] at i
  exact ⟨cls_of h, i.1, i.2.1, i.2.2.1, i.2.2.2.1, i.2.2.2.2⟩
/-! ### x == y by an own __eq__ that returns a bool -/
def rEqO (C : Addr) (sp : Sp) (E : XK) : R2 := fun x y H Q => ∃ a b dx dy fs gs, x = .ref a ∧ y = .ref b ∧ H a = some (.ins C dx fs) ∧ H b = some (.ins C dy gs) ∧ sp [.ref a, .ref b] H (fun v H' => ∃ k, v = .bl k ∧ Q (.bl k) H') E
end KX

namespace KX
open PySem PySem.Spec PyProof.Rows L2
theorem call_listNK {X : Cx} {K : PySem.W.Frag} (h : X.K = K) : CallR X (.type "list") (rListN K) := h ▸ call_listN
theorem neT_units {k : Nat} {A : Around} (r : Room k A) : A.units + 66 < cLine := by have := r.un; omega
theorem eqV_units {k : Nat} {A : Around} (r : Room k A) : A.units + 64 < cLine := by have := r.un; omega
end KX

/-! != of dicts whose values are data, equal or not -/
namespace KX
open PySem PySem.Spec PyProof.Rows L2
def EqK (K : PySem.W.Frag) (H : Hp) (ks ls : List (Key × V)) (r : Key × V → Bool) : Prop := ∀ p ∈ ks, ∃ u d e, valV ls p.1 = some u ∧ Dp K H p.2 d ∧ Dp K H u e ∧ SeqAt.shaped d = true ∧ SeqAt.shaped e = true ∧ r p = PyData.eqv d e
def rNeK (K : PySem.W.Frag) : R2 := fun x y H Q => ∃ a b ks ls r, x = .ref a ∧ y = .ref b ∧ H a = some (.dK ks) ∧ H b = some (.dK ls) ∧ EqK K H ks ls r ∧ Q (.bl (!(ks.length == ls.length && ks.all r))) H
theorem hitsK {X : Cx} {pins : List (Addr × Obj)} {σ : L2.St} {H : Hp} {s : Shared} {A : Around} (I : Inv X pins σ H s) (hu : A.in1.units + 64 < cLine) {ls : List (Key × V)} {vb : List (Key × Value)} (rb : KV ls vb) {r : Key × V → Bool} :
    ∀ {ks : List (Key × V)} {va : List (Key × Value)}, KV ks va → EqK X.K H ks ls r → PySem.W.KeqHits A s vb va (ks.all r) := by
  intro ks va ra
  unfold KV at ra
  induction ra with
  | nil => intro _; exact .nil
  | @cons p q ps qs h t ih =>
    intro e
    obtain ⟨k, v⟩ := q
    obtain ⟨u, d, e', hv, d1, d2, sd, se, hr⟩ := e p List.mem_cons_self
    obtain ⟨h1, h2⟩ := h
    have rr : RelO (some u) (valueAt vb p.1) := by rw [← hv]; exact rb.val p.1
    obtain ⟨y, hy, ry⟩ := rr.some_of
    obtain ⟨as, q1⟩ := Dp.reads I d p.2 v d1 h2
    obtain ⟨bs, q2⟩ := Dp.reads I e' u y d2 ry
    have step : SeqAt.EqAt A s v y (PyData.eqv d e') := SeqAt.eqAt_reads d e' A s v y as bs q1 q2 (SeqAt.canLay_of_shaped sd) (SeqAt.canLay_of_shaped se) (SeqAt.room_of_shaped sd (by have := hu; show A.units + 64 < cLine; have e : A.in1.units = A.units + 1 := rfl; omega))
    have h1' : p.1 = k := h1
    rw [h1'] at hy
    show PySem.W.KeqHits A s vb ((k, v) :: qs) (r p && ps.all r)
    rw [hr]
    exact .hit hy step (ih fun p' hp => e p' (List.mem_cons_of_mem _ hp))
section
variable {X : Cx}
theorem op_neK (hu : X.A.units + 66 < cLine) : OpR X (compareOp .NotEq) (rNeK X.K) := by
  intro pins s σ H x y v u Q I rx ry h
  obtain ⟨a, b, ks, ls, r, rfl, rfl, ea, eb, ee, q⟩ := h
  obtain rfl : v = Value.ref a := rx
  obtain rfl : u = Value.ref b := ry
  obtain ⟨_, ya, va, ra, da⟩ := (show ObjOk X.prog X.w H s.heap a (.dK ks) from I.hok a _ ea)
  obtain ⟨_, yb, vb, rb, db⟩ := (show ObjOk X.prog X.w H s.heap b (.dK ls) from I.hok b _ eb)
  have la : ks.length = va.length := ra.length
  have lb : ls.length = vb.length := rb.length
  refine PySem.W.keq_ne (knd := mixKind X.prog X.w) (r := ks.all r) ya yb da db (by omega) (fun _ => hitsK I (by show X.A.units + 1 + 1 + 64 < cLine; omega) rb ra ee) ?_
  rw [← la, ← lb]
  exact ⟨.bl _, H, I, rfl, q⟩
end
end KX

/-! x != y where the class has an own __eq__ and no __ne__: object.__ne__ asks __eq__ and turns its answer round; x.clear() of a list or a dict -/
namespace KX
open PySem PySem.Spec PyProof.Rows L2
section
variable {prog : Program} {w : World} {A : Around} {E : Value → Shared → Prop} {s : Shared} {K : PySem.W.Frag} {x C f : Addr} {ox : Obj} {od : Option Obj} {name : Str} {b : Value}
theorem ifBound_B {M : Model} {args : List Value} {id : String} {Q : Option Value → Shared → Prop} (X : K.In s.heap) (I : PySem.W.InstAt s.heap x ox C od) (hs : PySem.W.findIn K (.ref C) name = some (some (.builtin id))) (hbd : ∀ self, bindSpecial (.builtin id) self = pure (.builtin id, [self]))
    (h : wpAny M A (call (.builtin id) (.ref x :: args)) (fun v => Q (some v)) E s) : wpAny M A (callSpecialIfBound? (.ref x) name args) Q E s := by
  simp only [callSpecialIfBound?, bindSpecialIfBound?]
  refine wpAny_holding (wpAny_bind (wpAny_bind (wpAny_bind (I.type.here ((PySem.W.looks_findIn X hs).here ?_)))))
  simp only [hbd]
  refine wpAny_bind (wpAny_askSetting (wpAny_ite ?_))
  have fin : wpAny M A (call (.builtin id) ([.ref x] ++ args) >>= fun v => pure (some v)) Q E s := wpAny_bind (wpAny_mono h (fun v s' h' => wpAny_pure h') fun _ _ h' => h')
  split
  · exact wpAny_bind (wpAny_pure (wpAny_pure fin))
  · exact wpAny_tryCatch (wpAny_bind (wpAny_pure (wpAny_pure fin)))
theorem check_ne {M : Model} {Q : Unit → Shared → Prop} (X : K.In s.heap) (I : PySem.W.InstAt s.heap x ox C od) (hm : PySem.W.mroIn K C (.type "object") = some true) (hq : Q () s) :
    wpAny M A (checkBuiltinCall "object.__ne__" ⟨[.ref x, b], []⟩) Q E s := by
  have ha := F.cmpArgs_ne (.ref x) b
  simp only [checkBuiltinCall, F.cmpKind_ne, F.cmpSplit_ne]
  unfold isInstance
  refine wpAny_bind (wpAny_bind (I.type.here ((PySem.W.looks_mroIn X hm).here ?_)))
  show wpAny M A (match Manifest.signature? "object.__ne__" with
    | some sig => Bind.checkArgs "object.__ne__" sig { pos := [Value.ref x, b] }
    | x => pure ()) Q E s
  cases hsig : Manifest.signature? "object.__ne__" with
  | none => exact wpAny_pure hq
  | some sig =>
    simp only [argsOk, hsig] at ha
    have h2 : Bind.checkArgs "object.__ne__" sig ⟨[.ref x, b], []⟩ = pure () := ha
    show wpAny M A (Bind.checkArgs "object.__ne__" sig ⟨[.ref x, b], []⟩) Q E _
    rw [h2]; exact wpAny_pure hq
theorem ne_entry {Q : Value → Shared → Prop} (hu : A.in1.units < cLine) (X : K.In s.heap) (I : PySem.W.InstAt s.heap x ox C od) (hn : PySem.W.findIn K (.ref C) "__ne__" = some (some (.builtin "object.__ne__"))) (hm : PySem.W.mroIn K C (.type "object") = some true)
    (hs : PySem.W.findIn K (.ref C) "__eq__" = some (some (.ref f))) (hf : PySem.W.isFn K (.ref f) = true)
    (h : wpAny (model prog w) A.in1 (call (.ref f) [.ref x, b]) (fun v s' => ∃ k : Bool, v = .bool k ∧ Q (.bool (!k)) s') E s) : wpAny (model prog w) A (callSpecialIfBound? (.ref x) "__ne__" [b]) (fun r s' => ∃ v, r = some v ∧ v ≠ .notImplemented ∧ Q v s') E s := by
  refine ifBound_B X I hn (fun self => F.cmp_object.ne.bind self) (wpAny_call (codeAny_call_builtin F.cmp_object.ne.plain F.cmpEntry_ne (check_ne X I hm ?_)))
  unfold Builtin.«object.__ne__»
  refine wpAny_bind (m := slotArgs "__ne__" 1 _) (wpAny_pure ?_)
  refine wpAny_bind (wpAny_cRoomFor hu ?_)
  refine wpAny_bind (m := callSpecialIfBound? (.ref x) (Str.ofString "__eq__") _) (PySem.W.ifBound_K X I hs hf (wpAny_mono h (fun v s' hv => ?_) fun _ _ e => e))
  obtain ⟨k, rfl, q⟩ := hv
  refine wpAny_bind (m := truthy (.bool k)) (wpAny_pure ?_)
  exact wpAny_pure ⟨_, rfl, (by intro z; cases z), q⟩
theorem cmp_ne {h₀ : Heap} {L : Addr} {m : Str → Option Value} {tb : Value} {Q : Value → Shared → Prop} (hu : A.units < cLine) (hu1 : A.in1.units < cLine) (F : PyProof.Rows.Fr h₀ L s.heap m) (X₀ : K.In h₀) (I : PySem.W.InstAt s.heap x ox C od) (hb : PySem.W.Looks (model prog w) s.heap (typeOf b) tb) (hnf : PySem.W.notFirst K C tb = true)
    (hn : PySem.W.findIn K (.ref C) "__ne__" = some (some (.builtin "object.__ne__"))) (hm : PySem.W.mroIn K C (.type "object") = some true) (hs : PySem.W.findIn K (.ref C) "__eq__" = some (some (.ref f))) (hf : PySem.W.isFn K (.ref f) = true)
    (h : wpAny (model prog w) A.in1 (call (.ref f) [.ref x, b]) (fun v s' => ∃ k : Bool, v = .bool k ∧ Q (.bool (!k)) s') E s) : wpAny (model prog w) A (richCompare .NotEq (.ref x) b) Q E s := by
  have X := X₀.keeps F.keep
  have one : wpAny (model prog w) A (tryCompare (.ref x) "__ne__" b) (fun r s' => ∃ v, r = some v ∧ Q v s') E s := by
    unfold tryCompare
    refine wpAny_bind (wpAny_mono (ne_entry hu1 X I hn hm hs hf h) (fun r s' z => ?_) fun _ _ e => e)
    obtain ⟨v, rfl, ne, hv⟩ := z
    cases v <;> first | exact (ne rfl).elim | exact wpAny_pure ⟨_, rfl, hv⟩
  unfold richCompare
  simp only [PySem.oneThing_ref]
  refine wpAny_holding (wpAny_bind (wpAny_cRoomFor hu ?_))
  refine wpAny_bind (I.type.here (wpAny_bind (hb.here ?_)))
  split
  · rename_i q
    have e : PySem.W.subIn K tb (.ref C) = some false := by
      rcases Bool.or_eq_true_iff.mp hnf with e | e
      · rw [beq_iff_eq.mp e] at q; simp at q
      · exact beq_iff_eq.mp e
    refine wpAny_bind ((PySem.W.looks_subIn X e).here ?_)
    simp only [Bool.false_eq_true, if_false]
    refine wpAny_bind (wpAny_mono one (fun r s' z => ?_) fun _ _ e => e)
    obtain ⟨v, rfl, hq⟩ := z
    exact wpAny_pure hq
  · refine wpAny_bind (wpAny_pure ?_)
    simp only [Bool.false_eq_true, if_false]
    refine wpAny_bind (wpAny_mono one (fun r s' z => ?_) fun _ _ e => e)
    obtain ⟨v, rfl, hq⟩ := z
    exact wpAny_pure hq
end
def rNeO (C : Addr) (sp : Sp) (E : XK) : R2 := fun x y H Q => ∃ a b dx dy fs gs, x = .ref a ∧ y = .ref b ∧ H a = some (.ins C dx fs) ∧ H b = some (.ins C dy gs) ∧ sp [.ref a, .ref b] H (fun v H' => ∃ k, v = .bl k ∧ Q (.bl (!k)) H') E
theorem op_neO {X : Cx} {CX : CXT} {C f : Addr} {fd : FuncData} {ps : List Str} {n : Nat} {sp : Sp} {E : XK} (hn : PySem.W.findIn X.K (.ref C) "__ne__" = some (some (.builtin "object.__ne__"))) (ic : C8.InsC X.K C) (hs : PySem.W.findIn X.K (.ref C) "__eq__" = some (some (.ref f))) (hf : PySem.W.isFn X.K (.ref f) = true)
    (F : FnOk X.prog X.w X.K X.mg X.base CX n f fd ps sp) (hr0 : Room (n + 1) X.A) (hb : Binds X.K fd ps []) (hx : Passes CX X E) : OpR X (compareOp .NotEq) (rNeO C sp E) := by
  intro pins s σ H x y u v Q I rx ry d
  obtain ⟨a, b, dx, dy, fs, gs, rfl, rfl, ha, hb', hsp⟩ := d
  cases rx
  cases ry
  obtain ⟨mA, J, _⟩ := ins_get I.hok ha
  obtain ⟨mB, J', _⟩ := ins_get I.hok hb'
  obtain ⟨od, J, _⟩ := J.look
  obtain ⟨od', J', _⟩ := J'.look
  obtain ⟨m, hF⟩ := I.fr
  show wpAny (model X.prog X.w) X.A (richCompare .NotEq (.ref a) (.ref b)) (EP X pins σ Q) X.xe s
  refine cmp_ne (tb := .ref C) hr0.units0 hr0.in1.units0 hF I.ok.mod.kin J J'.type (by simp [PySem.W.notFirst]) hn ic.hm hs hf ?_
  have hl := F.len _ _ _ _ hsp
  have r2 : Vals [V.ref a, V.ref b] [Value.ref a, Value.ref b] := .cons rfl (.cons rfl .nil)
  have e0 : Env0 X.prog X.w X.K X.mg X.base X.A.in1 X.stack s H := I.env0.in1
  refine wpAny_call (codeAny_mono (F.run X.A.in1 X.stack s H ⟨[.ref a, .ref b], []⟩ [.ref a, .ref b] [.ref a, .ref b] _ E hr0.in1 e0 (by
    have := hb s [.ref a, .ref b] I.kIn (by simpa using hl)
    simpa using this) r2 hsp) fun r s' hq => ?_)
  cases r with
  | error e => exact hx pins σ H s e s' I hq
  | ok fl =>
    cases fl with
    | ret w =>
      obtain ⟨z, H', I', rz, k, ez, q⟩ := I.after hq
      subst ez
      cases rz
      exact ⟨k, rfl, .bl (!k), H', I', rfl, q⟩
    | next => exact False.elim hq
    | brk => exact False.elim hq
    | cont => exact False.elim hq
/-! ### x.clear() -/
def ClrR (K : PySem.W.Frag) (x : V) (H : Hp) (Q : VK) : Prop := (tyV K "list" x H ∧ rClear x [] H Q) ∨ (tyV K "dict" x H ∧ rDClear x [] H Q)
def tClr (K : PySem.W.Frag) (to : TE) : TE := fun σ H Q => to σ H fun x H1 => ClrR K x H1 Q
section
variable {X : Cx} {o : Expr} {to : TE} {apos cpos : Pos}
end
end KX

namespace KX
open PySem PySem.Spec PyProof.Rows L2




theorem sc_InvalidNamex_initx : FnScope ["self", "value"] ["self", "value"] (defScope s_InvalidNamex_initx) := ⟨rfl, rfl, rfl, by decide +kernel, rfl, by decide +kernel, by decide +kernel⟩
theorem sc_InvalidWindowx_initx : FnScope ["self", "value"] ["self", "value"] (defScope s_InvalidWindowx_initx) := ⟨rfl, rfl, rfl, by decide +kernel, rfl, by decide +kernel, by decide +kernel⟩
theorem sc_InvalidWindowsx_initx : FnScope ["self", "position"] ["self", "position"] (defScope s_InvalidWindowsx_initx) := ⟨rfl, rfl, rfl, by decide +kernel, rfl, by decide +kernel, by decide +kernel⟩
theorem sc_InvalidUsesx_initx : FnScope ["self", "module"] ["self", "module"] (defScope s_InvalidUsesx_initx) := ⟨rfl, rfl, rfl, by decide +kernel, rfl, by decide +kernel, by decide +kernel⟩
theorem sc_UnknownModulex_initx : FnScope ["self", "value"] ["self", "value"] (defScope s_UnknownModulex_initx) := ⟨rfl, rfl, rfl, by decide +kernel, rfl, by decide +kernel, by decide +kernel⟩
theorem sc_UnknownUsex_initx : FnScope ["self", "user", "used"] ["self", "user", "used"] (defScope s_UnknownUsex_initx) := ⟨rfl, rfl, rfl, by decide +kernel, rfl, by decide +kernel, by decide +kernel⟩
theorem sc_UnknownVersionx_initx : FnScope ["self", "module", "version"] ["self", "module", "version"] (defScope s_UnknownVersionx_initx) := ⟨rfl, rfl, rfl, by decide +kernel, rfl, by decide +kernel, by decide +kernel⟩
theorem sc_NotRisingx_initx : FnScope ["self", "user", "used"] ["self", "user", "used"] (defScope s_NotRisingx_initx) := ⟨rfl, rfl, rfl, by decide +kernel, rfl, by decide +kernel, by decide +kernel⟩
theorem sc_TooManyx_initx : FnScope ["self", "kind", "limit"] ["self", "kind", "limit"] (defScope s_TooManyx_initx) := ⟨rfl, rfl, rfl, by decide +kernel, rfl, by decide +kernel, by decide +kernel⟩
theorem sc_is_integer : FnScope ["value"] ["value"] (defScope s_is_integer) := ⟨rfl, rfl, rfl, by decide +kernel, rfl, by decide +kernel, by decide +kernel⟩
theorem sc_is_name : FnScope ["value", "letter"] ["value"] (defScope s_is_name) := ⟨rfl, rfl, rfl, by decide +kernel, rfl, by decide +kernel, by decide +kernel⟩
theorem sc_is_version : FnScope ["value"] ["value"] (defScope s_is_version) := ⟨rfl, rfl, rfl, by decide +kernel, rfl, by decide +kernel, by decide +kernel⟩
theorem sc_is_window : FnScope ["value", "low", "high"] ["value"] (defScope s_is_window) := ⟨rfl, rfl, rfl, by decide +kernel, rfl, by decide +kernel, by decide +kernel⟩
theorem sc_require_window : FnScope ["value"] ["value"] (defScope s_require_window) := ⟨rfl, rfl, rfl, by decide +kernel, rfl, by decide +kernel, by decide +kernel⟩
theorem sc_reaches : FnScope ["window", "version"] ["window", "version"] (defScope s_reaches) := ⟨rfl, rfl, rfl, by decide +kernel, rfl, by decide +kernel, by decide +kernel⟩
theorem sc_rises : FnScope ["first", "second"] ["first", "second"] (defScope s_rises) := ⟨rfl, rfl, rfl, by decide +kernel, rfl, by decide +kernel, by decide +kernel⟩
theorem sc_is_row_of_names : FnScope ["value", "module", "name"] ["value", "module"] (defScope s_is_row_of_names) := ⟨rfl, rfl, rfl, by decide +kernel, rfl, by decide +kernel, by decide +kernel⟩
theorem sc_check_uses : FnScope ["uses", "module", "names", "name"] ["uses"] (defScope s_check_uses) := ⟨rfl, rfl, rfl, by decide +kernel, rfl, by decide +kernel, by decide +kernel⟩
theorem sc_check_new_windows : FnScope ["windows", "count", "position", "window"] ["windows", "count"] (defScope s_check_new_windows) := ⟨rfl, rfl, rfl, by decide +kernel, rfl, by decide +kernel, by decide +kernel⟩
theorem sc_Catalogx_initx : FnScope ["self", "uses", "user", "names", "used", "module"] ["self", "uses"] (defScope s_Catalogx_initx) := ⟨rfl, rfl, rfl, by decide +kernel, rfl, by decide +kernel, by decide +kernel⟩
theorem sc_Catalog_modules : FnScope ["self"] ["self"] (defScope s_Catalog_modules) := ⟨rfl, rfl, rfl, by decide +kernel, rfl, by decide +kernel, by decide +kernel⟩
theorem sc_Catalog_uses : FnScope ["self", "module"] ["self", "module"] (defScope s_Catalog_uses) := ⟨rfl, rfl, rfl, by decide +kernel, rfl, by decide +kernel, by decide +kernel⟩
theorem sc_Catalog_versions : FnScope ["self", "module"] ["self", "module"] (defScope s_Catalog_versions) := ⟨rfl, rfl, rfl, by decide +kernel, rfl, by decide +kernel, by decide +kernel⟩
theorem sc_Catalog_publish : FnScope ["self", "module", "windows", "names", "name", "window", "column", "number"] ["self", "module", "windows"] (defScope s_Catalog_publish) := ⟨rfl, rfl, rfl, by decide +kernel, rfl, by decide +kernel, by decide +kernel⟩
theorem sc_Catalog_withdraw : FnScope ["self", "module", "version"] ["self", "module", "version"] (defScope s_Catalog_withdraw) := ⟨rfl, rfl, rfl, by decide +kernel, rfl, by decide +kernel, by decide +kernel⟩
theorem sc_Catalog_window : FnScope ["self", "user", "used", "version"] ["self", "user", "used", "version"] (defScope s_Catalog_window) := ⟨rfl, rfl, rfl, by decide +kernel, rfl, by decide +kernel, by decide +kernel⟩
theorem sc_Catalog_is_available : FnScope ["self", "module", "version"] ["self", "module", "version"] (defScope s_Catalog_is_available) := ⟨rfl, rfl, rfl, by decide +kernel, rfl, by decide +kernel, by decide +kernel⟩
theorem sc_Catalog_available : FnScope ["self", "module", "withdrawn", "version"] ["self", "module"] (defScope s_Catalog_available) := ⟨rfl, rfl, rfl, by decide +kernel, rfl, by decide +kernel, by decide +kernel⟩
theorem sc_Catalog_clone : FnScope ["self", "found", "key", "column", "module", "known"] ["self"] (defScope s_Catalog_clone) := ⟨rfl, rfl, rfl, by decide +kernel, rfl, by decide +kernel, by decide +kernel⟩
theorem sc_Catalogx_eqx : FnScope ["self", "other"] ["self", "other"] (defScope s_Catalogx_eqx) := ⟨rfl, rfl, rfl, by decide +kernel, rfl, by decide +kernel, by decide +kernel⟩
theorem sc_Catalogx_lenx : FnScope ["self"] ["self"] (defScope s_Catalogx_lenx) := ⟨rfl, rfl, rfl, by decide +kernel, rfl, by decide +kernel, by decide +kernel⟩
theorem sc_require_module : FnScope ["catalog", "value"] ["catalog", "value"] (defScope s_require_module) := ⟨rfl, rfl, rfl, by decide +kernel, rfl, by decide +kernel, by decide +kernel⟩
theorem sc_l_rng : FnScope ["_law_script", "_law_k", "_law_cell"] ["_law_script", "_law_k"] (defScope s_l_rng) := ⟨rfl, rfl, rfl, by decide +kernel, rfl, by decide +kernel, by decide +kernel⟩
theorem sc_l_draw : FnScope ["_law_rng_here", "_law_many", "_law_digit"] ["_law_rng_here", "_law_many"] (defScope s_l_draw) := ⟨rfl, rfl, rfl, by decide +kernel, rfl, by decide +kernel, by decide +kernel⟩
theorem sc_l_choice : FnScope ["_law_rng_here", "_law_options"] ["_law_rng_here", "_law_options"] (defScope s_l_choice) := ⟨rfl, rfl, rfl, by decide +kernel, rfl, by decide +kernel, by decide +kernel⟩
theorem sc_l_shuffled : FnScope ["_law_rng_here", "_law_values", "_law_pool", "_law_k"] ["_law_rng_here", "_law_values"] (defScope s_l_shuffled) := ⟨rfl, rfl, rfl, by decide +kernel, rfl, by decide +kernel, by decide +kernel⟩
theorem sc_l_name : FnScope ["_law_rng_here", "_law_used", "_law_letters", "_law_length", "_law_name_here", "_law_k", "_law_word"] ["_law_rng_here", "_law_used"] (defScope s_l_name) := ⟨rfl, rfl, rfl, by decide +kernel, rfl, by decide +kernel, by decide +kernel⟩
theorem sc_l_names : FnScope ["_law_rng_here", "_law_many", "_law_used", "_law_found", "_law_k"] ["_law_rng_here", "_law_many", "_law_used"] (defScope s_l_names) := ⟨rfl, rfl, rfl, by decide +kernel, rfl, by decide +kernel, by decide +kernel⟩
theorem sc_l_uses : FnScope ["_law_names_here", "_law_many", "_law_found", "_law_k", "_law_name_here", "_law_size", "_law_place"] ["_law_names_here", "_law_many"] (defScope s_l_uses) := ⟨rfl, rfl, rfl, by decide +kernel, rfl, by decide +kernel, by decide +kernel⟩
theorem sc_l_told : FnScope ["_law_call", "_law_told_here", "e", "_law_others"] ["_law_call"] (defScope s_l_told) := ⟨rfl, rfl, rfl, by decide +kernel, rfl, by decide +kernel, by decide +kernel⟩
theorem sc_l_filled : FnScope ["_law_rng_here", "_law_catalog", "_law_far", "_law_k", "_law_name_here", "_law_used", "_law_some", "_law_told_here"] ["_law_rng_here", "_law_catalog"] (defScope s_l_filled) := ⟨rfl, rfl, rfl, by decide +kernel, rfl, by decide +kernel, by decide +kernel⟩
theorem sc_l_right : FnScope ["_law_rng_here", "_law_name_here", "_law_kept", "_law_catalog", "_law_falling", "_law_good", "_law_more", "_law_names_here", "_law_used", "_law_one"] ["_law_rng_here"] (defScope s_l_right) := ⟨rfl, rfl, rfl, by decide +kernel, rfl, by decide +kernel, by decide +kernel⟩
theorem sc_law : FnScope ["_law_script", "_law_k"] ["_law_script"] (defScope s_law) := ⟨rfl, rfl, rfl, by decide +kernel, rfl, by decide +kernel, by decide +kernel⟩
/-- where the defs stand -/
structure Ad where
  f_InvalidNamex_initx : Addr
  d_InvalidNamex_initx : FuncData
  f_InvalidWindowx_initx : Addr
  d_InvalidWindowx_initx : FuncData
  f_InvalidWindowsx_initx : Addr
  d_InvalidWindowsx_initx : FuncData
  f_InvalidUsesx_initx : Addr
  d_InvalidUsesx_initx : FuncData
  f_UnknownModulex_initx : Addr
  d_UnknownModulex_initx : FuncData
  f_UnknownUsex_initx : Addr
  d_UnknownUsex_initx : FuncData
  f_UnknownVersionx_initx : Addr
  d_UnknownVersionx_initx : FuncData
  f_NotRisingx_initx : Addr
  d_NotRisingx_initx : FuncData
  f_TooManyx_initx : Addr
  d_TooManyx_initx : FuncData
  f_NoStatex_initx : Addr
  d_NoStatex_initx : FuncData
  f_is_integer : Addr
  d_is_integer : FuncData
  f_is_name : Addr
  d_is_name : FuncData
  f_is_version : Addr
  d_is_version : FuncData
  f_is_window : Addr
  d_is_window : FuncData
  f_require_window : Addr
  d_require_window : FuncData
  f_reaches : Addr
  d_reaches : FuncData
  f_rises : Addr
  d_rises : FuncData
  f_is_row_of_names : Addr
  d_is_row_of_names : FuncData
  f_check_uses : Addr
  d_check_uses : FuncData
  f_check_new_windows : Addr
  d_check_new_windows : FuncData
  f_Catalogx_initx : Addr
  d_Catalogx_initx : FuncData
  f_Catalog_modules : Addr
  d_Catalog_modules : FuncData
  f_Catalog_uses : Addr
  d_Catalog_uses : FuncData
  f_Catalog_versions : Addr
  d_Catalog_versions : FuncData
  f_Catalog_publish : Addr
  d_Catalog_publish : FuncData
  f_Catalog_withdraw : Addr
  d_Catalog_withdraw : FuncData
  f_Catalog_window : Addr
  d_Catalog_window : FuncData
  f_Catalog_is_available : Addr
  d_Catalog_is_available : FuncData
  f_Catalog_available : Addr
  d_Catalog_available : FuncData
  f_Catalog_clone : Addr
  d_Catalog_clone : FuncData
  f_Catalogx_eqx : Addr
  d_Catalogx_eqx : FuncData
  f_Catalogx_lenx : Addr
  d_Catalogx_lenx : FuncData
  f_require_module : Addr
  d_require_module : FuncData
  f_l_rng : Addr
  d_l_rng : FuncData
  f_l_draw : Addr
  d_l_draw : FuncData
  f_l_choice : Addr
  d_l_choice : FuncData
  f_l_shuffled : Addr
  d_l_shuffled : FuncData
  f_l_name : Addr
  d_l_name : FuncData
  f_l_names : Addr
  d_l_names : FuncData
  f_l_uses : Addr
  d_l_uses : FuncData
  f_l_told : Addr
  d_l_told : FuncData
  f_l_filled : Addr
  d_l_filled : FuncData
  f_l_right : Addr
  d_l_right : FuncData
  f_law : Addr
  d_law : FuncData
  cc_l_right : Addr
  p_l_right : Addr
  t_LETTERS : Tok
  t_MAX_LETTERS : Tok
  t_MOST_MODULES : Tok
  t_MOST_VERSIONS : Tok
  t_MOST_USES : Tok
  c_GroupError : Addr
  c_InvalidName : Addr
  c_InvalidWindow : Addr
  c_InvalidWindows : Addr
  c_InvalidUses : Addr
  c_Missing : Addr
  c_UnknownModule : Addr
  c_UnknownUse : Addr
  c_UnknownVersion : Addr
  c_Refused : Addr
  c_NotRising : Addr
  c_LimitReached : Addr
  c_TooMany : Addr
  c_NoState : Addr
  c_Catalog : Addr
/-- what the top has left -/
structure Txt (K : PySem.W.Frag) (mg : Str → Option Value) (A : Ad) : Prop where
  F_InvalidNamex_initx : Fun K "__init__" "InvalidName.__init__" s_InvalidNamex_initx A.f_InvalidNamex_initx A.d_InvalidNamex_initx
  b_InvalidNamex_initx : Binds K A.d_InvalidNamex_initx ["self", "value"] []
  F_InvalidWindowx_initx : Fun K "__init__" "InvalidWindow.__init__" s_InvalidWindowx_initx A.f_InvalidWindowx_initx A.d_InvalidWindowx_initx
  b_InvalidWindowx_initx : Binds K A.d_InvalidWindowx_initx ["self", "value"] []
  F_InvalidWindowsx_initx : Fun K "__init__" "InvalidWindows.__init__" s_InvalidWindowsx_initx A.f_InvalidWindowsx_initx A.d_InvalidWindowsx_initx
  b_InvalidWindowsx_initx : Binds K A.d_InvalidWindowsx_initx ["self", "position"] []
  F_InvalidUsesx_initx : Fun K "__init__" "InvalidUses.__init__" s_InvalidUsesx_initx A.f_InvalidUsesx_initx A.d_InvalidUsesx_initx
  b_InvalidUsesx_initx : Binds K A.d_InvalidUsesx_initx ["self", "module"] []
  F_UnknownModulex_initx : Fun K "__init__" "UnknownModule.__init__" s_UnknownModulex_initx A.f_UnknownModulex_initx A.d_UnknownModulex_initx
  b_UnknownModulex_initx : Binds K A.d_UnknownModulex_initx ["self", "value"] []
  F_UnknownUsex_initx : Fun K "__init__" "UnknownUse.__init__" s_UnknownUsex_initx A.f_UnknownUsex_initx A.d_UnknownUsex_initx
  b_UnknownUsex_initx : Binds K A.d_UnknownUsex_initx ["self", "user", "used"] []
  F_UnknownVersionx_initx : Fun K "__init__" "UnknownVersion.__init__" s_UnknownVersionx_initx A.f_UnknownVersionx_initx A.d_UnknownVersionx_initx
  b_UnknownVersionx_initx : Binds K A.d_UnknownVersionx_initx ["self", "module", "version"] []
  F_NotRisingx_initx : Fun K "__init__" "NotRising.__init__" s_NotRisingx_initx A.f_NotRisingx_initx A.d_NotRisingx_initx
  b_NotRisingx_initx : Binds K A.d_NotRisingx_initx ["self", "user", "used"] []
  F_TooManyx_initx : Fun K "__init__" "TooMany.__init__" s_TooManyx_initx A.f_TooManyx_initx A.d_TooManyx_initx
  b_TooManyx_initx : Binds K A.d_TooManyx_initx ["self", "kind", "limit"] []
  F_NoStatex_initx : Fun K "__init__" "NoState.__init__" s_NoStatex_initx A.f_NoStatex_initx A.d_NoStatex_initx
  b_NoStatex_initx : Binds K A.d_NoStatex_initx ["self", "chain"] []
  F_is_integer : Fun K "is_integer" "is_integer" s_is_integer A.f_is_integer A.d_is_integer
  g_is_integer : mg "is_integer" = some (.ref A.f_is_integer)
  b_is_integer : Binds K A.d_is_integer ["value"] []
  F_is_name : Fun K "is_name" "is_name" s_is_name A.f_is_name A.d_is_name
  g_is_name : mg "is_name" = some (.ref A.f_is_name)
  b_is_name : Binds K A.d_is_name ["value"] []
  F_is_version : Fun K "is_version" "is_version" s_is_version A.f_is_version A.d_is_version
  g_is_version : mg "is_version" = some (.ref A.f_is_version)
  b_is_version : Binds K A.d_is_version ["value"] []
  F_is_window : Fun K "is_window" "is_window" s_is_window A.f_is_window A.d_is_window
  g_is_window : mg "is_window" = some (.ref A.f_is_window)
  b_is_window : Binds K A.d_is_window ["value"] []
  F_require_window : Fun K "require_window" "require_window" s_require_window A.f_require_window A.d_require_window
  g_require_window : mg "require_window" = some (.ref A.f_require_window)
  b_require_window : Binds K A.d_require_window ["value"] []
  F_reaches : Fun K "reaches" "reaches" s_reaches A.f_reaches A.d_reaches
  g_reaches : mg "reaches" = some (.ref A.f_reaches)
  b_reaches : Binds K A.d_reaches ["window", "version"] []
  F_rises : Fun K "rises" "rises" s_rises A.f_rises A.d_rises
  g_rises : mg "rises" = some (.ref A.f_rises)
  b_rises : Binds K A.d_rises ["first", "second"] []
  F_is_row_of_names : Fun K "is_row_of_names" "is_row_of_names" s_is_row_of_names A.f_is_row_of_names A.d_is_row_of_names
  g_is_row_of_names : mg "is_row_of_names" = some (.ref A.f_is_row_of_names)
  b_is_row_of_names : Binds K A.d_is_row_of_names ["value", "module"] []
  F_check_uses : Fun K "check_uses" "check_uses" s_check_uses A.f_check_uses A.d_check_uses
  g_check_uses : mg "check_uses" = some (.ref A.f_check_uses)
  b_check_uses : Binds K A.d_check_uses ["uses"] []
  F_check_new_windows : Fun K "check_new_windows" "check_new_windows" s_check_new_windows A.f_check_new_windows A.d_check_new_windows
  g_check_new_windows : mg "check_new_windows" = some (.ref A.f_check_new_windows)
  b_check_new_windows : Binds K A.d_check_new_windows ["windows", "count"] []
  F_Catalogx_initx : Fun K "__init__" "Catalog.__init__" s_Catalogx_initx A.f_Catalogx_initx A.d_Catalogx_initx
  b_Catalogx_initx : Binds K A.d_Catalogx_initx ["self", "uses"] []
  F_Catalog_modules : Fun K "modules" "Catalog.modules" s_Catalog_modules A.f_Catalog_modules A.d_Catalog_modules
  b_Catalog_modules : Binds K A.d_Catalog_modules ["self"] []
  F_Catalog_uses : Fun K "uses" "Catalog.uses" s_Catalog_uses A.f_Catalog_uses A.d_Catalog_uses
  b_Catalog_uses : Binds K A.d_Catalog_uses ["self", "module"] []
  F_Catalog_versions : Fun K "versions" "Catalog.versions" s_Catalog_versions A.f_Catalog_versions A.d_Catalog_versions
  b_Catalog_versions : Binds K A.d_Catalog_versions ["self", "module"] []
  F_Catalog_publish : Fun K "publish" "Catalog.publish" s_Catalog_publish A.f_Catalog_publish A.d_Catalog_publish
  b_Catalog_publish : Binds K A.d_Catalog_publish ["self", "module", "windows"] []
  F_Catalog_withdraw : Fun K "withdraw" "Catalog.withdraw" s_Catalog_withdraw A.f_Catalog_withdraw A.d_Catalog_withdraw
  b_Catalog_withdraw : Binds K A.d_Catalog_withdraw ["self", "module", "version"] []
  F_Catalog_window : Fun K "window" "Catalog.window" s_Catalog_window A.f_Catalog_window A.d_Catalog_window
  b_Catalog_window : Binds K A.d_Catalog_window ["self", "user", "used", "version"] []
  F_Catalog_is_available : Fun K "is_available" "Catalog.is_available" s_Catalog_is_available A.f_Catalog_is_available A.d_Catalog_is_available
  b_Catalog_is_available : Binds K A.d_Catalog_is_available ["self", "module", "version"] []
  F_Catalog_available : Fun K "available" "Catalog.available" s_Catalog_available A.f_Catalog_available A.d_Catalog_available
  b_Catalog_available : Binds K A.d_Catalog_available ["self", "module"] []
  F_Catalog_clone : Fun K "clone" "Catalog.clone" s_Catalog_clone A.f_Catalog_clone A.d_Catalog_clone
  b_Catalog_clone : Binds K A.d_Catalog_clone ["self"] []
  F_Catalogx_eqx : Fun K "__eq__" "Catalog.__eq__" s_Catalogx_eqx A.f_Catalogx_eqx A.d_Catalogx_eqx
  b_Catalogx_eqx : Binds K A.d_Catalogx_eqx ["self", "other"] []
  F_Catalogx_lenx : Fun K "__len__" "Catalog.__len__" s_Catalogx_lenx A.f_Catalogx_lenx A.d_Catalogx_lenx
  b_Catalogx_lenx : Binds K A.d_Catalogx_lenx ["self"] []
  F_require_module : Fun K "require_module" "require_module" s_require_module A.f_require_module A.d_require_module
  g_require_module : mg "require_module" = some (.ref A.f_require_module)
  b_require_module : Binds K A.d_require_module ["catalog", "value"] []
  F_l_rng : Fun K "_law_rng" "_law_rng" s_l_rng A.f_l_rng A.d_l_rng
  g_l_rng : mg "_law_rng" = some (.ref A.f_l_rng)
  b_l_rng : Binds K A.d_l_rng ["_law_script", "_law_k"] []
  F_l_draw : Fun K "_law_draw" "_law_draw" s_l_draw A.f_l_draw A.d_l_draw
  g_l_draw : mg "_law_draw" = some (.ref A.f_l_draw)
  b_l_draw : Binds K A.d_l_draw ["_law_rng_here", "_law_many"] []
  F_l_choice : Fun K "_law_choice" "_law_choice" s_l_choice A.f_l_choice A.d_l_choice
  g_l_choice : mg "_law_choice" = some (.ref A.f_l_choice)
  b_l_choice : Binds K A.d_l_choice ["_law_rng_here", "_law_options"] []
  F_l_shuffled : Fun K "_law_shuffled" "_law_shuffled" s_l_shuffled A.f_l_shuffled A.d_l_shuffled
  g_l_shuffled : mg "_law_shuffled" = some (.ref A.f_l_shuffled)
  b_l_shuffled : Binds K A.d_l_shuffled ["_law_rng_here", "_law_values"] []
  F_l_name : Fun K "_law_name" "_law_name" s_l_name A.f_l_name A.d_l_name
  g_l_name : mg "_law_name" = some (.ref A.f_l_name)
  b_l_name : Binds K A.d_l_name ["_law_rng_here", "_law_used"] []
  F_l_names : Fun K "_law_names" "_law_names" s_l_names A.f_l_names A.d_l_names
  g_l_names : mg "_law_names" = some (.ref A.f_l_names)
  b_l_names : Binds K A.d_l_names ["_law_rng_here", "_law_many", "_law_used"] []
  F_l_uses : Fun K "_law_uses" "_law_uses" s_l_uses A.f_l_uses A.d_l_uses
  g_l_uses : mg "_law_uses" = some (.ref A.f_l_uses)
  b_l_uses : Binds K A.d_l_uses ["_law_names_here", "_law_many"] []
  F_l_told : Fun K "_law_told" "_law_told" s_l_told A.f_l_told A.d_l_told
  g_l_told : mg "_law_told" = some (.ref A.f_l_told)
  b_l_told : Binds K A.d_l_told ["_law_call"] []
  F_l_filled : Fun K "_law_filled" "_law_filled" s_l_filled A.f_l_filled A.d_l_filled
  g_l_filled : mg "_law_filled" = some (.ref A.f_l_filled)
  b_l_filled : Binds K A.d_l_filled ["_law_rng_here", "_law_catalog"] []
  F_l_right : Fun K "_law_right" "_law_right" s_l_right A.f_l_right A.d_l_right
  g_l_right : mg "_law_right" = some (.ref A.f_l_right)
  b_l_right : Binds K A.d_l_right ["_law_rng_here"] []
  F_law : Fun K "law" "law" s_law A.f_law A.d_law
  g_law : mg "law" = some (.ref A.f_law)
  b_law : Binds K A.d_law ["_law_script"] []
  C_l_right : FunC K "_law_right" "_law_right" s_l_right A.f_l_right A.d_l_right A.cc_l_right
  c_LETTERS : mg "LETTERS" = some (.str "abcdefghijklmnopqrstuvwxyz" A.t_LETTERS)
  c_MAX_LETTERS : mg "MAX_LETTERS" = some (.int (8) A.t_MAX_LETTERS)
  c_MOST_MODULES : mg "MOST_MODULES" = some (.int (12) A.t_MOST_MODULES)
  c_MOST_VERSIONS : mg "MOST_VERSIONS" = some (.int (16) A.t_MOST_VERSIONS)
  c_MOST_USES : mg "MOST_USES" = some (.int (40) A.t_MOST_USES)
  m_ArithmeticError : mg "ArithmeticError" = none
  m_abs : mg "abs" = none
  m_all : mg "all" = none
  m_bool : mg "bool" = none
  m_dict : mg "dict" = none
  m_divmod : mg "divmod" = none
  m_enumerate : mg "enumerate" = none
  m_int : mg "int" = none
  m_isinstance : mg "isinstance" = none
  m_len : mg "len" = none
  m_list : mg "list" = none
  m_max : mg "max" = none
  m_min : mg "min" = none
  m_range : mg "range" = none
  m_repr : mg "repr" = none
  m_str : mg "str" = none
  m_sum : mg "sum" = none
  m_tuple : mg "tuple" = none
  m_zip : mg "zip" = none
  gX_GroupError : mg "GroupError" = some (.ref A.c_GroupError)
  gX_InvalidName : mg "InvalidName" = some (.ref A.c_InvalidName)
  gX_InvalidWindow : mg "InvalidWindow" = some (.ref A.c_InvalidWindow)
  gX_InvalidWindows : mg "InvalidWindows" = some (.ref A.c_InvalidWindows)
  gX_InvalidUses : mg "InvalidUses" = some (.ref A.c_InvalidUses)
  gX_Missing : mg "Missing" = some (.ref A.c_Missing)
  gX_UnknownModule : mg "UnknownModule" = some (.ref A.c_UnknownModule)
  gX_UnknownUse : mg "UnknownUse" = some (.ref A.c_UnknownUse)
  gX_UnknownVersion : mg "UnknownVersion" = some (.ref A.c_UnknownVersion)
  gX_Refused : mg "Refused" = some (.ref A.c_Refused)
  gX_NotRising : mg "NotRising" = some (.ref A.c_NotRising)
  gX_LimitReached : mg "LimitReached" = some (.ref A.c_LimitReached)
  gX_TooMany : mg "TooMany" = some (.ref A.c_TooMany)
  gX_NoState : mg "NoState" = some (.ref A.c_NoState)
  gX_Catalog : mg "Catalog" = some (.ref A.c_Catalog)
  cl_Catalog : Cls K A.c_Catalog
  ic_Catalog : C8.InsC K A.c_Catalog
  neq_Catalog : PySem.W.findIn K (.ref A.c_Catalog) "__ne__" = some (some (.builtin "object.__ne__"))
  mk_Catalog : Mk K A.c_Catalog A.f_Catalogx_initx
  na_Catalog_use_table : NoAttr K A.c_Catalog "use_table"
  na_Catalog_window_table : NoAttr K A.c_Catalog "window_table"
  na_Catalog_count_table : NoAttr K A.c_Catalog "count_table"
  na_Catalog_withdrawn_table : NoAttr K A.c_Catalog "withdrawn_table"
  na_Catalog_record : NoAttr K A.c_Catalog "record"
  mt_Catalogx_initx : Meth K A.c_Catalog "__init__" A.f_Catalogx_initx
  mt_Catalog_modules : Meth K A.c_Catalog "modules" A.f_Catalog_modules
  mt_Catalog_uses : Meth K A.c_Catalog "uses" A.f_Catalog_uses
  mt_Catalog_versions : Meth K A.c_Catalog "versions" A.f_Catalog_versions
  mt_Catalog_publish : Meth K A.c_Catalog "publish" A.f_Catalog_publish
  mt_Catalog_withdraw : Meth K A.c_Catalog "withdraw" A.f_Catalog_withdraw
  mt_Catalog_window : Meth K A.c_Catalog "window" A.f_Catalog_window
  mt_Catalog_is_available : Meth K A.c_Catalog "is_available" A.f_Catalog_is_available
  mt_Catalog_available : Meth K A.c_Catalog "available" A.f_Catalog_available
  mt_Catalog_clone : Meth K A.c_Catalog "clone" A.f_Catalog_clone
  mt_Catalogx_eqx : Meth K A.c_Catalog "__eq__" A.f_Catalogx_eqx
  mt_Catalogx_lenx : Meth K A.c_Catalog "__len__" A.f_Catalogx_lenx
  cg : ClassGet K
  sys : SysD K
  EX_GroupError : ExT K "ValueError.__new__" "ValueError.__init__" (tailOf "ValueError") A.c_GroupError
  EX_InvalidName : ExT K "ValueError.__new__" "ValueError.__init__" (tailOf "ValueError") A.c_InvalidName
  EX_InvalidWindow : ExT K "ValueError.__new__" "ValueError.__init__" (tailOf "ValueError") A.c_InvalidWindow
  EX_InvalidWindows : ExT K "ValueError.__new__" "ValueError.__init__" (tailOf "ValueError") A.c_InvalidWindows
  EX_InvalidUses : ExT K "ValueError.__new__" "ValueError.__init__" (tailOf "ValueError") A.c_InvalidUses
  EX_Missing : ExT K "LookupError.__new__" "LookupError.__init__" (tailOf "LookupError") A.c_Missing
  EX_UnknownModule : ExT K "LookupError.__new__" "LookupError.__init__" (tailOf "LookupError") A.c_UnknownModule
  EX_UnknownUse : ExT K "LookupError.__new__" "LookupError.__init__" (tailOf "LookupError") A.c_UnknownUse
  EX_UnknownVersion : ExT K "LookupError.__new__" "LookupError.__init__" (tailOf "LookupError") A.c_UnknownVersion
  EX_Refused : ExT K "RuntimeError.__new__" "RuntimeError.__init__" (tailOf "RuntimeError") A.c_Refused
  EX_NotRising : ExT K "RuntimeError.__new__" "RuntimeError.__init__" (tailOf "RuntimeError") A.c_NotRising
  EX_LimitReached : ExT K "ArithmeticError.__new__" "ArithmeticError.__init__" (tailOf "ArithmeticError") A.c_LimitReached
  EX_TooMany : ExT K "ArithmeticError.__new__" "ArithmeticError.__init__" (tailOf "ArithmeticError") A.c_TooMany
  EX_NoState : ExT K "ArithmeticError.__new__" "ArithmeticError.__init__" (tailOf "ArithmeticError") A.c_NoState
  IB_GroupError : InitB K "ValueError.__init__" A.c_GroupError
  IB_LimitReached : InitB K "ArithmeticError.__init__" A.c_LimitReached
  IB_Missing : InitB K "LookupError.__init__" A.c_Missing
  IB_Refused : InitB K "RuntimeError.__init__" A.c_Refused
  ki_GroupError_GroupError : PySem.W.kitOne K (.ref A.c_GroupError) (.ref A.c_GroupError) = some true
  ki_GroupError_Missing : PySem.W.kitOne K (.ref A.c_GroupError) (.ref A.c_Missing) = some false
  ki_GroupError_Refused : PySem.W.kitOne K (.ref A.c_GroupError) (.ref A.c_Refused) = some false
  ki_GroupError_NoState : PySem.W.kitOne K (.ref A.c_GroupError) (.ref A.c_NoState) = some false
  ki_GroupError_ArithmeticError : PySem.W.kitOne K (.ref A.c_GroupError) (.type "ArithmeticError") = some false
  ki_GroupError_LimitReached : PySem.W.kitOne K (.ref A.c_GroupError) (.ref A.c_LimitReached) = some false
  su_GroupError_TooMany : PySem.W.subIn K (.ref A.c_GroupError) (.ref A.c_TooMany) = some false
  su_GroupError_NotRising : PySem.W.subIn K (.ref A.c_GroupError) (.ref A.c_NotRising) = some false
  su_GroupError_InvalidWindows : PySem.W.subIn K (.ref A.c_GroupError) (.ref A.c_InvalidWindows) = some false
  iC_InvalidName : PySem.W.findIn K (.ref A.c_InvalidName) "__init__" = some (some (.ref A.f_InvalidNamex_initx))
  tI_InvalidName : PySem.W.typeIn K (.ref A.f_InvalidNamex_initx) = some (.type "function")
  tk_InvalidName_value : PySem.W.takerIn K A.c_InvalidName "value" = some none
  nf_InvalidName_value : PySem.W.findIn K (.ref A.c_InvalidName) "value" = some none
  ki_InvalidName_GroupError : PySem.W.kitOne K (.ref A.c_InvalidName) (.ref A.c_GroupError) = some true
  ki_InvalidName_Missing : PySem.W.kitOne K (.ref A.c_InvalidName) (.ref A.c_Missing) = some false
  ki_InvalidName_Refused : PySem.W.kitOne K (.ref A.c_InvalidName) (.ref A.c_Refused) = some false
  ki_InvalidName_NoState : PySem.W.kitOne K (.ref A.c_InvalidName) (.ref A.c_NoState) = some false
  ki_InvalidName_ArithmeticError : PySem.W.kitOne K (.ref A.c_InvalidName) (.type "ArithmeticError") = some false
  ki_InvalidName_LimitReached : PySem.W.kitOne K (.ref A.c_InvalidName) (.ref A.c_LimitReached) = some false
  su_InvalidName_TooMany : PySem.W.subIn K (.ref A.c_InvalidName) (.ref A.c_TooMany) = some false
  su_InvalidName_NotRising : PySem.W.subIn K (.ref A.c_InvalidName) (.ref A.c_NotRising) = some false
  su_InvalidName_InvalidWindows : PySem.W.subIn K (.ref A.c_InvalidName) (.ref A.c_InvalidWindows) = some false
  iC_InvalidWindow : PySem.W.findIn K (.ref A.c_InvalidWindow) "__init__" = some (some (.ref A.f_InvalidWindowx_initx))
  tI_InvalidWindow : PySem.W.typeIn K (.ref A.f_InvalidWindowx_initx) = some (.type "function")
  tk_InvalidWindow_value : PySem.W.takerIn K A.c_InvalidWindow "value" = some none
  nf_InvalidWindow_value : PySem.W.findIn K (.ref A.c_InvalidWindow) "value" = some none
  ki_InvalidWindow_GroupError : PySem.W.kitOne K (.ref A.c_InvalidWindow) (.ref A.c_GroupError) = some true
  ki_InvalidWindow_Missing : PySem.W.kitOne K (.ref A.c_InvalidWindow) (.ref A.c_Missing) = some false
  ki_InvalidWindow_Refused : PySem.W.kitOne K (.ref A.c_InvalidWindow) (.ref A.c_Refused) = some false
  ki_InvalidWindow_NoState : PySem.W.kitOne K (.ref A.c_InvalidWindow) (.ref A.c_NoState) = some false
  ki_InvalidWindow_ArithmeticError : PySem.W.kitOne K (.ref A.c_InvalidWindow) (.type "ArithmeticError") = some false
  ki_InvalidWindow_LimitReached : PySem.W.kitOne K (.ref A.c_InvalidWindow) (.ref A.c_LimitReached) = some false
  su_InvalidWindow_TooMany : PySem.W.subIn K (.ref A.c_InvalidWindow) (.ref A.c_TooMany) = some false
  su_InvalidWindow_NotRising : PySem.W.subIn K (.ref A.c_InvalidWindow) (.ref A.c_NotRising) = some false
  su_InvalidWindow_InvalidWindows : PySem.W.subIn K (.ref A.c_InvalidWindow) (.ref A.c_InvalidWindows) = some false
  iC_InvalidWindows : PySem.W.findIn K (.ref A.c_InvalidWindows) "__init__" = some (some (.ref A.f_InvalidWindowsx_initx))
  tI_InvalidWindows : PySem.W.typeIn K (.ref A.f_InvalidWindowsx_initx) = some (.type "function")
  tk_InvalidWindows_position : PySem.W.takerIn K A.c_InvalidWindows "position" = some none
  nf_InvalidWindows_position : PySem.W.findIn K (.ref A.c_InvalidWindows) "position" = some none
  ki_InvalidWindows_GroupError : PySem.W.kitOne K (.ref A.c_InvalidWindows) (.ref A.c_GroupError) = some true
  ki_InvalidWindows_Missing : PySem.W.kitOne K (.ref A.c_InvalidWindows) (.ref A.c_Missing) = some false
  ki_InvalidWindows_Refused : PySem.W.kitOne K (.ref A.c_InvalidWindows) (.ref A.c_Refused) = some false
  ki_InvalidWindows_NoState : PySem.W.kitOne K (.ref A.c_InvalidWindows) (.ref A.c_NoState) = some false
  ki_InvalidWindows_ArithmeticError : PySem.W.kitOne K (.ref A.c_InvalidWindows) (.type "ArithmeticError") = some false
  ki_InvalidWindows_LimitReached : PySem.W.kitOne K (.ref A.c_InvalidWindows) (.ref A.c_LimitReached) = some false
  su_InvalidWindows_TooMany : PySem.W.subIn K (.ref A.c_InvalidWindows) (.ref A.c_TooMany) = some false
  su_InvalidWindows_NotRising : PySem.W.subIn K (.ref A.c_InvalidWindows) (.ref A.c_NotRising) = some false
  su_InvalidWindows_InvalidWindows : PySem.W.subIn K (.ref A.c_InvalidWindows) (.ref A.c_InvalidWindows) = some true
  iC_InvalidUses : PySem.W.findIn K (.ref A.c_InvalidUses) "__init__" = some (some (.ref A.f_InvalidUsesx_initx))
  tI_InvalidUses : PySem.W.typeIn K (.ref A.f_InvalidUsesx_initx) = some (.type "function")
  tk_InvalidUses_module : PySem.W.takerIn K A.c_InvalidUses "module" = some none
  nf_InvalidUses_module : PySem.W.findIn K (.ref A.c_InvalidUses) "module" = some none
  ki_InvalidUses_GroupError : PySem.W.kitOne K (.ref A.c_InvalidUses) (.ref A.c_GroupError) = some true
  ki_InvalidUses_Missing : PySem.W.kitOne K (.ref A.c_InvalidUses) (.ref A.c_Missing) = some false
  ki_InvalidUses_Refused : PySem.W.kitOne K (.ref A.c_InvalidUses) (.ref A.c_Refused) = some false
  ki_InvalidUses_NoState : PySem.W.kitOne K (.ref A.c_InvalidUses) (.ref A.c_NoState) = some false
  ki_InvalidUses_ArithmeticError : PySem.W.kitOne K (.ref A.c_InvalidUses) (.type "ArithmeticError") = some false
  ki_InvalidUses_LimitReached : PySem.W.kitOne K (.ref A.c_InvalidUses) (.ref A.c_LimitReached) = some false
  su_InvalidUses_TooMany : PySem.W.subIn K (.ref A.c_InvalidUses) (.ref A.c_TooMany) = some false
  su_InvalidUses_NotRising : PySem.W.subIn K (.ref A.c_InvalidUses) (.ref A.c_NotRising) = some false
  su_InvalidUses_InvalidWindows : PySem.W.subIn K (.ref A.c_InvalidUses) (.ref A.c_InvalidWindows) = some false
  ki_Missing_GroupError : PySem.W.kitOne K (.ref A.c_Missing) (.ref A.c_GroupError) = some false
  ki_Missing_Missing : PySem.W.kitOne K (.ref A.c_Missing) (.ref A.c_Missing) = some true
  ki_Missing_Refused : PySem.W.kitOne K (.ref A.c_Missing) (.ref A.c_Refused) = some false
  ki_Missing_NoState : PySem.W.kitOne K (.ref A.c_Missing) (.ref A.c_NoState) = some false
  ki_Missing_ArithmeticError : PySem.W.kitOne K (.ref A.c_Missing) (.type "ArithmeticError") = some false
  ki_Missing_LimitReached : PySem.W.kitOne K (.ref A.c_Missing) (.ref A.c_LimitReached) = some false
  su_Missing_TooMany : PySem.W.subIn K (.ref A.c_Missing) (.ref A.c_TooMany) = some false
  su_Missing_NotRising : PySem.W.subIn K (.ref A.c_Missing) (.ref A.c_NotRising) = some false
  su_Missing_InvalidWindows : PySem.W.subIn K (.ref A.c_Missing) (.ref A.c_InvalidWindows) = some false
  iC_UnknownModule : PySem.W.findIn K (.ref A.c_UnknownModule) "__init__" = some (some (.ref A.f_UnknownModulex_initx))
  tI_UnknownModule : PySem.W.typeIn K (.ref A.f_UnknownModulex_initx) = some (.type "function")
  tk_UnknownModule_value : PySem.W.takerIn K A.c_UnknownModule "value" = some none
  nf_UnknownModule_value : PySem.W.findIn K (.ref A.c_UnknownModule) "value" = some none
  ki_UnknownModule_GroupError : PySem.W.kitOne K (.ref A.c_UnknownModule) (.ref A.c_GroupError) = some false
  ki_UnknownModule_Missing : PySem.W.kitOne K (.ref A.c_UnknownModule) (.ref A.c_Missing) = some true
  ki_UnknownModule_Refused : PySem.W.kitOne K (.ref A.c_UnknownModule) (.ref A.c_Refused) = some false
  ki_UnknownModule_NoState : PySem.W.kitOne K (.ref A.c_UnknownModule) (.ref A.c_NoState) = some false
  ki_UnknownModule_ArithmeticError : PySem.W.kitOne K (.ref A.c_UnknownModule) (.type "ArithmeticError") = some false
  ki_UnknownModule_LimitReached : PySem.W.kitOne K (.ref A.c_UnknownModule) (.ref A.c_LimitReached) = some false
  su_UnknownModule_TooMany : PySem.W.subIn K (.ref A.c_UnknownModule) (.ref A.c_TooMany) = some false
  su_UnknownModule_NotRising : PySem.W.subIn K (.ref A.c_UnknownModule) (.ref A.c_NotRising) = some false
  su_UnknownModule_InvalidWindows : PySem.W.subIn K (.ref A.c_UnknownModule) (.ref A.c_InvalidWindows) = some false
  iC_UnknownUse : PySem.W.findIn K (.ref A.c_UnknownUse) "__init__" = some (some (.ref A.f_UnknownUsex_initx))
  tI_UnknownUse : PySem.W.typeIn K (.ref A.f_UnknownUsex_initx) = some (.type "function")
  tk_UnknownUse_user : PySem.W.takerIn K A.c_UnknownUse "user" = some none
  nf_UnknownUse_user : PySem.W.findIn K (.ref A.c_UnknownUse) "user" = some none
  tk_UnknownUse_used : PySem.W.takerIn K A.c_UnknownUse "used" = some none
  nf_UnknownUse_used : PySem.W.findIn K (.ref A.c_UnknownUse) "used" = some none
  ki_UnknownUse_GroupError : PySem.W.kitOne K (.ref A.c_UnknownUse) (.ref A.c_GroupError) = some false
  ki_UnknownUse_Missing : PySem.W.kitOne K (.ref A.c_UnknownUse) (.ref A.c_Missing) = some true
  ki_UnknownUse_Refused : PySem.W.kitOne K (.ref A.c_UnknownUse) (.ref A.c_Refused) = some false
  ki_UnknownUse_NoState : PySem.W.kitOne K (.ref A.c_UnknownUse) (.ref A.c_NoState) = some false
  ki_UnknownUse_ArithmeticError : PySem.W.kitOne K (.ref A.c_UnknownUse) (.type "ArithmeticError") = some false
  ki_UnknownUse_LimitReached : PySem.W.kitOne K (.ref A.c_UnknownUse) (.ref A.c_LimitReached) = some false
  su_UnknownUse_TooMany : PySem.W.subIn K (.ref A.c_UnknownUse) (.ref A.c_TooMany) = some false
  su_UnknownUse_NotRising : PySem.W.subIn K (.ref A.c_UnknownUse) (.ref A.c_NotRising) = some false
  su_UnknownUse_InvalidWindows : PySem.W.subIn K (.ref A.c_UnknownUse) (.ref A.c_InvalidWindows) = some false
  iC_UnknownVersion : PySem.W.findIn K (.ref A.c_UnknownVersion) "__init__" = some (some (.ref A.f_UnknownVersionx_initx))
  tI_UnknownVersion : PySem.W.typeIn K (.ref A.f_UnknownVersionx_initx) = some (.type "function")
  tk_UnknownVersion_module : PySem.W.takerIn K A.c_UnknownVersion "module" = some none
  nf_UnknownVersion_module : PySem.W.findIn K (.ref A.c_UnknownVersion) "module" = some none
  tk_UnknownVersion_version : PySem.W.takerIn K A.c_UnknownVersion "version" = some none
  nf_UnknownVersion_version : PySem.W.findIn K (.ref A.c_UnknownVersion) "version" = some none
  ki_UnknownVersion_GroupError : PySem.W.kitOne K (.ref A.c_UnknownVersion) (.ref A.c_GroupError) = some false
  ki_UnknownVersion_Missing : PySem.W.kitOne K (.ref A.c_UnknownVersion) (.ref A.c_Missing) = some true
  ki_UnknownVersion_Refused : PySem.W.kitOne K (.ref A.c_UnknownVersion) (.ref A.c_Refused) = some false
  ki_UnknownVersion_NoState : PySem.W.kitOne K (.ref A.c_UnknownVersion) (.ref A.c_NoState) = some false
  ki_UnknownVersion_ArithmeticError : PySem.W.kitOne K (.ref A.c_UnknownVersion) (.type "ArithmeticError") = some false
  ki_UnknownVersion_LimitReached : PySem.W.kitOne K (.ref A.c_UnknownVersion) (.ref A.c_LimitReached) = some false
  su_UnknownVersion_TooMany : PySem.W.subIn K (.ref A.c_UnknownVersion) (.ref A.c_TooMany) = some false
  su_UnknownVersion_NotRising : PySem.W.subIn K (.ref A.c_UnknownVersion) (.ref A.c_NotRising) = some false
  su_UnknownVersion_InvalidWindows : PySem.W.subIn K (.ref A.c_UnknownVersion) (.ref A.c_InvalidWindows) = some false
  ki_Refused_GroupError : PySem.W.kitOne K (.ref A.c_Refused) (.ref A.c_GroupError) = some false
  ki_Refused_Missing : PySem.W.kitOne K (.ref A.c_Refused) (.ref A.c_Missing) = some false
  ki_Refused_Refused : PySem.W.kitOne K (.ref A.c_Refused) (.ref A.c_Refused) = some true
  ki_Refused_NoState : PySem.W.kitOne K (.ref A.c_Refused) (.ref A.c_NoState) = some false
  ki_Refused_ArithmeticError : PySem.W.kitOne K (.ref A.c_Refused) (.type "ArithmeticError") = some false
  ki_Refused_LimitReached : PySem.W.kitOne K (.ref A.c_Refused) (.ref A.c_LimitReached) = some false
  su_Refused_TooMany : PySem.W.subIn K (.ref A.c_Refused) (.ref A.c_TooMany) = some false
  su_Refused_NotRising : PySem.W.subIn K (.ref A.c_Refused) (.ref A.c_NotRising) = some false
  su_Refused_InvalidWindows : PySem.W.subIn K (.ref A.c_Refused) (.ref A.c_InvalidWindows) = some false
  iC_NotRising : PySem.W.findIn K (.ref A.c_NotRising) "__init__" = some (some (.ref A.f_NotRisingx_initx))
  tI_NotRising : PySem.W.typeIn K (.ref A.f_NotRisingx_initx) = some (.type "function")
  tk_NotRising_user : PySem.W.takerIn K A.c_NotRising "user" = some none
  nf_NotRising_user : PySem.W.findIn K (.ref A.c_NotRising) "user" = some none
  tk_NotRising_used : PySem.W.takerIn K A.c_NotRising "used" = some none
  nf_NotRising_used : PySem.W.findIn K (.ref A.c_NotRising) "used" = some none
  ki_NotRising_GroupError : PySem.W.kitOne K (.ref A.c_NotRising) (.ref A.c_GroupError) = some false
  ki_NotRising_Missing : PySem.W.kitOne K (.ref A.c_NotRising) (.ref A.c_Missing) = some false
  ki_NotRising_Refused : PySem.W.kitOne K (.ref A.c_NotRising) (.ref A.c_Refused) = some true
  ki_NotRising_NoState : PySem.W.kitOne K (.ref A.c_NotRising) (.ref A.c_NoState) = some false
  ki_NotRising_ArithmeticError : PySem.W.kitOne K (.ref A.c_NotRising) (.type "ArithmeticError") = some false
  ki_NotRising_LimitReached : PySem.W.kitOne K (.ref A.c_NotRising) (.ref A.c_LimitReached) = some false
  su_NotRising_TooMany : PySem.W.subIn K (.ref A.c_NotRising) (.ref A.c_TooMany) = some false
  su_NotRising_NotRising : PySem.W.subIn K (.ref A.c_NotRising) (.ref A.c_NotRising) = some true
  su_NotRising_InvalidWindows : PySem.W.subIn K (.ref A.c_NotRising) (.ref A.c_InvalidWindows) = some false
  ki_LimitReached_GroupError : PySem.W.kitOne K (.ref A.c_LimitReached) (.ref A.c_GroupError) = some false
  ki_LimitReached_Missing : PySem.W.kitOne K (.ref A.c_LimitReached) (.ref A.c_Missing) = some false
  ki_LimitReached_Refused : PySem.W.kitOne K (.ref A.c_LimitReached) (.ref A.c_Refused) = some false
  ki_LimitReached_NoState : PySem.W.kitOne K (.ref A.c_LimitReached) (.ref A.c_NoState) = some false
  ki_LimitReached_ArithmeticError : PySem.W.kitOne K (.ref A.c_LimitReached) (.type "ArithmeticError") = some true
  ki_LimitReached_LimitReached : PySem.W.kitOne K (.ref A.c_LimitReached) (.ref A.c_LimitReached) = some true
  su_LimitReached_TooMany : PySem.W.subIn K (.ref A.c_LimitReached) (.ref A.c_TooMany) = some false
  su_LimitReached_NotRising : PySem.W.subIn K (.ref A.c_LimitReached) (.ref A.c_NotRising) = some false
  su_LimitReached_InvalidWindows : PySem.W.subIn K (.ref A.c_LimitReached) (.ref A.c_InvalidWindows) = some false
  iC_TooMany : PySem.W.findIn K (.ref A.c_TooMany) "__init__" = some (some (.ref A.f_TooManyx_initx))
  tI_TooMany : PySem.W.typeIn K (.ref A.f_TooManyx_initx) = some (.type "function")
  tk_TooMany_kind : PySem.W.takerIn K A.c_TooMany "kind" = some none
  nf_TooMany_kind : PySem.W.findIn K (.ref A.c_TooMany) "kind" = some none
  tk_TooMany_limit : PySem.W.takerIn K A.c_TooMany "limit" = some none
  nf_TooMany_limit : PySem.W.findIn K (.ref A.c_TooMany) "limit" = some none
  ki_TooMany_GroupError : PySem.W.kitOne K (.ref A.c_TooMany) (.ref A.c_GroupError) = some false
  ki_TooMany_Missing : PySem.W.kitOne K (.ref A.c_TooMany) (.ref A.c_Missing) = some false
  ki_TooMany_Refused : PySem.W.kitOne K (.ref A.c_TooMany) (.ref A.c_Refused) = some false
  ki_TooMany_NoState : PySem.W.kitOne K (.ref A.c_TooMany) (.ref A.c_NoState) = some false
  ki_TooMany_ArithmeticError : PySem.W.kitOne K (.ref A.c_TooMany) (.type "ArithmeticError") = some true
  ki_TooMany_LimitReached : PySem.W.kitOne K (.ref A.c_TooMany) (.ref A.c_LimitReached) = some true
  su_TooMany_TooMany : PySem.W.subIn K (.ref A.c_TooMany) (.ref A.c_TooMany) = some true
  su_TooMany_NotRising : PySem.W.subIn K (.ref A.c_TooMany) (.ref A.c_NotRising) = some false
  su_TooMany_InvalidWindows : PySem.W.subIn K (.ref A.c_TooMany) (.ref A.c_InvalidWindows) = some false
  iC_NoState : PySem.W.findIn K (.ref A.c_NoState) "__init__" = some (some (.ref A.f_NoStatex_initx))
  tI_NoState : PySem.W.typeIn K (.ref A.f_NoStatex_initx) = some (.type "function")
  tk_NoState_chain : PySem.W.takerIn K A.c_NoState "chain" = some none
  nf_NoState_chain : PySem.W.findIn K (.ref A.c_NoState) "chain" = some none
  ki_NoState_GroupError : PySem.W.kitOne K (.ref A.c_NoState) (.ref A.c_GroupError) = some false
  ki_NoState_Missing : PySem.W.kitOne K (.ref A.c_NoState) (.ref A.c_Missing) = some false
  ki_NoState_Refused : PySem.W.kitOne K (.ref A.c_NoState) (.ref A.c_Refused) = some false
  ki_NoState_NoState : PySem.W.kitOne K (.ref A.c_NoState) (.ref A.c_NoState) = some true
  ki_NoState_ArithmeticError : PySem.W.kitOne K (.ref A.c_NoState) (.type "ArithmeticError") = some true
  ki_NoState_LimitReached : PySem.W.kitOne K (.ref A.c_NoState) (.ref A.c_LimitReached) = some true
  su_NoState_TooMany : PySem.W.subIn K (.ref A.c_NoState) (.ref A.c_TooMany) = some false
  su_NoState_NotRising : PySem.W.subIn K (.ref A.c_NoState) (.ref A.c_NotRising) = some false
  su_NoState_InvalidWindows : PySem.W.subIn K (.ref A.c_NoState) (.ref A.c_InvalidWindows) = some false
/-- the tables of the defs that make lambdas -/
abbrev TT (A : Ad) : List (Addr × Str) := [(A.p_l_right, (("_law_right" : Str) ++ ".<locals>.") ++ "<lambda>")]
structure TBs (base : Heap) (mg : Str → Option Value) (A : Ad) : Prop where
  p_l_right : LamX.TabB base mg A.cc_l_right A.p_l_right
theorem one_l_right {K : PySem.W.Frag} {mg : Str → Option Value} {A : Ad} (T : Txt K mg A) : ∀ p ∈ TT A, p.1 = A.p_l_right → p.2 = (("_law_right" : Str) ++ ".<locals>.") ++ "<lambda>" := by
  intro p hp e
  simp only [TT, List.mem_cons, List.not_mem_nil, or_false] at hp
  rcases hp with rfl
  · rfl
theorem i_tt {c : Bool} {A B : Prop} (h : c = true) (x : A) : if c = true then A else B := by rw [if_pos h]; exact x
theorem i_ff {c : Bool} {A B : Prop} (h : c = false) (x : B) : if c = true then A else B := by rw [h, if_neg Bool.false_ne_true]; exact x
theorem atN_lt {xs : List Nat} {d : Int} (h0 : 0 ≤ d) (h1 : d < xs.length) : ∃ v, v ∈ xs ∧ atI xs d = some v := by
  have hd : d.toNat < xs.length := by omega
  refine ⟨xs[d.toNat], List.getElem_mem hd, ?_⟩
  unfold atI ixN
  rw [if_pos h0, if_pos h1]
  simp [hd]
theorem sum_le_of {b : Nat} : ∀ zs : List Str, (∀ z ∈ zs, z.length ≤ b) → (zs.map (·.length)).sum ≤ zs.length * b
  | [], _ => by simp
  | z :: zs, h => by
    have h1 := h z (by simp)
    have ih := sum_le_of zs fun x hx => h x (List.mem_cons_of_mem _ hx)
    simp only [List.map_cons, List.sum_cons, List.length_cons, Nat.add_mul, Nat.one_mul]
    omega

local macro_rules
  | `(tactic| walk_at "st") => `(tactic| first
    | with_reducible refine ⟨_, _, rfl, ?_⟩
    | with_reducible refine ⟨_, rfl, ?_⟩
    | with_reducible refine And.intro rfl ?_
    | ((with_reducible refine And.intro ?h ?_); (case h => walk_at "side"))
    | fail)
local macro_rules
  | `(tactic| walk_at "st") => `(tactic| first
    | with_reducible refine i_lc ?_
    | with_reducible refine i_yes ?_
    | with_reducible refine i_iteT ?_
    | with_reducible refine i_iteF ?_
    | ((with_reducible refine i_divmod ?h ?_); (case h => walk_at "side"))
    | ((with_reducible refine' i_isi ?h ?e ?_); (case h => walk_at "da"); (case e => decide))
    | ((with_reducible refine i_lenS ?h ?_); (case h => walk_at "side"))
    | ((with_reducible refine' i_lenL ?h ?_); (case h => walk_at "sq"))
    | ((with_reducible refine' i_lenT ?h ?_); (case h => walk_at "sq"))
    | ((with_reducible refine' i_repr ?h ?n ?e ?_); (case h => walk_at "da"); (case n => walk_at "nod"); (case e => walk_at "shw"))
    | ((with_reducible refine' i_rCat ?h ?e ?z ?_); (case h => walk_at "hg"); (case e => walk_at "hg"); (case z => walk_at "side"))
    | ((with_reducible refine i_rCatS ?h ?_); (case h => walk_at "side"))
    | with_reducible refine i_exstr ?_
    | ((with_reducible refine' i_join ?h ?z ?_); (case h => walk_at "sq"); (case z => walk_at "side"))
    | with_reducible refine i_abs ?_
    | with_reducible refine i_max ?_
    | with_reducible refine i_min ?_
    | ((with_reducible refine' i_rAll ?h ?_); (case h => walk_at "sq"))
    | ((with_reducible refine' i_lcEl ?h ?e ?_); (case h => walk_at "hg"); (case e => walk_at "side"))
    | with_reducible refine ⟨_, _, rfl, rfl, ?_⟩
    | fail)
local macro_rules
  | `(tactic| walk_at "st") => `(tactic| first
    | ((with_reducible refine' i_exzm ?h ?k ?_); (case h => walk_at "sq"); (case k => walk_at "sq"))
    | with_reducible refine i_cc ?_
    | with_reducible refine i_tbD ?_
    | with_reducible refine i_bm0 ?_
    | ((with_reducible refine' i_rReverse ?h ?_); (case h => walk_at "hg"))
    | ((with_reducible refine' i_rClear ?h ?_); (case h => walk_at "hg"))
    | ((with_reducible refine' i_rDClear ?h ?_); (case h => walk_at "hg"))
    | ((with_reducible refine' i_tyD ?h ?_); (case h => walk_at "hg"))
    | ((with_reducible refine' i_dictD ?h ?_); (case h => walk_at "rd"))
    | ((with_reducible refine' i_listDk ?h ?_); (case h => walk_at "rd"))
    | ((with_reducible refine' i_listU ?h ?_); (case h => walk_at "sq"))
    | ((with_reducible refine' i_lenDk ?h ?_); (case h => walk_at "rd"))
    | ((with_reducible refine' i_exqT ?h ?_); (case h => walk_at "sq"))
    | ((with_reducible refine' i_exqL ?h ?_); (case h => walk_at "sq"))
    | ((with_reducible refine' i_tyL ?h ?_); (case h => walk_at "sq"))
    | with_reducible refine i_isBl ?_
    | ((with_reducible refine i_callW ?_))
    | ((with_reducible refine i_exrng ?h1 ?h2 ?_); (case h1 => walk_at "side"); (case h2 => walk_at "side"))
    | ((with_reducible refine' i_exl ?h ?_); (case h => walk_at "sq"))
    | with_reducible refine i_for ?_
    | fail)
local macro_rules
  | `(tactic| walk_at "st") => `(tactic| first
    | ((with_reducible refine' i_tupL ?h ?_); (case h => walk_at "sq"))
    | ((with_reducible refine' i_neNil ?h ?k ?_); (case h => walk_at "sq"); (case k => walk_at "sq"))
    | ((with_reducible refine' i_eqNil ?h ?k ?_); (case h => walk_at "sq"); (case k => walk_at "sq"))
    | ((with_reducible refine' i_reprE ?h ?e ?_); (case h => walk_at "da"); (case e => walk_at "shw"))
    | with_reducible refine i_fldC ?_
    | ((with_reducible refine' i_fld ?h ?l ?_); (case h => walk_at "hg"); (case l => walk_at "fld"))
    | with_reducible refine i_sFldC ?_
    | ((with_reducible refine' i_putF ?h ?l ?_); (case h => walk_at "hg"); (case l => walk_at "side"))
    | with_reducible refine i_methC ?_
    | with_reducible refine i_methX ?_
    | ((with_reducible refine' i_meth ?h ?l ?_); (case h => walk_at "hg"); (case l => exact fld_no rfl))
    | with_reducible refine i_makeC ?_
    | with_reducible refine i_dg0 ?_
    | with_reducible refine i_sDp ?_
    | with_reducible refine i_iItems ?_
    | with_reducible refine i_iVals ?_
    | with_reducible refine i_iKeys ?_
    | ((with_reducible refine' i_exfrz ?h ?_); (case h => walk_at "hg"))
    | ((with_reducible refine' i_exkeys ?h ?_); (case h => walk_at "hg"))
    | with_reducible refine i_iZipM ?_
    | fail)
local macro_rules
  | `(tactic| walk_at "st") => `(tactic| first
    | with_reducible refine i_rng1 ?_
    | with_reducible refine i_iList ?_
    | with_reducible refine i_iStr ?_
    | with_reducible refine i_iEnum ?_
    | with_reducible refine i_iZip ?_
    | with_reducible refine i_ez ?_
    | ((with_reducible refine' i_exen ?h ?_); (case h => walk_at "sq"))
    | ((with_reducible refine' i_exz ?h ?k ?_); (case h => walk_at "sq"); (case k => walk_at "sq"))
    | ((with_reducible refine' i_listN ?h ?_); (case h => walk_at "sq"))
    | with_reducible refine i_intB ?_
    | ((with_reducible refine' i_listTN ?h ?_); (case h => walk_at "sq"))
    | with_reducible refine i_revT ?_
    | ((with_reducible refine' i_exrevT ?h ?_); (case h => walk_at "sq"))
    | ((with_reducible refine' i_catA ?h ?k ?a ?b ?z ?_); (case h => walk_at "sq"); (case k => walk_at "sq"); (case a => simp); (case b => simp); (case z => walk_at "side"))
    | ((with_reducible refine' i_slTA ?h ?k ?_); (case h => walk_at "sq"); (case k => simp only [List.length_cons, List.length_nil]; decide))
    | ((with_reducible refine' i_countF ?h ?k ?a ?_); (case h => walk_at "sq"); (case k => rfl); (case a => rfl))
    | with_reducible refine i_iTup ?_
    | ((with_reducible refine' i_exlT ?h ?_); (case h => walk_at "sq"))
    | ((with_reducible refine' i_rCatN ?h ?e ?z ?_); (case h => walk_at "hg"); (case e => walk_at "hg"); (case z => walk_at "side"))
    | with_reducible refine i_tryC ?_
    | fail)
local macro_rules
  | `(tactic| walk_at "st") => `(tactic| first
    | with_reducible refine i_mkY0 ?_
    | with_reducible refine i_xv0 ?_
    | with_reducible refine i_mk00 ?_
    | ((with_reducible refine' i_mkX ?h ?f ?l ?_); (case h => rfl); (case f => decide); (case l => rfl); intro _ _)
    | ((with_reducible refine' i_xvQ ?T ?n ?a ?d ?l ?_); (case a => walk_at "hg"); (case d => walk_at "hg"); (case T => assumption); (case n => assumption); (case l => rfl))
    | ((with_reducible refine' i_isVr ?T ?G ?h ?k ?_); (case h => walk_at "xi"); (case T => assumption); (case G => assumption); (case k => assumption))
    | ((with_reducible refine' i_isVt ?T ?G ?h ?k ?_); (case h => walk_at "xi"); (case T => assumption); (case G => assumption); (case k => assumption))
    | ((with_reducible refine' i_gLst ?h ?e ?_); (case h => walk_at "sq"); (case e => rfl))
    | ((with_reducible refine' i_rCatN ?h ?e ?z ?_); (case h => walk_at "hg"); (case e => walk_at "hg"); (case z => walk_at "side"))
    | ((with_reducible refine' i_rRepN ?h ?e ?z ?_); (case h => walk_at "hg"); (case e => decide); (case z => walk_at "side"))
    | with_reducible refine i_cb ?_
    | with_reducible refine i_bm ?_
    | with_reducible refine i_m1 ?_
    | with_reducible refine i_m0 ?_
    | ((with_reducible refine' i_rAppend ?h ?e ?_); (case h => walk_at "hg"); (case e => walk_at "side"))
    | ((with_reducible refine i_rSlS ?h ?_); (case h => walk_at "side"))
    | ((with_reducible refine' i_rSlL ?h ?_); (case h => walk_at "sq"))
    | with_reducible refine i_sl ?_
    | with_reducible refine i_noPart ?_
    | with_reducible refine i_part ?_
    | fail)
local macro_rules
  | `(tactic| walk_at "st") => `(tactic| first
    | with_reducible refine i_retN ?_
    | with_reducible refine i_par ?_
    | with_reducible refine i_ex2 ?_
    | ((with_reducible refine' i_aug ?h ?_); (case h => rfl))
    | with_reducible refine i_gNil ?_
    | with_reducible refine i_gCons ?_
    | ((with_reducible refine' i_gTup ?h ?e ?_); (case h => walk_at "sq"); (case e => rfl))
    | with_reducible refine i_gSub ?_
    | ((with_reducible refine' i_rSetL ?h ?e ?_); (case h => walk_at "hg"); (case e => first | assumption | rfl))
    | with_reducible refine i_tup ?_
    | with_reducible refine i_lst ?_
    | with_reducible refine i_lstN ?_
    | with_reducible refine i_newDK ?_
    | with_reducible refine i_disp ?_
    | with_reducible refine i_pairs0 ?_
    | with_reducible refine i_pairs1 ?_
    | with_reducible refine i_call ?_
    | with_reducible refine i_mkV0 ?_
    | with_reducible refine i_mkW0 ?_
    | with_reducible refine i_mkX0 ?_
    | fail)
local macro_rules
  | `(tactic| walk_at "st") => `(tactic| first
    | with_reducible refine i_ifS ?_
    | ((with_reducible refine' i_rIxL ?h ?e ?_); (case h => walk_at "sq"); (case e => first | assumption | rfl))
    | ((with_reducible refine' i_rIxT ?h ?e ?_); (case h => walk_at "sq"); (case e => first | assumption | rfl))
    | ((with_reducible refine' i_rIxS ?h ?e ?_); (case h => walk_at "side"); (case e => first | assumption | rfl))
    | with_reducible refine i_un ?_
    | with_reducible refine i_rU ?_
    | ((with_reducible refine i_rEqSame ?h ?_); (case h => rfl))
    | ((with_reducible refine i_rNeSame ?h ?_); (case h => rfl))
    | ((with_reducible refine i_rEq ?h ?_); (case h => rfl))
    | ((with_reducible refine i_rNe ?h ?_); (case h => rfl))
    | with_reducible refine i_tB ?_
    | with_reducible refine i_and ?_
    | with_reducible refine i_or ?_
    | with_reducible refine i_not ?_
    | with_reducible refine i_andV ?_
    | with_reducible refine i_orV ?_
    | with_reducible refine i_notV ?_
    | with_reducible refine i_if ?_
    | with_reducible refine i_chain ?_
    | with_reducible refine i_drop ?_
    | fail)
local macro_rules
  | `(tactic| walk_at "st") => `(tactic| first
    | ((with_reducible refine' i_exrevL ?h ?_); (case h => walk_at "sq"))
    | with_reducible refine i_par3 ?_
    | with_reducible refine i_ex3 ?_
    | with_reducible refine i_stB ?_
    | with_reducible refine i_mk0 ?_
    | with_reducible refine i_asg ?_
    | with_reducible refine i_c ?_
    | ((with_reducible refine' i_var ?h ?_); (case h => rfl))
    | with_reducible refine i_op ?_
    | with_reducible refine i_cons ?_
    | with_reducible refine i_nil ?_
    | ((with_reducible refine' i_gName ?h ?_); (case h => rfl))
    | with_reducible refine i_rI0 ?_
    | ((with_reducible refine i_rI ?h ?_); (case h => walk_at "side"))
    | with_reducible refine i_test ?_
    | with_reducible refine i_exbl ?_
    | with_reducible refine i_exint ?_
    | with_reducible refine i_exs ?_
    | with_reducible refine i_ret ?_
    | with_reducible refine i_next ?_
    | fail)
local macro_rules
  | `(tactic| walk_at "kp") => `(tactic| first
    | with_reducible exact Kp.refl
    | with_reducible exact Kp.thenS (by assumption) (by walk_at "kp")
    | with_reducible exact Kp.thenO (by assumption) (by walk_at "ne") (by walk_at "kp")
    | fail)
  | `(tactic| walk_at "hq") => `(tactic| first
    | assumption
    | with_reducible exact Kp.get (by assumption) (by walk_at "kp")
    | fail)
  | `(tactic| walk_at "hg") => `(tactic| first
    | walk_at "hq"
    | exact upd_same
    | with_reducible exact (upd_ne (by walk_at "ne")).trans (by walk_at "hg")
    | with_reducible exact Same.get (by assumption) (by walk_at "hg")
    | with_reducible exact Off.get (by assumption) (by walk_at "ne") (by walk_at "hg")
    | fail)
  | `(tactic| walk_at "ne") => `(tactic| first
    | assumption
    | (apply Ne.symm; assumption)
    | exact Rok.ne' (by assumption) (by walk_at "rok")
    | exact (Rok.ne' (by assumption) (by walk_at "rok")).symm
    | exact ne_some (by assumption) (by walk_at "hg")
    | exact (ne_some (by assumption) (by walk_at "hg")).symm
    | fail)
  | `(tactic| walk_at "rok") => `(tactic| first
    | assumption
    | with_reducible exact Rok.kp (by assumption) (by walk_at "kp")
    | with_reducible exact Rok.same (by assumption) (by walk_at "rok")
    | fail)
  | `(tactic| walk_at "sq") => `(tactic| first
    | assumption
    | exact Same.seq (by assumption) (by assumption)
    | (with_reducible show SqL _ _ _ _; with_reducible exact SqL.of (by walk_at "hg"))
    | (with_reducible show SqT _ _ _ _; with_reducible exact SqT.of (by walk_at "hg"))
    | fail)
  | `(tactic| walk_at "dac") => `(tactic| first
    | assumption
    | exact DaF.same (by assumption) (by walk_at "dac")
    | fail)
  | `(tactic| walk_at "da") => `(tactic| first
    | exact (DaF.non : DaS _ _ _ _)
    | exact (DaF.bl _ : DaS _ _ _ _)
    | exact (DaF.int _ : DaS _ _ _ _)
    | exact (DaF.str _ : DaS _ _ _ _)
    | exact DaF.non
    | exact DaF.bl _
    | exact DaF.int _
    | exact DaF.str _
    | walk_at "dac"
    | with_reducible exact DaF.lst (SqL.of (by walk_at "hq")) (fun _ => by assumption) (by walk_at "das")
    | with_reducible exact Da.lst (SqL.of (by walk_at "hq")) (by walk_at "das")
    | with_reducible exact DaF.tup (SqT.of (by walk_at "hq")) (by walk_at "das")
    | with_reducible exact DaF.dic (Rd.of (by walk_at "hq")) (by walk_at "dak")
    | fail)
  | `(tactic| walk_at "das") => `(tactic| first
    | assumption
    | exact DaAllF.nil
    | exact DaAllF.cons (by walk_at "da") (by walk_at "das")
    | fail)
  | `(tactic| walk_at "dak") => `(tactic| first
    | assumption
    | exact DaKvF.nil
    | exact DaKvF.cons (by walk_at "da") (by walk_at "dak")
    | fail)
  | `(tactic| walk_at "shw") => `(tactic| first
    | assumption
    | exact shw_b2 _ _
    | exact ⟨by decide +kernel, by decide +kernel, by decide +kernel⟩
    | fail)
  | `(tactic| walk_at "nod") => `(tactic| first
    | exact .inl rfl
    | exact .inr rfl
    | assumption
    | exact .inr (by assumption)
    | fail)
  | `(tactic| walk_at "okd") => `(tactic| first
    | assumption
    | exact okd_of (by decide +kernel)
    | fail)
  | `(tactic| walk_at "off") => `(tactic| first
    | assumption
    | exact Off.refl _ _
    | exact Same.refl _
    | with_reducible exact Same.thenS (by assumption) (by walk_at "off")
    | with_reducible exact Off.thenS (by assumption) (by walk_at "off")
    | with_reducible exact Off.thenO (by assumption) (by walk_at "off")
    | with_reducible exact Same.thenF (by assumption) (by assumption) (by walk_at "off") (by walk_at "off")
    | with_reducible exact Off.thenF (by assumption) (by assumption) (by walk_at "off") (by walk_at "off")
    | fail)
  | `(tactic| walk_at "side") => `(tactic| first
    | assumption
    | omega
    | decide
    | (simp only [List.length_append, List.length_cons, List.length_nil]; decide)
    | exact ⟨by omega, by omega⟩
    | exact ⟨by omega, PyProof.noPylong_of_log2 (by first | assumption | decide)⟩
    | exact .inl ⟨by omega, by omega⟩
    | exact .inr ⟨by omega, by omega⟩
    | exact ⟨by decide, by decide, by decide⟩
    | exact ⟨by decide, by decide, by omega⟩
    | fail)
  | `(tactic| walk_at "fld") => `(tactic| first
    | exact fld_use
    | exact fld_win
    | exact fld_cnt
    | exact fld_wdr
    | exact fld_rec
    | fail)
  | `(tactic| walk_at "rd") => `(tactic| first
    | assumption
    | with_reducible exact Rd.of (by walk_at "hg")
    | exact .inr ⟨_, by walk_at "hg"⟩
    | fail)
  | `(tactic| walk_at "st") => `(tactic| first
    | with_reducible refine i_seq ?_
    | with_reducible refine i_bi ?_
    | with_reducible refine i_raise ?_
    | with_reducible refine i_callX ?_
    | with_reducible refine i_tryN ?_
    | with_reducible refine i_isNon ?_
    | with_reducible refine i_isNotNon ?_
    | ((with_reducible refine' i_split ?h ?z ?_); (case h => rfl); (case z => walk_at "side"))
    | with_reducible refine i_find ?_
    | ((with_reducible refine i_strI ?h ?_); (case h => walk_at "side"))
    | with_reducible refine i_fmt ?_
    | ((with_reducible refine i_fmS ?h ?_); (case h => walk_at "side"))
    | ((with_reducible refine i_fmI ?h ?_); (case h => walk_at "side"))
    | with_reducible refine i_jn ?_
    | with_reducible refine i_js0 ?_
    | with_reducible refine i_js1 ?_
    | ((with_reducible refine i_jsR ?h ?_); (case h => walk_at "side"))
    | with_reducible refine i_revS ?_
    | ((with_reducible refine i_exrev ?h ?_); (case h => walk_at "side"))
    | with_reducible refine i_revL ?_
    | fail)

/-! ### promises -/
def sp_l_draw : Sp := fun vs H Q _ => ∃ r m, vs = [.ref r, .int m] ∧ 0 < m ∧ m.natAbs.log2 < 9000 ∧ Rok H r ∧
  ∀ d H', 0 ≤ d → d < m → Rok H' r → Off r H H' → Q (.int d) H'
def sp_l_rng (K : PySem.W.Frag) : Sp := fun vs H Q _ => ∃ (s : Addr) (ns : List Int) (k : Int), vs = [.ref s, .int k] ∧ SqL K H s (ns.map V.int) ∧ 0 ≤ k ∧ k < 100 ∧ ns.length ≤ 63 ∧
  ∀ r H', H r = none → Rok H' r → Same H H' → Q (.ref r) H'
section
variable {P : Program} {w : World} {K : PySem.W.Frag} {mg : Str → Option Value} {base : Heap} {A : Ad}
theorem ok_l_draw (T : Txt K mg A) : Fg P w K mg base CX0 1 A.f_l_draw A.d_l_draw ["_law_rng_here", "_law_many"] sp_l_draw := by
  refine ok_g T.F_l_draw sc_l_draw (fun vs H Q E h => ?_) (fun cdv Ar outer s H vs Q E hr h => ?_)
  · obtain ⟨r, m, rfl, _⟩ := h; rfl
  · obtain ⟨r, m, rfl, m0, mb, ⟨a, b, hR, b0, b1⟩, q⟩ := h
    refine ⟨_, (pss_cons (ps_if (pt_cmpR op_gt (pe_ix ix_list (pv 0) pe_int (fun _ _ => rfl)) pe_int (nomark _))
(pss_cons (ps_asg (pe_callB call_divmodN (by rfl) T.m_divmod (by decide +kernel) (pa_cons (pe_ix ix_list (pv 0) pe_int (fun _ _ => rfl)) (pa_cons (pv 1) pa_nil))) (pg_tup rfl (pgs_cons (pg_sub (pv 0) pe_int set_list) (pgs_cons (pg_name (i := 2) sc_l_draw.nd rfl (.inl rfl)) pgs_nil))))
(pss_one (ps_ret (pv 2))))
pss_nil)
(pss_cons (ps_asg (pe_op op_mod (pe_op op_add (pe_op op_mul (pe_ix ix_list (pv 0) pe_int (fun _ _ => rfl)) pe_int) pe_int) pe_int) (pg_sub (pv 0) pe_int set_list))
(pss_one (ps_ret (pe_op op_mod (pe_op op_fdiv (pe_op op_mod (pe_op op_mul (pe_ix ix_list (pv 0) pe_int (fun _ _ => rfl)) (pe_ix ix_list (pv 0) pe_int (fun _ _ => rfl))) pe_int) pe_int) (pv 1)))))), ?_⟩
    repeat (walk_at "st")
    refine ite2 (fun e => ?_) (fun e => ?_)
    · repeat (walk_at "st")
      refine i_new fun p1 G1 n1 s1 e1 => ?_
      repeat (walk_at "st")
      refine i_put fun G2 o2 e2 => ?_
      repeat (walk_at "st")
      exact q _ _ (Int.emod_nonneg _ (by omega)) (Int.emod_lt_of_pos _ m0) ⟨_, _, e2, b0, b1⟩ (Off.trans (.of_same s1) o2)
    · repeat (walk_at "st")
      refine i_put fun G1 o1 e1 => ?_
      repeat (walk_at "st")
      exact q _ _ (Int.emod_nonneg _ (by omega)) (Int.emod_lt_of_pos _ m0) ⟨_, _, e1, Int.emod_nonneg _ (by decide), Int.lt_trans (Int.emod_lt_of_pos _ (by decide)) (by decide)⟩ o1
theorem atI_lt {xs : List V} {d : Int} (h0 : 0 ≤ d) (h1 : d < xs.length) : ∃ v, v ∈ xs ∧ atI xs d = some v := by
  have hd : d.toNat < xs.length := by omega
  refine ⟨xs[d.toNat], List.getElem_mem hd, ?_⟩
  unfold atI ixN
  rw [if_pos h0, if_pos h1]
  simp [hd]
theorem ok_l_rng (T : Txt K mg A) : Fg P w K mg base CX0 1 A.f_l_rng A.d_l_rng ["_law_script", "_law_k"] (sp_l_rng K) := by
  refine ok_g T.F_l_rng sc_l_rng (fun vs H Q E h => ?_) (fun cdv Ar outer s H vs Q E hr h => ?_)
  · obtain ⟨_, _, _, rfl, _⟩ := h; rfl
  · obtain ⟨s, ns, k, rfl, hS, k0, k1, hl, q⟩ := h
    refine ⟨_, (pss_cons (ps_set (i := 2) sc_l_rng.nd rfl (.inl rfl) (pe_ifExp (pt_cmpR op_lt (pv 1) (pe_callB call_lenN (by rfl) T.m_len (by decide +kernel) (pa_cons (pv 0) pa_nil)) (nomark _)) (pe_callB call_abs (by rfl) T.m_abs (by decide +kernel) (pa_cons (pe_ix ix_list (pv 0) (pv 1) (fun _ _ => rfl)) pa_nil)) pe_int))
(pss_one (ps_ret (pe_lst (pa_cons (pe_callB (call_max2 rfl) (by rfl) T.m_max (by decide +kernel) (pa_cons pe_int (pa_cons (pe_op op_sub (pv 2) (pe_op op_pow pe_int pe_int)) pa_nil))) (pa_cons (pe_op op_add (pe_op op_mod (pe_op op_pow (pe_op op_add (pe_op op_add (pe_op op_mod (pv 2) pe_int) (pe_op op_mul pe_int (pv 1))) pe_int) pe_int) pe_int) pe_int) pa_nil)))))), ?_⟩
    repeat (walk_at "st")
    refine i_ite (fun e => ?_) (fun e => ?_)
    · have e' : k < ns.length := by simpa using of_decide_eq_true e
      obtain ⟨v, hv, ev⟩ := atI_lt (xs := ns.map V.int) k0 (by simpa using e')
      obtain ⟨z, _, rfl⟩ := List.mem_map.mp hv
      repeat (walk_at "st")
      refine i_new fun p1 G1 n1 s1 e1 => ?_
      repeat (walk_at "st")
      exact q _ _ n1 ⟨_, _, e1, by omega, by omega⟩ s1
    · repeat (walk_at "st")
      refine i_new fun p1 G1 n1 s1 e1 => ?_
      repeat (walk_at "st")
      exact q _ _ n1 ⟨_, _, e1, by omega, by omega⟩ s1

/-! ### errors -/
theorem len2 {α : Type} : ∀ {l : List α}, l.length = 2 → ∃ a b, l = [a, b]
  | [a, b], _ => ⟨a, b, rfl⟩
theorem ok_InvalidNamex_initx (T : Txt K mg A) : FnOk P w K mg base CX0 1 A.f_InvalidNamex_initx A.d_InvalidNamex_initx ["self", "value"] (spI A.c_InvalidName ["value"]) := by
  refine T.F_InvalidNamex_initx.ok sc_InvalidNamex_initx (fun vs H Q E h => ?_) (fun cdv Ar outer s H vs Q E hr h => ?_)
  · obtain ⟨_, ws, rfl, hl, _⟩ := h; simp [hl]
  · obtain ⟨a, ws, rfl, hl, e, q⟩ := h
    obtain ⟨v, rfl⟩ := List.length_eq_one_iff.mp hl
    refine ⟨_, (pss_cons (ps_expr (pe_binit (by rfl) T.gX_GroupError baseV T.IB_GroupError (pa_cons (pv 0) (pa_cons (pv 1) pa_nil))))
(pss_one (ps_stB (newId := "ValueError.__new__") (initId := "ValueError.__init__") (bmB := tailOf "ValueError") (pv 0) (pv 1)))), ?_⟩
    repeat (walk_at "st")
    refine ⟨a, _, [v], rfl, by show 1 ≤ 1000; decide, T.EX_InvalidName.o, e, ?_⟩
    repeat (walk_at "st")
    refine ⟨a, _, rfl, T.EX_InvalidName.o, T.tk_InvalidName_value, .inl ⟨e, fun dx n ne => ?_⟩⟩
    exact q dx _ n ne upd_same (by rw [upd_ne ne]; exact upd_same) fun b n1 n2 => by rw [upd_ne n1, upd_ne n2]
theorem ok_InvalidWindowx_initx (T : Txt K mg A) : FnOk P w K mg base CX0 1 A.f_InvalidWindowx_initx A.d_InvalidWindowx_initx ["self", "value"] (spI A.c_InvalidWindow ["value"]) := by
  refine T.F_InvalidWindowx_initx.ok sc_InvalidWindowx_initx (fun vs H Q E h => ?_) (fun cdv Ar outer s H vs Q E hr h => ?_)
  · obtain ⟨_, ws, rfl, hl, _⟩ := h; simp [hl]
  · obtain ⟨a, ws, rfl, hl, e, q⟩ := h
    obtain ⟨v, rfl⟩ := List.length_eq_one_iff.mp hl
    refine ⟨_, (pss_cons (ps_expr (pe_binit (by rfl) T.gX_GroupError baseV T.IB_GroupError (pa_cons (pv 0) (pa_cons (pv 1) pa_nil))))
(pss_one (ps_stB (newId := "ValueError.__new__") (initId := "ValueError.__init__") (bmB := tailOf "ValueError") (pv 0) (pv 1)))), ?_⟩
    repeat (walk_at "st")
    refine ⟨a, _, [v], rfl, by show 1 ≤ 1000; decide, T.EX_InvalidWindow.o, e, ?_⟩
    repeat (walk_at "st")
    refine ⟨a, _, rfl, T.EX_InvalidWindow.o, T.tk_InvalidWindow_value, .inl ⟨e, fun dx n ne => ?_⟩⟩
    exact q dx _ n ne upd_same (by rw [upd_ne ne]; exact upd_same) fun b n1 n2 => by rw [upd_ne n1, upd_ne n2]
theorem ok_InvalidWindowsx_initx (T : Txt K mg A) : FnOk P w K mg base CX0 1 A.f_InvalidWindowsx_initx A.d_InvalidWindowsx_initx ["self", "position"] (spI A.c_InvalidWindows ["position"]) := by
  refine T.F_InvalidWindowsx_initx.ok sc_InvalidWindowsx_initx (fun vs H Q E h => ?_) (fun cdv Ar outer s H vs Q E hr h => ?_)
  · obtain ⟨_, ws, rfl, hl, _⟩ := h; simp [hl]
  · obtain ⟨a, ws, rfl, hl, e, q⟩ := h
    obtain ⟨v, rfl⟩ := List.length_eq_one_iff.mp hl
    refine ⟨_, (pss_cons (ps_expr (pe_binit (by rfl) T.gX_GroupError baseV T.IB_GroupError (pa_cons (pv 0) (pa_cons (pv 1) pa_nil))))
(pss_one (ps_stB (newId := "ValueError.__new__") (initId := "ValueError.__init__") (bmB := tailOf "ValueError") (pv 0) (pv 1)))), ?_⟩
    repeat (walk_at "st")
    refine ⟨a, _, [v], rfl, by show 1 ≤ 1000; decide, T.EX_InvalidWindows.o, e, ?_⟩
    repeat (walk_at "st")
    refine ⟨a, _, rfl, T.EX_InvalidWindows.o, T.tk_InvalidWindows_position, .inl ⟨e, fun dx n ne => ?_⟩⟩
    exact q dx _ n ne upd_same (by rw [upd_ne ne]; exact upd_same) fun b n1 n2 => by rw [upd_ne n1, upd_ne n2]
theorem ok_InvalidUsesx_initx (T : Txt K mg A) : FnOk P w K mg base CX0 1 A.f_InvalidUsesx_initx A.d_InvalidUsesx_initx ["self", "module"] (spI A.c_InvalidUses ["module"]) := by
  refine T.F_InvalidUsesx_initx.ok sc_InvalidUsesx_initx (fun vs H Q E h => ?_) (fun cdv Ar outer s H vs Q E hr h => ?_)
  · obtain ⟨_, ws, rfl, hl, _⟩ := h; simp [hl]
  · obtain ⟨a, ws, rfl, hl, e, q⟩ := h
    obtain ⟨v, rfl⟩ := List.length_eq_one_iff.mp hl
    refine ⟨_, (pss_cons (ps_expr (pe_binit (by rfl) T.gX_GroupError baseV T.IB_GroupError (pa_cons (pv 0) (pa_cons (pv 1) pa_nil))))
(pss_one (ps_stB (newId := "ValueError.__new__") (initId := "ValueError.__init__") (bmB := tailOf "ValueError") (pv 0) (pv 1)))), ?_⟩
    repeat (walk_at "st")
    refine ⟨a, _, [v], rfl, by show 1 ≤ 1000; decide, T.EX_InvalidUses.o, e, ?_⟩
    repeat (walk_at "st")
    refine ⟨a, _, rfl, T.EX_InvalidUses.o, T.tk_InvalidUses_module, .inl ⟨e, fun dx n ne => ?_⟩⟩
    exact q dx _ n ne upd_same (by rw [upd_ne ne]; exact upd_same) fun b n1 n2 => by rw [upd_ne n1, upd_ne n2]
theorem ok_UnknownModulex_initx (T : Txt K mg A) : FnOk P w K mg base CX0 1 A.f_UnknownModulex_initx A.d_UnknownModulex_initx ["self", "value"] (spI A.c_UnknownModule ["value"]) := by
  refine T.F_UnknownModulex_initx.ok sc_UnknownModulex_initx (fun vs H Q E h => ?_) (fun cdv Ar outer s H vs Q E hr h => ?_)
  · obtain ⟨_, ws, rfl, hl, _⟩ := h; simp [hl]
  · obtain ⟨a, ws, rfl, hl, e, q⟩ := h
    obtain ⟨v, rfl⟩ := List.length_eq_one_iff.mp hl
    refine ⟨_, (pss_cons (ps_expr (pe_binit (by rfl) T.gX_Missing baseL T.IB_Missing (pa_cons (pv 0) (pa_cons (pv 1) pa_nil))))
(pss_one (ps_stB (newId := "LookupError.__new__") (initId := "LookupError.__init__") (bmB := tailOf "LookupError") (pv 0) (pv 1)))), ?_⟩
    repeat (walk_at "st")
    refine ⟨a, _, [v], rfl, by show 1 ≤ 1000; decide, T.EX_UnknownModule.o, e, ?_⟩
    repeat (walk_at "st")
    refine ⟨a, _, rfl, T.EX_UnknownModule.o, T.tk_UnknownModule_value, .inl ⟨e, fun dx n ne => ?_⟩⟩
    exact q dx _ n ne upd_same (by rw [upd_ne ne]; exact upd_same) fun b n1 n2 => by rw [upd_ne n1, upd_ne n2]
theorem ok_UnknownUsex_initx (T : Txt K mg A) : FnOk P w K mg base CX0 1 A.f_UnknownUsex_initx A.d_UnknownUsex_initx ["self", "user", "used"] (spI A.c_UnknownUse ["user", "used"]) := by
  refine T.F_UnknownUsex_initx.ok sc_UnknownUsex_initx (fun vs H Q E h => ?_) (fun cdv Ar outer s H vs Q E hr h => ?_)
  · obtain ⟨_, ws, rfl, hl, _⟩ := h; simp [hl]
  · obtain ⟨a, ws, rfl, hl, e, q⟩ := h
    obtain ⟨v, u, rfl⟩ := len2 hl
    refine ⟨_, (pss_cons (ps_expr (pe_binit (by rfl) T.gX_Missing baseL T.IB_Missing (pa_cons (pv 0) (pa_cons (pv 1) (pa_cons (pv 2) pa_nil)))))
(pss_cons (ps_stB (newId := "LookupError.__new__") (initId := "LookupError.__init__") (bmB := tailOf "LookupError") (pv 0) (pv 1))
(pss_one (ps_stB (newId := "LookupError.__new__") (initId := "LookupError.__init__") (bmB := tailOf "LookupError") (pv 0) (pv 2))))), ?_⟩
    repeat (walk_at "st")
    refine ⟨a, _, [v, u], rfl, by show 2 ≤ 1000; decide, T.EX_UnknownUse.o, e, ?_⟩
    repeat (walk_at "st")
    refine ⟨a, _, rfl, T.EX_UnknownUse.o, T.tk_UnknownUse_user, .inl ⟨e, fun dx n ne => ?_⟩⟩
    repeat (walk_at "st")
    refine ⟨a, _, rfl, T.EX_UnknownUse.o, T.tk_UnknownUse_used, .inr ⟨dx, _, upd_same, by rw [upd_ne ne]; exact upd_same, by show 1 ≤ 900; decide, ?_⟩⟩
    exact q dx _ n ne (by rw [upd_ne ne.symm]; exact upd_same) upd_same fun b n1 n2 => by rw [upd_ne n2, upd_ne n1, upd_ne n2]
theorem ok_UnknownVersionx_initx (T : Txt K mg A) : FnOk P w K mg base CX0 1 A.f_UnknownVersionx_initx A.d_UnknownVersionx_initx ["self", "module", "version"] (spI A.c_UnknownVersion ["module", "version"]) := by
  refine T.F_UnknownVersionx_initx.ok sc_UnknownVersionx_initx (fun vs H Q E h => ?_) (fun cdv Ar outer s H vs Q E hr h => ?_)
  · obtain ⟨_, ws, rfl, hl, _⟩ := h; simp [hl]
  · obtain ⟨a, ws, rfl, hl, e, q⟩ := h
    obtain ⟨v, u, rfl⟩ := len2 hl
    refine ⟨_, (pss_cons (ps_expr (pe_binit (by rfl) T.gX_Missing baseL T.IB_Missing (pa_cons (pv 0) (pa_cons (pv 1) (pa_cons (pv 2) pa_nil)))))
(pss_cons (ps_stB (newId := "LookupError.__new__") (initId := "LookupError.__init__") (bmB := tailOf "LookupError") (pv 0) (pv 1))
(pss_one (ps_stB (newId := "LookupError.__new__") (initId := "LookupError.__init__") (bmB := tailOf "LookupError") (pv 0) (pv 2))))), ?_⟩
    repeat (walk_at "st")
    refine ⟨a, _, [v, u], rfl, by show 2 ≤ 1000; decide, T.EX_UnknownVersion.o, e, ?_⟩
    repeat (walk_at "st")
    refine ⟨a, _, rfl, T.EX_UnknownVersion.o, T.tk_UnknownVersion_module, .inl ⟨e, fun dx n ne => ?_⟩⟩
    repeat (walk_at "st")
    refine ⟨a, _, rfl, T.EX_UnknownVersion.o, T.tk_UnknownVersion_version, .inr ⟨dx, _, upd_same, by rw [upd_ne ne]; exact upd_same, by show 1 ≤ 900; decide, ?_⟩⟩
    exact q dx _ n ne (by rw [upd_ne ne.symm]; exact upd_same) upd_same fun b n1 n2 => by rw [upd_ne n2, upd_ne n1, upd_ne n2]
theorem ok_NotRisingx_initx (T : Txt K mg A) : FnOk P w K mg base CX0 1 A.f_NotRisingx_initx A.d_NotRisingx_initx ["self", "user", "used"] (spI A.c_NotRising ["user", "used"]) := by
  refine T.F_NotRisingx_initx.ok sc_NotRisingx_initx (fun vs H Q E h => ?_) (fun cdv Ar outer s H vs Q E hr h => ?_)
  · obtain ⟨_, ws, rfl, hl, _⟩ := h; simp [hl]
  · obtain ⟨a, ws, rfl, hl, e, q⟩ := h
    obtain ⟨v, u, rfl⟩ := len2 hl
    refine ⟨_, (pss_cons (ps_expr (pe_binit (by rfl) T.gX_Refused baseR T.IB_Refused (pa_cons (pv 0) (pa_cons (pv 1) (pa_cons (pv 2) pa_nil)))))
(pss_cons (ps_stB (newId := "RuntimeError.__new__") (initId := "RuntimeError.__init__") (bmB := tailOf "RuntimeError") (pv 0) (pv 1))
(pss_one (ps_stB (newId := "RuntimeError.__new__") (initId := "RuntimeError.__init__") (bmB := tailOf "RuntimeError") (pv 0) (pv 2))))), ?_⟩
    repeat (walk_at "st")
    refine ⟨a, _, [v, u], rfl, by show 2 ≤ 1000; decide, T.EX_NotRising.o, e, ?_⟩
    repeat (walk_at "st")
    refine ⟨a, _, rfl, T.EX_NotRising.o, T.tk_NotRising_user, .inl ⟨e, fun dx n ne => ?_⟩⟩
    repeat (walk_at "st")
    refine ⟨a, _, rfl, T.EX_NotRising.o, T.tk_NotRising_used, .inr ⟨dx, _, upd_same, by rw [upd_ne ne]; exact upd_same, by show 1 ≤ 900; decide, ?_⟩⟩
    exact q dx _ n ne (by rw [upd_ne ne.symm]; exact upd_same) upd_same fun b n1 n2 => by rw [upd_ne n2, upd_ne n1, upd_ne n2]
theorem ok_TooManyx_initx (T : Txt K mg A) : FnOk P w K mg base CX0 1 A.f_TooManyx_initx A.d_TooManyx_initx ["self", "kind", "limit"] (spI A.c_TooMany ["kind", "limit"]) := by
  refine T.F_TooManyx_initx.ok sc_TooManyx_initx (fun vs H Q E h => ?_) (fun cdv Ar outer s H vs Q E hr h => ?_)
  · obtain ⟨_, ws, rfl, hl, _⟩ := h; simp [hl]
  · obtain ⟨a, ws, rfl, hl, e, q⟩ := h
    obtain ⟨v, u, rfl⟩ := len2 hl
    refine ⟨_, (pss_cons (ps_expr (pe_binit (by rfl) T.gX_LimitReached baseA T.IB_LimitReached (pa_cons (pv 0) (pa_cons (pv 1) (pa_cons (pv 2) pa_nil)))))
(pss_cons (ps_stB (newId := "ArithmeticError.__new__") (initId := "ArithmeticError.__init__") (bmB := tailOf "ArithmeticError") (pv 0) (pv 1))
(pss_one (ps_stB (newId := "ArithmeticError.__new__") (initId := "ArithmeticError.__init__") (bmB := tailOf "ArithmeticError") (pv 0) (pv 2))))), ?_⟩
    repeat (walk_at "st")
    refine ⟨a, _, [v, u], rfl, by show 2 ≤ 1000; decide, T.EX_TooMany.o, e, ?_⟩
    repeat (walk_at "st")
    refine ⟨a, _, rfl, T.EX_TooMany.o, T.tk_TooMany_kind, .inl ⟨e, fun dx n ne => ?_⟩⟩
    repeat (walk_at "st")
    refine ⟨a, _, rfl, T.EX_TooMany.o, T.tk_TooMany_limit, .inr ⟨dx, _, upd_same, by rw [upd_ne ne]; exact upd_same, by show 1 ≤ 900; decide, ?_⟩⟩
    exact q dx _ n ne (by rw [upd_ne ne.symm]; exact upd_same) upd_same fun b n1 n2 => by rw [upd_ne n2, upd_ne n1, upd_ne n2]

theorem ok_is_integer (T : Txt K mg A) : FnOk P w K mg base CX0 1 A.f_is_integer A.d_is_integer ["value"] (sp_dat K fun d => isi d "int" && !isi d "bool") := by
  refine T.F_is_integer.ok sc_is_integer (fun vs H Q E h => ?_) (fun cdv Ar outer s H vs Q E hr h => ?_)
  · obtain ⟨_, _, rfl, _⟩ := h; rfl
  · obtain ⟨v, d, rfl, hd, q⟩ := h
    refine ⟨_, (pss_one (ps_ret (pe_and (pe_callB call_isiD (by rfl) T.m_isinstance (by decide +kernel) (pa_cons (pv 0) (pa_cons (pe_bltn (v := .ty "int") rfl T.m_int (by decide +kernel) rfl) pa_nil))) (pe_one (pe_not (pe_callB call_isiD (by rfl) T.m_isinstance (by decide +kernel) (pa_cons (pv 0) (pa_cons (pe_bltn (v := .ty "bool") rfl T.m_bool (by decide +kernel) rfl) pa_nil)))))))), ?_⟩
    have q' := q _ (Same.refl H)
    dsimp only at q'
    repeat (walk_at "st")
    refine i_ite (fun e => ?_) (fun e => ?_)
    · repeat (walk_at "st")
      rw [e] at q'; exact q'
    · rw [e] at q'; exact q'
theorem ok_is_version (T : Txt K mg A) (G_is_integer : FnOk P w K mg base CX0 1 A.f_is_integer A.d_is_integer ["value"] (sp_dat K fun d => isi d "int" && !isi d "bool")) : FnOk P w K mg base CX0 2 A.f_is_version A.d_is_version ["value"] (sp_dat K verD) := by
  refine T.F_is_version.ok sc_is_version (fun vs H Q E h => ?_) (fun cdv Ar outer s H vs Q E hr h => ?_)
  · obtain ⟨_, _, rfl, _⟩ := h; rfl
  · obtain ⟨v, d, rfl, hd, q⟩ := h
    refine ⟨_, (pss_one (ps_ret (pe_and (L2.pe_call G_is_integer (hr.mono (by decide)) (by rfl) T.g_is_integer T.F_is_integer.kp T.b_is_integer .nil pass0 (pa_cons (pv 0) pa_nil)) (pe_one (pe_cmpR op_ge (pv 0) pe_int (nomark _)))))), ?_⟩
    repeat (walk_at "st")
    refine ⟨_, _, rfl, hd, fun G1 s1 => ?_⟩
    repeat (walk_at "st")
    have q' := q _ s1
    cases hd with
    | int i => 
      refine i_iteT ?_
      repeat (walk_at "st")
      exact q'
    | _ => exact q'
theorem ok_is_window (T : Txt K mg A) (G_is_version : FnOk P w K mg base CX0 2 A.f_is_version A.d_is_version ["value"] (sp_dat K verD)) : FnOk P w K mg base CX0 3 A.f_is_window A.d_is_window ["value"] (sp_dat K winB) := by
  refine T.F_is_window.ok sc_is_window (fun vs H Q E h => ?_) (fun cdv Ar outer s H vs Q E hr h => ?_)
  · obtain ⟨_, _, rfl, _⟩ := h; rfl
  · obtain ⟨v, d, rfl, hd, q⟩ := h
    refine ⟨_, (pss_cons (ps_if (PW.pt (pw_or (pt_not (pt_val (pe_callB call_isiD (by rfl) T.m_isinstance (by decide +kernel) (pa_cons (pv 0) (pa_cons (pe_bltn (v := .ty "tuple") rfl T.m_tuple (by decide +kernel) rfl) pa_nil))))) (pw_or (pt_cmpR op_ne (pe_callB call_lenN (by rfl) T.m_len (by decide +kernel) (pa_cons (pv 0) pa_nil)) pe_int (nomark _)) (pw_or1 (pt_not (pt_val (L2.pe_call G_is_version (hr.mono (by decide)) (by rfl) T.g_is_version T.F_is_version.kp T.b_is_version .nil pass0 (pa_cons (pe_ix ix_tup (pv 0) pe_int (fun _ _ => rfl)) pa_nil))))))))
(pss_one (ps_ret pe_bl))
pss_nil)
(pss_cons (ps_asg (pv 0) (pg_tup rfl (pgs_cons (pg_name (i := 1) sc_is_window.nd rfl (.inl rfl)) (pgs_cons (pg_name (i := 2) sc_is_window.nd rfl (.inl rfl)) pgs_nil))))
(pss_one (ps_ret (pe_or (pe_cmpR op_isNN (pv 2) pe_non (nomark _)) (pe_one (pe_and (L2.pe_call G_is_version (hr.mono (by decide)) (by rfl) T.g_is_version T.F_is_version.kp T.b_is_version .nil pass0 (pa_cons (pv 2) pa_nil)) (pe_one (pe_cmpR op_ge (pv 2) (pv 1) (nomark _)))))))))), ?_⟩
    repeat (walk_at "st")
    cases hd with
    | tup hq ha =>
      rename_i xs ds
      have len := ha.len
      refine i_ff (by rfl) ?_
      repeat (walk_at "st")
      by_cases hl : ds.length = 2
      · refine i_ff (by rw [len, hl]; rfl) ?_
        repeat (walk_at "st")
        obtain ⟨x1, x2, d1, d2, rfl, rfl, h1, h2⟩ := da_two ha hl
        repeat (walk_at "st")
        refine ⟨_, _, rfl, h1, fun G1 s1 => ?_⟩
        have hq' := same_seqT s1 hq
        repeat (walk_at "st")
        refine i_ite (fun e => ?_) (fun e => ?_)
        · repeat (walk_at "st")
          have e' : verD d1 = false := by simpa using e
          have q' := q _ s1
          rw [winB_two, e'] at q'
          exact q'
        · have e' : verD d1 = true := by simpa using e
          obtain ⟨i, rfl, rfl, i0⟩ := verD_int h1 e'
          repeat (walk_at "st")
          refine i_ite (fun c => ?_) (fun c => ?_)
          · repeat (walk_at "st")
            have q' := q _ s1
            rw [winB_two, e', ← da_non h2, c] at q'
            exact q'
          · repeat (walk_at "st")
            refine ⟨_, _, rfl, h2.same s1, fun G2 s2 => ?_⟩
            repeat (walk_at "st")
            refine i_ite (fun c2 => ?_) (fun c2 => ?_)
            · obtain ⟨k, rfl, rfl, k0⟩ := verD_int h2 c2
              repeat (walk_at "st")
              have q' := q _ (s1.trans s2)
              rw [winB_two, e', c2] at q'
              exact q'
            · have q' := q _ (s1.trans s2)
              rw [winB_two, e', ← da_non h2, c, c2] at q'
              exact q'
      · refine i_tt (by rw [len]; simp; omega) ?_
        repeat (walk_at "st")
        have q' := q _ (Same.refl H)
        rw [winB_len hl] at q'
        exact q'
    | _ =>
      refine i_tt (by rfl) ?_
      repeat (walk_at "st")
      exact q _ (Same.refl _)
theorem ok_require_window (T : Txt K mg A) (G_is_window : FnOk P w K mg base CX0 3 A.f_is_window A.d_is_window ["value"] (sp_dat K winB)) (G_InvalidWindowx_initx : FnOk P w K mg base CX0 1 A.f_InvalidWindowx_initx A.d_InvalidWindowx_initx ["self", "value"] (spI A.c_InvalidWindow ["value"])) :
    FnOk P w K mg base (L2.CX P w) 4 A.f_require_window A.d_require_window ["value"] (sp_req K winB A.c_InvalidWindow "value") := by
  refine T.F_require_window.okX sc_require_window (fun vs H Q E h => ?_) (fun cdv Ar outer s H vs Q E hr h => ?_)
  · obtain ⟨_, _, rfl, _⟩ := h; rfl
  · obtain ⟨v, d, rfl, hd, qy, qn⟩ := h
    refine ⟨_, (pss_one (ps_if (pt_not (pt_val (L2.pe_call G_is_window (hr.mono (by decide)) (by rfl) T.g_is_window T.F_is_window.kp T.b_is_window .nil pass0 (pa_cons (pv 0) pa_nil))))
(pss_one (ps_raiseN rfl (takes_of rfl rfl rfl rfl) (pmk_B T.EX_InvalidWindow.o T.iC_InvalidWindow T.tI_InvalidWindow G_InvalidWindowx_initx (hr.mono (by decide)) T.b_InvalidWindowx_initx pass0 (by rfl) T.gX_InvalidWindow (pa_cons (pv 0) pa_nil))))
pss_nil)), ?_⟩
    repeat (walk_at "st")
    refine ⟨_, _, rfl, hd, fun G1 s1 => ?_⟩
    repeat (walk_at "st")
    refine i_ite (fun e => ?_) (fun e => ?_)
    · have e' : winB d = false := by simpa using e
      repeat (walk_at "st")
      refine i_mkR rfl (by decide) fun c H2 hc s2 ec => ?_
      exact qn e' c H2 (none_of s1 hc) (s1.trans s2) ec
    · have e' : winB d = true := by simpa using e
      repeat (walk_at "st")
      exact qy e' _ s1

def sp_reach (K : PySem.W.Frag) : Sp := fun vs H Q _ => ∃ v w n, vs = [v, .int n] ∧ Da K H v (winD w) ∧ ∀ H', Same H H' → Q (.bl (reachW w n)) H'
theorem ok_reaches (T : Txt K mg A) : FnOk P w K mg base CX0 1 A.f_reaches A.d_reaches ["window", "version"] (sp_reach K) := by
  refine T.F_reaches.ok sc_reaches (fun vs H Q E h => ?_) (fun cdv Ar outer s H vs Q E hr h => ?_)
  · obtain ⟨_, _, _, rfl, _⟩ := h; rfl
  · obtain ⟨v, w, n, rfl, hd, q⟩ := h
    refine ⟨_, (pss_one (ps_ret (pe_or (pe_cmpR op_isNN (pe_ix ix_tup (pv 0) pe_int (fun _ _ => rfl)) pe_non (nomark _)) (pe_one (pe_cmpR op_ge (pe_ix ix_tup (pv 0) pe_int (fun _ _ => rfl)) (pv 1) (nomark _)))))), ?_⟩
    obtain ⟨a, rfl, hT⟩ := da_win hd
    obtain ⟨l, o⟩ := w
    have q' := q _ (Same.refl H)
    cases o with
    | none =>
      have hT : SqT K H a [.int l, .non] := hT
      repeat (walk_at "st")
      refine i_tt (by rfl) ?_
      exact q'
    | some k =>
      have hT : SqT K H a [.int l, .int k] := hT
      repeat (walk_at "st")
      refine i_ff (by rfl) ?_
      repeat (walk_at "st")
      exact q'
def sp_cont (K : PySem.W.Frag) (C D : Addr) : Sp := fun vs H Q E => ∃ v1 d1 v2 d2, vs = [v1, v2] ∧ Da K H v1 d1 ∧ Da K H v2 d2 ∧
  (∀ w n, winP d1 = some w → d2 = .int n → 0 ≤ n → ∀ H', Same H H' → Q (.bl (contW w n)) H') ∧
  (winB d1 = false → ∀ c H', H c = none → Same H H' → H' c = some (.xd [("value", v1)]) → E (.ref C) (some c) H') ∧
  (winB d1 = true → verD d2 = false → ∀ c H', H c = none → Same H H' → H' c = some (.xd [("value", v2)]) → E (.ref D) (some c) H')
def sp_rises (K : PySem.W.Frag) (C : Addr) : Sp := fun vs H Q E => ∃ v1 d1 v2 d2, vs = [v1, v2] ∧ Da K H v1 d1 ∧ Da K H v2 d2 ∧
  (∀ w u, winP d1 = some w → winP d2 = some u → ∀ H', Same H H' → Q (.bl (risesW w u)) H') ∧
  (winB d1 = false → ∀ c H', H c = none → Same H H' → H' c = some (.xd [("value", v1)]) → E (.ref C) (some c) H') ∧
  (winB d1 = true → winB d2 = false → ∀ c H', H c = none → Same H H' → H' c = some (.xd [("value", v2)]) → E (.ref C) (some c) H')
theorem ok_rises (T : Txt K mg A) (G_require_window : FnOk P w K mg base (L2.CX P w) 4 A.f_require_window A.d_require_window ["value"] (sp_req K winB A.c_InvalidWindow "value")) (G_reaches : FnOk P w K mg base CX0 1 A.f_reaches A.d_reaches ["window", "version"] (sp_reach K)) : FnOk P w K mg base (L2.CX P w) 5 A.f_rises A.d_rises ["first", "second"] (sp_rises K A.c_InvalidWindow) := by
  refine T.F_rises.okX sc_rises (fun vs H Q E h => ?_) (fun cdv Ar outer s H vs Q E hr h => ?_)
  · obtain ⟨_, _, _, _, rfl, _⟩ := h; rfl
  · obtain ⟨v1, d1, v2, d2, rfl, h1, h2, q, q1, q2⟩ := h
    refine ⟨_, (pss_cons (ps_expr (L2.pe_call G_require_window (hr.mono (by decide)) (by rfl) T.g_require_window T.F_require_window.kp T.b_require_window .nil (passes_call (takes_of rfl rfl rfl rfl) fun _ _ _ _ h => h) (pa_cons (pv 0) pa_nil)))
(pss_cons (ps_expr (L2.pe_call G_require_window (hr.mono (by decide)) (by rfl) T.g_require_window T.F_require_window.kp T.b_require_window .nil (passes_call (takes_of rfl rfl rfl rfl) fun _ _ _ _ h => h) (pa_cons (pv 1) pa_nil)))
(pss_cons (ps_if (pt_cmpR op_lt (pe_ix ix_tup (pv 1) pe_int (fun _ _ => rfl)) (pe_ix ix_tup (pv 0) pe_int (fun _ _ => rfl)) (nomark _))
(pss_one (ps_ret pe_bl))
pss_nil)
(pss_one (ps_ret (pe_ifExp (pt_cmpR op_isNN (pe_ix ix_tup (pv 0) pe_int (fun _ _ => rfl)) pe_non (nomark _)) (pe_cmpR op_isNN (pe_ix ix_tup (pv 1) pe_int (fun _ _ => rfl)) pe_non (nomark _)) (L2.pe_call G_reaches (hr.mono (by decide)) (by rfl) T.g_reaches T.F_reaches.kp T.b_reaches .nil pass0 (pa_cons (pv 1) (pa_cons (pe_ix ix_tup (pv 0) pe_int (fun _ _ => rfl)) pa_nil))))))))), ?_⟩
    repeat (walk_at "st")
    refine ⟨_, _, rfl, h1, fun e1 G1 s1 => ?_, fun e c G1 hc s1 ec => q1 e c G1 hc s1 ec⟩
    repeat (walk_at "st")
    refine ⟨_, _, rfl, h2.same s1, fun e2 G2 s2 => ?_, fun e c G2 hc s2 ec => q2 e1 e c G2 (none_of s1 hc) (s1.trans s2) ec⟩
    obtain ⟨w, hw⟩ := Option.isSome_iff_exists.mp (show (winP d1).isSome = true from e1)
    obtain ⟨u, hu⟩ := Option.isSome_iff_exists.mp (show (winP d2).isSome = true from e2)
    obtain ⟨rfl, ok1⟩ := winP_some hw
    obtain ⟨rfl, ok2⟩ := winP_some hu
    have hw1 := h1.same (s1.trans s2)
    have hw2 := h2.same (s1.trans s2)
    obtain ⟨a, rfl, hT1⟩ := da_win hw1
    obtain ⟨b, rfl, hT2⟩ := da_win hw2
    obtain ⟨l1, o1⟩ := w
    obtain ⟨l2, o2⟩ := u
    have q' := q _ _ hw hu
    unfold risesW at q'
    have hT1 : SqT K G2 a [.int l1, hiV o1] := hT1
    have hT2 : SqT K G2 b [.int l2, hiV o2] := hT2
    repeat (walk_at "st")
    refine i_ite (fun e => ?_) (fun e => ?_)
    · repeat (walk_at "st")
      have q' := q' _ (s1.trans s2)
      rw [e] at q'
      exact q'
    · repeat (walk_at "st")
      rw [e] at q'
      cases o1 with
      | none =>
        refine i_tt (by rfl) ?_
        repeat (walk_at "st")
        have q' := q' _ (s1.trans s2)
        cases o2 <;> exact q'
      | some k =>
        refine i_ff (by rfl) ?_
        repeat (walk_at "st")
        refine ⟨_, _, _, rfl, hw2, fun G3 s3 => ?_⟩
        repeat (walk_at "st")
        exact q' _ (s1.trans (s2.trans s3))

/-! names -/
def az : List Nat := (Str.ofString "abcdefghijklmnopqrstuvwxyz").cps.toList
theorem az_small : ∀ c ∈ az, c < 1114112 := by decide +kernel
def nameB : PyData → Bool
  | .str x => decide (1 ≤ x.length) && (decide (x.length ≤ 8) && x.cps.toList.all fun c => decide (c ∈ az))
  | _ => false
def ordV : V → Nat
  | .str z => z.cps.getD 0 0
  | _ => 0
theorem signsV_get {x : Str} {i : Nat} {v : V} (h : (signsV x)[i]? = some v) : ∃ c, v = .str ⟨#[c]⟩ ∧ c ∈ x.cps.toList := by
  have hm := List.mem_of_getElem? h
  obtain ⟨c, hc, e⟩ := List.mem_map.mp hm
  exact ⟨c, e.symm, hc⟩
def sp_name (K : PySem.W.Frag) : Sp := fun vs H Q _ => ∃ v d, vs = [v] ∧ Da K H v d ∧ (∀ x, d = .str x → x.length ≤ sizeLine) ∧ ∀ H', Same H H' → Q (.bl (nameB d)) H'
theorem ok_is_name (T : Txt K mg A) : FnOk P w K mg base CX0 1 A.f_is_name A.d_is_name ["value"] (sp_name K) := by
  refine T.F_is_name.ok sc_is_name (fun vs H Q E h => ?_) (fun cdv Ar outer s H vs Q E hr h => ?_)
  · obtain ⟨_, _, rfl, _⟩ := h; rfl
  · obtain ⟨v, d, rfl, hd, hx, q⟩ := h
    refine ⟨_, (pss_cons (ps_if (PW.pt (pw_or (pt_not (pt_val (pe_callB call_isiD (by rfl) T.m_isinstance (by decide +kernel) (pa_cons (pv 0) (pa_cons (pe_bltn (v := .ty "str") rfl T.m_str (by decide +kernel) rfl) pa_nil))))) (pw_or1 (pt_not (pt_chain op_le op_le pe_int (pe_callB call_lenN (by rfl) T.m_len (by decide +kernel) (pa_cons (pv 0) pa_nil)) (pe_glob (v := .int (8)) rfl T.c_MAX_LETTERS ⟨_, rfl⟩))))))
(pss_one (ps_ret pe_bl))
pss_nil)
(pss_one (ps_ret (pe_callB (cr_all rfl) (by rfl) T.m_all (by decide +kernel) (pa_cons (pe_lc (own := [("letter", 1)]) rfl sc_is_name.nd (pi_str (pv 0)) (blkOk_by (own := [("letter", 1)]) (N := ["value", "letter"]) (sc := defScope s_is_name) (by decide +kernel)) (fun _ _ _ _ _ => (pg_name (i := 1) sc_is_name.nd rfl (.inl rfl))) (fun _ _ _ _ _ => pts_nil) (fun _ _ _ _ _ => (pe_cmpR op_in_sign (pv 1) (pe_glob (v := .str "abcdefghijklmnopqrstuvwxyz") rfl T.c_LETTERS ⟨_, rfl⟩) (by rfl)))) pa_nil))))), ?_⟩
    repeat (walk_at "st")
    cases hd with
    | str x =>
      have hl := hx x rfl
      refine i_ff (by rfl) ?_
      repeat (walk_at "st")
      refine i_ite (fun e => ?_) (fun e => ?_)
      · repeat (walk_at "st")
        refine i_ite (fun e2 => ?_) (fun e2 => ?_)
        · repeat (walk_at "st")
          have l8 : ¬ x.length ≤ 8 := by simp at e2; omega
          have en : nameB (.str x) = false := by simp [nameB, l8]
          have q' := q _ (Same.refl H)
          rw [en] at q'
          exact q'
        · repeat (walk_at "st")
          have l8 : x.length ≤ 8 := by simp at e2; omega
          have l1 : 1 ≤ x.length := by have := of_decide_eq_true e; omega
          refine l_map wk_str (fun v => .bl (decide (ordV v ∈ az))) (by rw [signsV_len]; exact Nat.lt_of_le_of_lt l8 (by decide)) (fun _ _ => trivial) (fun i v H' R hv s1 hR => ?_) (fun D H' n1 s1 e1 => ?_)
          · obtain ⟨c, rfl, hc⟩ := signsV_get hv
            repeat (walk_at "st")
            exact hR _ (Same.refl _)
          · have e3 : (signsV x).map (fun v => V.bl (decide (ordV v ∈ az))) = (x.cps.toList.map fun c => decide (c ∈ az)).map V.bl := by
              simp only [signsV, List.map_map]; rfl
            rw [e3] at e1
            repeat (walk_at "st")
            have q' := q _ s1
            have en : nameB (.str x) = ((x.cps.toList.map fun c => decide (c ∈ az)).all id) := by
              rw [List.all_map]
              simp [nameB, l1, l8]
            rw [en] at q'
            exact q'
      · repeat (walk_at "st")
        refine i_tt (by rfl) ?_
        repeat (walk_at "st")
        have l1 : ¬ 1 ≤ x.length := by have := of_decide_eq_false e; omega
        have en : nameB (.str x) = false := by simp [nameB, l1]
        have q' := q _ (Same.refl H)
        rw [en] at q'
        exact q'
    | _ => 
      repeat (walk_at "st")
      exact q _ (Same.refl _)

end

open PySem PySem.Spec PyProof.Rows L2




theorem bi_InvalidNamex_initx {K : PySem.W.Frag} {f : Addr} {fd : FuncData} (F : Fun K "__init__" "InvalidName.__init__" s_InvalidNamex_initx f fd) : Binds K fd ["self", "value"] [] := F.binds (ps := ["self", "value"]) fun _ _ _ _ _ _ us hl => match us, hl with | [_, _], _ => rfl
theorem bi_InvalidWindowx_initx {K : PySem.W.Frag} {f : Addr} {fd : FuncData} (F : Fun K "__init__" "InvalidWindow.__init__" s_InvalidWindowx_initx f fd) : Binds K fd ["self", "value"] [] := F.binds (ps := ["self", "value"]) fun _ _ _ _ _ _ us hl => match us, hl with | [_, _], _ => rfl
theorem bi_InvalidWindowsx_initx {K : PySem.W.Frag} {f : Addr} {fd : FuncData} (F : Fun K "__init__" "InvalidWindows.__init__" s_InvalidWindowsx_initx f fd) : Binds K fd ["self", "position"] [] := F.binds (ps := ["self", "position"]) fun _ _ _ _ _ _ us hl => match us, hl with | [_, _], _ => rfl
theorem bi_InvalidUsesx_initx {K : PySem.W.Frag} {f : Addr} {fd : FuncData} (F : Fun K "__init__" "InvalidUses.__init__" s_InvalidUsesx_initx f fd) : Binds K fd ["self", "module"] [] := F.binds (ps := ["self", "module"]) fun _ _ _ _ _ _ us hl => match us, hl with | [_, _], _ => rfl
theorem bi_UnknownModulex_initx {K : PySem.W.Frag} {f : Addr} {fd : FuncData} (F : Fun K "__init__" "UnknownModule.__init__" s_UnknownModulex_initx f fd) : Binds K fd ["self", "value"] [] := F.binds (ps := ["self", "value"]) fun _ _ _ _ _ _ us hl => match us, hl with | [_, _], _ => rfl
theorem bi_UnknownUsex_initx {K : PySem.W.Frag} {f : Addr} {fd : FuncData} (F : Fun K "__init__" "UnknownUse.__init__" s_UnknownUsex_initx f fd) : Binds K fd ["self", "user", "used"] [] := F.binds (ps := ["self", "user", "used"]) fun _ _ _ _ _ _ us hl => match us, hl with | [_, _, _], _ => rfl
theorem bi_UnknownVersionx_initx {K : PySem.W.Frag} {f : Addr} {fd : FuncData} (F : Fun K "__init__" "UnknownVersion.__init__" s_UnknownVersionx_initx f fd) : Binds K fd ["self", "module", "version"] [] := F.binds (ps := ["self", "module", "version"]) fun _ _ _ _ _ _ us hl => match us, hl with | [_, _, _], _ => rfl
theorem bi_NotRisingx_initx {K : PySem.W.Frag} {f : Addr} {fd : FuncData} (F : Fun K "__init__" "NotRising.__init__" s_NotRisingx_initx f fd) : Binds K fd ["self", "user", "used"] [] := F.binds (ps := ["self", "user", "used"]) fun _ _ _ _ _ _ us hl => match us, hl with | [_, _, _], _ => rfl
theorem bi_TooManyx_initx {K : PySem.W.Frag} {f : Addr} {fd : FuncData} (F : Fun K "__init__" "TooMany.__init__" s_TooManyx_initx f fd) : Binds K fd ["self", "kind", "limit"] [] := F.binds (ps := ["self", "kind", "limit"]) fun _ _ _ _ _ _ us hl => match us, hl with | [_, _, _], _ => rfl
theorem bi_NoStatex_initx {K : PySem.W.Frag} {f : Addr} {fd : FuncData} (F : Fun K "__init__" "NoState.__init__" s_NoStatex_initx f fd) : Binds K fd ["self", "chain"] [] := F.binds (ps := ["self", "chain"]) fun _ _ _ _ _ _ us hl => match us, hl with | [_, _], _ => rfl
theorem bi_is_integer {K : PySem.W.Frag} {f : Addr} {fd : FuncData} (F : Fun K "is_integer" "is_integer" s_is_integer f fd) : Binds K fd ["value"] [] := F.binds (ps := ["value"]) fun _ _ _ _ _ _ us hl => match us, hl with | [_], _ => rfl
theorem bi_is_name {K : PySem.W.Frag} {f : Addr} {fd : FuncData} (F : Fun K "is_name" "is_name" s_is_name f fd) : Binds K fd ["value"] [] := F.binds (ps := ["value"]) fun _ _ _ _ _ _ us hl => match us, hl with | [_], _ => rfl
theorem bi_is_version {K : PySem.W.Frag} {f : Addr} {fd : FuncData} (F : Fun K "is_version" "is_version" s_is_version f fd) : Binds K fd ["value"] [] := F.binds (ps := ["value"]) fun _ _ _ _ _ _ us hl => match us, hl with | [_], _ => rfl
theorem bi_is_window {K : PySem.W.Frag} {f : Addr} {fd : FuncData} (F : Fun K "is_window" "is_window" s_is_window f fd) : Binds K fd ["value"] [] := F.binds (ps := ["value"]) fun _ _ _ _ _ _ us hl => match us, hl with | [_], _ => rfl
theorem bi_require_window {K : PySem.W.Frag} {f : Addr} {fd : FuncData} (F : Fun K "require_window" "require_window" s_require_window f fd) : Binds K fd ["value"] [] := F.binds (ps := ["value"]) fun _ _ _ _ _ _ us hl => match us, hl with | [_], _ => rfl
theorem bi_reaches {K : PySem.W.Frag} {f : Addr} {fd : FuncData} (F : Fun K "reaches" "reaches" s_reaches f fd) : Binds K fd ["window", "version"] [] := F.binds (ps := ["window", "version"]) fun _ _ _ _ _ _ us hl => match us, hl with | [_, _], _ => rfl
theorem bi_rises {K : PySem.W.Frag} {f : Addr} {fd : FuncData} (F : Fun K "rises" "rises" s_rises f fd) : Binds K fd ["first", "second"] [] := F.binds (ps := ["first", "second"]) fun _ _ _ _ _ _ us hl => match us, hl with | [_, _], _ => rfl
theorem bi_is_row_of_names {K : PySem.W.Frag} {f : Addr} {fd : FuncData} (F : Fun K "is_row_of_names" "is_row_of_names" s_is_row_of_names f fd) : Binds K fd ["value", "module"] [] := F.binds (ps := ["value", "module"]) fun _ _ _ _ _ _ us hl => match us, hl with | [_, _], _ => rfl
theorem bi_check_uses {K : PySem.W.Frag} {f : Addr} {fd : FuncData} (F : Fun K "check_uses" "check_uses" s_check_uses f fd) : Binds K fd ["uses"] [] := F.binds (ps := ["uses"]) fun _ _ _ _ _ _ us hl => match us, hl with | [_], _ => rfl
theorem bi_check_new_windows {K : PySem.W.Frag} {f : Addr} {fd : FuncData} (F : Fun K "check_new_windows" "check_new_windows" s_check_new_windows f fd) : Binds K fd ["windows", "count"] [] := F.binds (ps := ["windows", "count"]) fun _ _ _ _ _ _ us hl => match us, hl with | [_, _], _ => rfl
theorem bi_Catalogx_initx {K : PySem.W.Frag} {f : Addr} {fd : FuncData} (F : Fun K "__init__" "Catalog.__init__" s_Catalogx_initx f fd) : Binds K fd ["self", "uses"] [] := F.binds (ps := ["self", "uses"]) fun _ _ _ _ _ _ us hl => match us, hl with | [_, _], _ => rfl
theorem bi_Catalog_modules {K : PySem.W.Frag} {f : Addr} {fd : FuncData} (F : Fun K "modules" "Catalog.modules" s_Catalog_modules f fd) : Binds K fd ["self"] [] := F.binds (ps := ["self"]) fun _ _ _ _ _ _ us hl => match us, hl with | [_], _ => rfl
theorem bi_Catalog_uses {K : PySem.W.Frag} {f : Addr} {fd : FuncData} (F : Fun K "uses" "Catalog.uses" s_Catalog_uses f fd) : Binds K fd ["self", "module"] [] := F.binds (ps := ["self", "module"]) fun _ _ _ _ _ _ us hl => match us, hl with | [_, _], _ => rfl
theorem bi_Catalog_versions {K : PySem.W.Frag} {f : Addr} {fd : FuncData} (F : Fun K "versions" "Catalog.versions" s_Catalog_versions f fd) : Binds K fd ["self", "module"] [] := F.binds (ps := ["self", "module"]) fun _ _ _ _ _ _ us hl => match us, hl with | [_, _], _ => rfl
theorem bi_Catalog_publish {K : PySem.W.Frag} {f : Addr} {fd : FuncData} (F : Fun K "publish" "Catalog.publish" s_Catalog_publish f fd) : Binds K fd ["self", "module", "windows"] [] := F.binds (ps := ["self", "module", "windows"]) fun _ _ _ _ _ _ us hl => match us, hl with | [_, _, _], _ => rfl
theorem bi_Catalog_withdraw {K : PySem.W.Frag} {f : Addr} {fd : FuncData} (F : Fun K "withdraw" "Catalog.withdraw" s_Catalog_withdraw f fd) : Binds K fd ["self", "module", "version"] [] := F.binds (ps := ["self", "module", "version"]) fun _ _ _ _ _ _ us hl => match us, hl with | [_, _, _], _ => rfl
theorem bi_Catalog_window {K : PySem.W.Frag} {f : Addr} {fd : FuncData} (F : Fun K "window" "Catalog.window" s_Catalog_window f fd) : Binds K fd ["self", "user", "used", "version"] [] := F.binds (ps := ["self", "user", "used", "version"]) fun _ _ _ _ _ _ us hl => match us, hl with | [_, _, _, _], _ => rfl
theorem bi_Catalog_is_available {K : PySem.W.Frag} {f : Addr} {fd : FuncData} (F : Fun K "is_available" "Catalog.is_available" s_Catalog_is_available f fd) : Binds K fd ["self", "module", "version"] [] := F.binds (ps := ["self", "module", "version"]) fun _ _ _ _ _ _ us hl => match us, hl with | [_, _, _], _ => rfl
theorem bi_Catalog_available {K : PySem.W.Frag} {f : Addr} {fd : FuncData} (F : Fun K "available" "Catalog.available" s_Catalog_available f fd) : Binds K fd ["self", "module"] [] := F.binds (ps := ["self", "module"]) fun _ _ _ _ _ _ us hl => match us, hl with | [_, _], _ => rfl
theorem bi_Catalog_clone {K : PySem.W.Frag} {f : Addr} {fd : FuncData} (F : Fun K "clone" "Catalog.clone" s_Catalog_clone f fd) : Binds K fd ["self"] [] := F.binds (ps := ["self"]) fun _ _ _ _ _ _ us hl => match us, hl with | [_], _ => rfl
theorem bi_Catalogx_eqx {K : PySem.W.Frag} {f : Addr} {fd : FuncData} (F : Fun K "__eq__" "Catalog.__eq__" s_Catalogx_eqx f fd) : Binds K fd ["self", "other"] [] := F.binds (ps := ["self", "other"]) fun _ _ _ _ _ _ us hl => match us, hl with | [_, _], _ => rfl
theorem bi_Catalogx_lenx {K : PySem.W.Frag} {f : Addr} {fd : FuncData} (F : Fun K "__len__" "Catalog.__len__" s_Catalogx_lenx f fd) : Binds K fd ["self"] [] := F.binds (ps := ["self"]) fun _ _ _ _ _ _ us hl => match us, hl with | [_], _ => rfl
theorem bi_require_module {K : PySem.W.Frag} {f : Addr} {fd : FuncData} (F : Fun K "require_module" "require_module" s_require_module f fd) : Binds K fd ["catalog", "value"] [] := F.binds (ps := ["catalog", "value"]) fun _ _ _ _ _ _ us hl => match us, hl with | [_, _], _ => rfl
theorem bi_l_rng {K : PySem.W.Frag} {f : Addr} {fd : FuncData} (F : Fun K "_law_rng" "_law_rng" s_l_rng f fd) : Binds K fd ["_law_script", "_law_k"] [] := F.binds (ps := ["_law_script", "_law_k"]) fun _ _ _ _ _ _ us hl => match us, hl with | [_, _], _ => rfl
theorem bi_l_draw {K : PySem.W.Frag} {f : Addr} {fd : FuncData} (F : Fun K "_law_draw" "_law_draw" s_l_draw f fd) : Binds K fd ["_law_rng_here", "_law_many"] [] := F.binds (ps := ["_law_rng_here", "_law_many"]) fun _ _ _ _ _ _ us hl => match us, hl with | [_, _], _ => rfl
theorem bi_l_choice {K : PySem.W.Frag} {f : Addr} {fd : FuncData} (F : Fun K "_law_choice" "_law_choice" s_l_choice f fd) : Binds K fd ["_law_rng_here", "_law_options"] [] := F.binds (ps := ["_law_rng_here", "_law_options"]) fun _ _ _ _ _ _ us hl => match us, hl with | [_, _], _ => rfl
theorem bi_l_shuffled {K : PySem.W.Frag} {f : Addr} {fd : FuncData} (F : Fun K "_law_shuffled" "_law_shuffled" s_l_shuffled f fd) : Binds K fd ["_law_rng_here", "_law_values"] [] := F.binds (ps := ["_law_rng_here", "_law_values"]) fun _ _ _ _ _ _ us hl => match us, hl with | [_, _], _ => rfl
theorem bi_l_name {K : PySem.W.Frag} {f : Addr} {fd : FuncData} (F : Fun K "_law_name" "_law_name" s_l_name f fd) : Binds K fd ["_law_rng_here", "_law_used"] [] := F.binds (ps := ["_law_rng_here", "_law_used"]) fun _ _ _ _ _ _ us hl => match us, hl with | [_, _], _ => rfl
theorem bi_l_names {K : PySem.W.Frag} {f : Addr} {fd : FuncData} (F : Fun K "_law_names" "_law_names" s_l_names f fd) : Binds K fd ["_law_rng_here", "_law_many", "_law_used"] [] := F.binds (ps := ["_law_rng_here", "_law_many", "_law_used"]) fun _ _ _ _ _ _ us hl => match us, hl with | [_, _, _], _ => rfl
theorem bi_l_uses {K : PySem.W.Frag} {f : Addr} {fd : FuncData} (F : Fun K "_law_uses" "_law_uses" s_l_uses f fd) : Binds K fd ["_law_names_here", "_law_many"] [] := F.binds (ps := ["_law_names_here", "_law_many"]) fun _ _ _ _ _ _ us hl => match us, hl with | [_, _], _ => rfl
theorem bi_l_told {K : PySem.W.Frag} {f : Addr} {fd : FuncData} (F : Fun K "_law_told" "_law_told" s_l_told f fd) : Binds K fd ["_law_call"] [] := F.binds (ps := ["_law_call"]) fun _ _ _ _ _ _ us hl => match us, hl with | [_], _ => rfl
theorem bi_l_filled {K : PySem.W.Frag} {f : Addr} {fd : FuncData} (F : Fun K "_law_filled" "_law_filled" s_l_filled f fd) : Binds K fd ["_law_rng_here", "_law_catalog"] [] := F.binds (ps := ["_law_rng_here", "_law_catalog"]) fun _ _ _ _ _ _ us hl => match us, hl with | [_, _], _ => rfl
theorem bi_l_right {K : PySem.W.Frag} {f : Addr} {fd : FuncData} (F : Fun K "_law_right" "_law_right" s_l_right f fd) : Binds K fd ["_law_rng_here"] [] := F.binds (ps := ["_law_rng_here"]) fun _ _ _ _ _ _ us hl => match us, hl with | [_], _ => rfl
theorem bi_law {K : PySem.W.Frag} {f : Addr} {fd : FuncData} (F : Fun K "law" "law" s_law f fd) : Binds K fd ["_law_script"] [] := F.binds (ps := ["_law_script"]) fun _ _ _ _ _ _ us hl => match us, hl with | [_], _ => rfl
def csH (A : Ad) : List (Addr × Addr) := [(A.cc_l_right, A.p_l_right)]
theorem txtH {K : PySem.W.Frag} {h : Heap} {mg : Str → Option Value} (G : h.Ns mainGlobals mg) (c : SaysH faL fnL tbL K h) : ∃ A : Ad, Txt K mg A ∧ (∀ q ∈ csH A, h.get? q.2 = some tabO ∧ K.lookup q.2 = none ∧ PySem.W.codeHdIn K q.1 q.2 = true) ∧ ∀ (s : Shared) (u : Value), BindsTo s A.d_law ⟨[u], []⟩ [("_law_script", u)] := by
  have X := c.inK
  have D0 := c.def_ 0 (st := s_InvalidNamex_initx) (p := ("InvalidName", some "__init__")) (x := "__init__") (q := "InvalidName.__init__")
  have D1 := c.def_ 1 (st := s_InvalidWindowx_initx) (p := ("InvalidWindow", some "__init__")) (x := "__init__") (q := "InvalidWindow.__init__")
  have D2 := c.def_ 2 (st := s_InvalidWindowsx_initx) (p := ("InvalidWindows", some "__init__")) (x := "__init__") (q := "InvalidWindows.__init__")
  have D3 := c.def_ 3 (st := s_InvalidUsesx_initx) (p := ("InvalidUses", some "__init__")) (x := "__init__") (q := "InvalidUses.__init__")
  have D4 := c.def_ 4 (st := s_UnknownModulex_initx) (p := ("UnknownModule", some "__init__")) (x := "__init__") (q := "UnknownModule.__init__")
  have D5 := c.def_ 5 (st := s_UnknownUsex_initx) (p := ("UnknownUse", some "__init__")) (x := "__init__") (q := "UnknownUse.__init__")
  have D6 := c.def_ 6 (st := s_UnknownVersionx_initx) (p := ("UnknownVersion", some "__init__")) (x := "__init__") (q := "UnknownVersion.__init__")
  have D7 := c.def_ 7 (st := s_NotRisingx_initx) (p := ("NotRising", some "__init__")) (x := "__init__") (q := "NotRising.__init__")
  have D8 := c.def_ 8 (st := s_TooManyx_initx) (p := ("TooMany", some "__init__")) (x := "__init__") (q := "TooMany.__init__")
  have D9 := c.def_ 9 (st := s_NoStatex_initx) (p := ("NoState", some "__init__")) (x := "__init__") (q := "NoState.__init__")
  have D10 := c.def_ 10 (st := s_is_integer) (p := ("is_integer", none)) (x := "is_integer") (q := "is_integer")
  have D11 := c.def_ 11 (st := s_is_name) (p := ("is_name", none)) (x := "is_name") (q := "is_name")
  have D12 := c.def_ 12 (st := s_is_version) (p := ("is_version", none)) (x := "is_version") (q := "is_version")
  have D13 := c.def_ 13 (st := s_is_window) (p := ("is_window", none)) (x := "is_window") (q := "is_window")
  have D14 := c.def_ 14 (st := s_require_window) (p := ("require_window", none)) (x := "require_window") (q := "require_window")
  have D15 := c.def_ 15 (st := s_reaches) (p := ("reaches", none)) (x := "reaches") (q := "reaches")
  have D16 := c.def_ 16 (st := s_rises) (p := ("rises", none)) (x := "rises") (q := "rises")
  have D17 := c.def_ 17 (st := s_is_row_of_names) (p := ("is_row_of_names", none)) (x := "is_row_of_names") (q := "is_row_of_names")
  have D18 := c.def_ 18 (st := s_check_uses) (p := ("check_uses", none)) (x := "check_uses") (q := "check_uses")
  have D19 := c.def_ 19 (st := s_check_new_windows) (p := ("check_new_windows", none)) (x := "check_new_windows") (q := "check_new_windows")
  have D20 := c.def_ 20 (st := s_Catalogx_initx) (p := ("Catalog", some "__init__")) (x := "__init__") (q := "Catalog.__init__")
  have D21 := c.def_ 21 (st := s_Catalog_modules) (p := ("Catalog", some "modules")) (x := "modules") (q := "Catalog.modules")
  have D22 := c.def_ 22 (st := s_Catalog_uses) (p := ("Catalog", some "uses")) (x := "uses") (q := "Catalog.uses")
  have D23 := c.def_ 23 (st := s_Catalog_versions) (p := ("Catalog", some "versions")) (x := "versions") (q := "Catalog.versions")
  have D24 := c.def_ 24 (st := s_Catalog_publish) (p := ("Catalog", some "publish")) (x := "publish") (q := "Catalog.publish")
  have D25 := c.def_ 25 (st := s_Catalog_withdraw) (p := ("Catalog", some "withdraw")) (x := "withdraw") (q := "Catalog.withdraw")
  have D26 := c.def_ 26 (st := s_Catalog_window) (p := ("Catalog", some "window")) (x := "window") (q := "Catalog.window")
  have D27 := c.def_ 27 (st := s_Catalog_is_available) (p := ("Catalog", some "is_available")) (x := "is_available") (q := "Catalog.is_available")
  have D28 := c.def_ 28 (st := s_Catalog_available) (p := ("Catalog", some "available")) (x := "available") (q := "Catalog.available")
  have D29 := c.def_ 29 (st := s_Catalog_clone) (p := ("Catalog", some "clone")) (x := "clone") (q := "Catalog.clone")
  have D30 := c.def_ 30 (st := s_Catalogx_eqx) (p := ("Catalog", some "__eq__")) (x := "__eq__") (q := "Catalog.__eq__")
  have D31 := c.def_ 31 (st := s_Catalogx_lenx) (p := ("Catalog", some "__len__")) (x := "__len__") (q := "Catalog.__len__")
  have D32 := c.def_ 32 (st := s_require_module) (p := ("require_module", none)) (x := "require_module") (q := "require_module")
  have D33 := c.def_ 33 (st := s_l_rng) (p := ("_law_rng", none)) (x := "_law_rng") (q := "_law_rng")
  have D34 := c.def_ 34 (st := s_l_draw) (p := ("_law_draw", none)) (x := "_law_draw") (q := "_law_draw")
  have D35 := c.def_ 35 (st := s_l_choice) (p := ("_law_choice", none)) (x := "_law_choice") (q := "_law_choice")
  have D36 := c.def_ 36 (st := s_l_shuffled) (p := ("_law_shuffled", none)) (x := "_law_shuffled") (q := "_law_shuffled")
  have D37 := c.def_ 37 (st := s_l_name) (p := ("_law_name", none)) (x := "_law_name") (q := "_law_name")
  have D38 := c.def_ 38 (st := s_l_names) (p := ("_law_names", none)) (x := "_law_names") (q := "_law_names")
  have D39 := c.def_ 39 (st := s_l_uses) (p := ("_law_uses", none)) (x := "_law_uses") (q := "_law_uses")
  have D40 := c.def_ 40 (st := s_l_told) (p := ("_law_told", none)) (x := "_law_told") (q := "_law_told")
  have D41 := c.def_ 41 (st := s_l_filled) (p := ("_law_filled", none)) (x := "_law_filled") (q := "_law_filled")
  have D42 := c.def_ 42 (st := s_l_right) (p := ("_law_right", none)) (x := "_law_right") (q := "_law_right")
  have D43 := c.def_ 43 (st := s_law) (p := ("law", none)) (x := "law") (q := "law")
  have tb42 := c.tabs ("_law_right", none) (.head _)
  have C42 := defC_of D42 tb42.2.2

  have T : Txt K mg ⟨He.fAd K ("InvalidName", some "__init__"), D0.fd, He.fAd K ("InvalidWindow", some "__init__"), D1.fd, He.fAd K ("InvalidWindows", some "__init__"), D2.fd, He.fAd K ("InvalidUses", some "__init__"), D3.fd, He.fAd K ("UnknownModule", some "__init__"), D4.fd, He.fAd K ("UnknownUse", some "__init__"), D5.fd, He.fAd K ("UnknownVersion", some "__init__"), D6.fd, He.fAd K ("NotRising", some "__init__"), D7.fd, He.fAd K ("TooMany", some "__init__"), D8.fd, He.fAd K ("NoState", some "__init__"), D9.fd, He.fAd K ("is_integer", none), D10.fd, He.fAd K ("is_name", none), D11.fd, He.fAd K ("is_version", none), D12.fd, He.fAd K ("is_window", none), D13.fd, He.fAd K ("require_window", none), D14.fd, He.fAd K ("reaches", none), D15.fd, He.fAd K ("rises", none), D16.fd, He.fAd K ("is_row_of_names", none), D17.fd, He.fAd K ("check_uses", none), D18.fd, He.fAd K ("check_new_windows", none), D19.fd, He.fAd K ("Catalog", some "__init__"), D20.fd, He.fAd K ("Catalog", some "modules"), D21.fd, He.fAd K ("Catalog", some "uses"), D22.fd, He.fAd K ("Catalog", some "versions"), D23.fd, He.fAd K ("Catalog", some "publish"), D24.fd, He.fAd K ("Catalog", some "withdraw"), D25.fd, He.fAd K ("Catalog", some "window"), D26.fd, He.fAd K ("Catalog", some "is_available"), D27.fd, He.fAd K ("Catalog", some "available"), D28.fd, He.fAd K ("Catalog", some "clone"), D29.fd, He.fAd K ("Catalog", some "__eq__"), D30.fd, He.fAd K ("Catalog", some "__len__"), D31.fd, He.fAd K ("require_module", none), D32.fd, He.fAd K ("_law_rng", none), D33.fd, He.fAd K ("_law_draw", none), D34.fd, He.fAd K ("_law_choice", none), D35.fd, He.fAd K ("_law_shuffled", none), D36.fd, He.fAd K ("_law_name", none), D37.fd, He.fAd K ("_law_names", none), D38.fd, He.fAd K ("_law_uses", none), D39.fd, He.fAd K ("_law_told", none), D40.fd, He.fAd K ("_law_filled", none), D41.fd, He.fAd K ("_law_right", none), C42.fd, He.fAd K ("law", none), D43.fd, codeAt K (He.fAd K ("_law_right", none)), tabOf K (codeAt K (He.fAd K ("_law_right", none))), tokOf K "LETTERS", tokOf K "MAX_LETTERS", tokOf K "MOST_MODULES", tokOf K "MOST_VERSIONS", tokOf K "MOST_USES", He.ga K "GroupError", He.ga K "InvalidName", He.ga K "InvalidWindow", He.ga K "InvalidWindows", He.ga K "InvalidUses", He.ga K "Missing", He.ga K "UnknownModule", He.ga K "UnknownUse", He.ga K "UnknownVersion", He.ga K "Refused", He.ga K "NotRising", He.ga K "LimitReached", He.ga K "TooMany", He.ga K "NoState", He.ga K "Catalog"⟩ := {
    F_InvalidNamex_initx := D0.F,
    b_InvalidNamex_initx := bi_InvalidNamex_initx D0.F,
    F_InvalidWindowx_initx := D1.F,
    b_InvalidWindowx_initx := bi_InvalidWindowx_initx D1.F,
    F_InvalidWindowsx_initx := D2.F,
    b_InvalidWindowsx_initx := bi_InvalidWindowsx_initx D2.F,
    F_InvalidUsesx_initx := D3.F,
    b_InvalidUsesx_initx := bi_InvalidUsesx_initx D3.F,
    F_UnknownModulex_initx := D4.F,
    b_UnknownModulex_initx := bi_UnknownModulex_initx D4.F,
    F_UnknownUsex_initx := D5.F,
    b_UnknownUsex_initx := bi_UnknownUsex_initx D5.F,
    F_UnknownVersionx_initx := D6.F,
    b_UnknownVersionx_initx := bi_UnknownVersionx_initx D6.F,
    F_NotRisingx_initx := D7.F,
    b_NotRisingx_initx := bi_NotRisingx_initx D7.F,
    F_TooManyx_initx := D8.F,
    b_TooManyx_initx := bi_TooManyx_initx D8.F,
    F_NoStatex_initx := D9.F,
    b_NoStatex_initx := bi_NoStatex_initx D9.F,
    F_is_integer := D10.F,
    g_is_integer := glo_of X G (c.at_ (f := gloB "is_integer" (fun K => He.fAd K ("is_integer", none))) 10),
    b_is_integer := bi_is_integer D10.F,
    F_is_name := D11.F,
    g_is_name := glo_of X G (c.at_ (f := gloB "is_name" (fun K => He.fAd K ("is_name", none))) 11),
    b_is_name := bi_is_name D11.F,
    F_is_version := D12.F,
    g_is_version := glo_of X G (c.at_ (f := gloB "is_version" (fun K => He.fAd K ("is_version", none))) 12),
    b_is_version := bi_is_version D12.F,
    F_is_window := D13.F,
    g_is_window := glo_of X G (c.at_ (f := gloB "is_window" (fun K => He.fAd K ("is_window", none))) 13),
    b_is_window := bi_is_window D13.F,
    F_require_window := D14.F,
    g_require_window := glo_of X G (c.at_ (f := gloB "require_window" (fun K => He.fAd K ("require_window", none))) 14),
    b_require_window := bi_require_window D14.F,
    F_reaches := D15.F,
    g_reaches := glo_of X G (c.at_ (f := gloB "reaches" (fun K => He.fAd K ("reaches", none))) 15),
    b_reaches := bi_reaches D15.F,
    F_rises := D16.F,
    g_rises := glo_of X G (c.at_ (f := gloB "rises" (fun K => He.fAd K ("rises", none))) 16),
    b_rises := bi_rises D16.F,
    F_is_row_of_names := D17.F,
    g_is_row_of_names := glo_of X G (c.at_ (f := gloB "is_row_of_names" (fun K => He.fAd K ("is_row_of_names", none))) 17),
    b_is_row_of_names := bi_is_row_of_names D17.F,
    F_check_uses := D18.F,
    g_check_uses := glo_of X G (c.at_ (f := gloB "check_uses" (fun K => He.fAd K ("check_uses", none))) 18),
    b_check_uses := bi_check_uses D18.F,
    F_check_new_windows := D19.F,
    g_check_new_windows := glo_of X G (c.at_ (f := gloB "check_new_windows" (fun K => He.fAd K ("check_new_windows", none))) 19),
    b_check_new_windows := bi_check_new_windows D19.F,
    F_Catalogx_initx := D20.F,
    b_Catalogx_initx := bi_Catalogx_initx D20.F,
    F_Catalog_modules := D21.F,
    b_Catalog_modules := bi_Catalog_modules D21.F,
    F_Catalog_uses := D22.F,
    b_Catalog_uses := bi_Catalog_uses D22.F,
    F_Catalog_versions := D23.F,
    b_Catalog_versions := bi_Catalog_versions D23.F,
    F_Catalog_publish := D24.F,
    b_Catalog_publish := bi_Catalog_publish D24.F,
    F_Catalog_withdraw := D25.F,
    b_Catalog_withdraw := bi_Catalog_withdraw D25.F,
    F_Catalog_window := D26.F,
    b_Catalog_window := bi_Catalog_window D26.F,
    F_Catalog_is_available := D27.F,
    b_Catalog_is_available := bi_Catalog_is_available D27.F,
    F_Catalog_available := D28.F,
    b_Catalog_available := bi_Catalog_available D28.F,
    F_Catalog_clone := D29.F,
    b_Catalog_clone := bi_Catalog_clone D29.F,
    F_Catalogx_eqx := D30.F,
    b_Catalogx_eqx := bi_Catalogx_eqx D30.F,
    F_Catalogx_lenx := D31.F,
    b_Catalogx_lenx := bi_Catalogx_lenx D31.F,
    F_require_module := D32.F,
    g_require_module := glo_of X G (c.at_ (f := gloB "require_module" (fun K => He.fAd K ("require_module", none))) 32),
    b_require_module := bi_require_module D32.F,
    F_l_rng := D33.F,
    g_l_rng := glo_of X G (c.at_ (f := gloB "_law_rng" (fun K => He.fAd K ("_law_rng", none))) 33),
    b_l_rng := bi_l_rng D33.F,
    F_l_draw := D34.F,
    g_l_draw := glo_of X G (c.at_ (f := gloB "_law_draw" (fun K => He.fAd K ("_law_draw", none))) 34),
    b_l_draw := bi_l_draw D34.F,
    F_l_choice := D35.F,
    g_l_choice := glo_of X G (c.at_ (f := gloB "_law_choice" (fun K => He.fAd K ("_law_choice", none))) 35),
    b_l_choice := bi_l_choice D35.F,
    F_l_shuffled := D36.F,
    g_l_shuffled := glo_of X G (c.at_ (f := gloB "_law_shuffled" (fun K => He.fAd K ("_law_shuffled", none))) 36),
    b_l_shuffled := bi_l_shuffled D36.F,
    F_l_name := D37.F,
    g_l_name := glo_of X G (c.at_ (f := gloB "_law_name" (fun K => He.fAd K ("_law_name", none))) 37),
    b_l_name := bi_l_name D37.F,
    F_l_names := D38.F,
    g_l_names := glo_of X G (c.at_ (f := gloB "_law_names" (fun K => He.fAd K ("_law_names", none))) 38),
    b_l_names := bi_l_names D38.F,
    F_l_uses := D39.F,
    g_l_uses := glo_of X G (c.at_ (f := gloB "_law_uses" (fun K => He.fAd K ("_law_uses", none))) 39),
    b_l_uses := bi_l_uses D39.F,
    F_l_told := D40.F,
    g_l_told := glo_of X G (c.at_ (f := gloB "_law_told" (fun K => He.fAd K ("_law_told", none))) 40),
    b_l_told := bi_l_told D40.F,
    F_l_filled := D41.F,
    g_l_filled := glo_of X G (c.at_ (f := gloB "_law_filled" (fun K => He.fAd K ("_law_filled", none))) 41),
    b_l_filled := bi_l_filled D41.F,
    F_l_right := C42.F,
    g_l_right := glo_of X G (c.at_ (f := gloB "_law_right" (fun K => He.fAd K ("_law_right", none))) 42),
    b_l_right := bi_l_right C42.F,
    F_law := D43.F,
    g_law := glo_of X G (c.at_ (f := gloB "law" (fun K => He.fAd K ("law", none))) 43),
    b_law := bi_law D43.F,
    C_l_right := C42.C,
    c_LETTERS := str_of X G (c.at_ (f := strB "LETTERS" "abcdefghijklmnopqrstuvwxyz") 44),
    c_MAX_LETTERS := int_of X G (c.at_ (f := intB "MAX_LETTERS" (8)) 45),
    c_MOST_MODULES := int_of X G (c.at_ (f := intB "MOST_MODULES" (12)) 46),
    c_MOST_VERSIONS := int_of X G (c.at_ (f := intB "MOST_VERSIONS" (16)) 47),
    c_MOST_USES := int_of X G (c.at_ (f := intB "MOST_USES" (40)) 48),
    m_ArithmeticError := free_of X G (c.at_ (f := freeB "ArithmeticError") 49),
    m_abs := free_of X G (c.at_ (f := freeB "abs") 50),
    m_all := free_of X G (c.at_ (f := freeB "all") 51),
    m_bool := free_of X G (c.at_ (f := freeB "bool") 52),
    m_dict := free_of X G (c.at_ (f := freeB "dict") 53),
    m_divmod := free_of X G (c.at_ (f := freeB "divmod") 54),
    m_enumerate := free_of X G (c.at_ (f := freeB "enumerate") 55),
    m_int := free_of X G (c.at_ (f := freeB "int") 56),
    m_isinstance := free_of X G (c.at_ (f := freeB "isinstance") 57),
    m_len := free_of X G (c.at_ (f := freeB "len") 58),
    m_list := free_of X G (c.at_ (f := freeB "list") 59),
    m_max := free_of X G (c.at_ (f := freeB "max") 60),
    m_min := free_of X G (c.at_ (f := freeB "min") 61),
    m_range := free_of X G (c.at_ (f := freeB "range") 62),
    m_repr := free_of X G (c.at_ (f := freeB "repr") 63),
    m_str := free_of X G (c.at_ (f := freeB "str") 64),
    m_sum := free_of X G (c.at_ (f := freeB "sum") 65),
    m_tuple := free_of X G (c.at_ (f := freeB "tuple") 66),
    m_zip := free_of X G (c.at_ (f := freeB "zip") 67),
    gX_GroupError := glo_of X G (c.at_ (f := gloB "GroupError" (fun K => He.ga K "GroupError")) 68),
    gX_InvalidName := glo_of X G (c.at_ (f := gloB "InvalidName" (fun K => He.ga K "InvalidName")) 69),
    gX_InvalidWindow := glo_of X G (c.at_ (f := gloB "InvalidWindow" (fun K => He.ga K "InvalidWindow")) 70),
    gX_InvalidWindows := glo_of X G (c.at_ (f := gloB "InvalidWindows" (fun K => He.ga K "InvalidWindows")) 71),
    gX_InvalidUses := glo_of X G (c.at_ (f := gloB "InvalidUses" (fun K => He.ga K "InvalidUses")) 72),
    gX_Missing := glo_of X G (c.at_ (f := gloB "Missing" (fun K => He.ga K "Missing")) 73),
    gX_UnknownModule := glo_of X G (c.at_ (f := gloB "UnknownModule" (fun K => He.ga K "UnknownModule")) 74),
    gX_UnknownUse := glo_of X G (c.at_ (f := gloB "UnknownUse" (fun K => He.ga K "UnknownUse")) 75),
    gX_UnknownVersion := glo_of X G (c.at_ (f := gloB "UnknownVersion" (fun K => He.ga K "UnknownVersion")) 76),
    gX_Refused := glo_of X G (c.at_ (f := gloB "Refused" (fun K => He.ga K "Refused")) 77),
    gX_NotRising := glo_of X G (c.at_ (f := gloB "NotRising" (fun K => He.ga K "NotRising")) 78),
    gX_LimitReached := glo_of X G (c.at_ (f := gloB "LimitReached" (fun K => He.ga K "LimitReached")) 79),
    gX_TooMany := glo_of X G (c.at_ (f := gloB "TooMany" (fun K => He.ga K "TooMany")) 80),
    gX_NoState := glo_of X G (c.at_ (f := gloB "NoState" (fun K => He.ga K "NoState")) 81),
    gX_Catalog := glo_of X G (c.at_ (f := gloB "Catalog" (fun K => He.ga K "Catalog")) 82),
    cl_Catalog := cls_of (c.at_ (f := fun K => clsB K (He.ga K "Catalog")) 83),
    ic_Catalog := ic_of (c.at_ (f := fun K => clsB K (He.ga K "Catalog")) 83) (c.at_ (f := fun K => icB K (He.ga K "Catalog")) 84),
    neq_Catalog := beq_iff_eq.mp (c.at_ (f := fun K => PySem.W.findIn K (.ref (He.ga K "Catalog")) "__ne__" == some (some (.builtin "object.__ne__"))) 85),
    mk_Catalog := mk_of (c.at_ (f := fun K => clsB K (He.ga K "Catalog")) 83) (met_of (c.at_ (f := metB "Catalog" "__init__") 20)) (ty_of (c.at_ (f := fun K => tyB K (He.fAd K ("Catalog", some "__init__"))) 87)),
    na_Catalog_use_table := na_of (c.at_ (f := fun K => naB K (He.ga K "Catalog") ["use_table", "window_table", "count_table", "withdrawn_table", "record"]) 86) (List.mem_of_getElem? (i := 0) rfl),
    na_Catalog_window_table := na_of (c.at_ (f := fun K => naB K (He.ga K "Catalog") ["use_table", "window_table", "count_table", "withdrawn_table", "record"]) 86) (List.mem_of_getElem? (i := 1) rfl),
    na_Catalog_count_table := na_of (c.at_ (f := fun K => naB K (He.ga K "Catalog") ["use_table", "window_table", "count_table", "withdrawn_table", "record"]) 86) (List.mem_of_getElem? (i := 2) rfl),
    na_Catalog_withdrawn_table := na_of (c.at_ (f := fun K => naB K (He.ga K "Catalog") ["use_table", "window_table", "count_table", "withdrawn_table", "record"]) 86) (List.mem_of_getElem? (i := 3) rfl),
    na_Catalog_record := na_of (c.at_ (f := fun K => naB K (He.ga K "Catalog") ["use_table", "window_table", "count_table", "withdrawn_table", "record"]) 86) (List.mem_of_getElem? (i := 4) rfl),
    mt_Catalogx_initx := meth_of (met_of (c.at_ (f := metB "Catalog" "__init__") 20)) (ty_of (c.at_ (f := fun K => tyB K (He.fAd K ("Catalog", some "__init__"))) 87)) D20.F.kp,
    mt_Catalog_modules := meth_of (met_of (c.at_ (f := metB "Catalog" "modules") 21)) (ty_of (c.at_ (f := fun K => tyB K (He.fAd K ("Catalog", some "modules"))) 88)) D21.F.kp,
    mt_Catalog_uses := meth_of (met_of (c.at_ (f := metB "Catalog" "uses") 22)) (ty_of (c.at_ (f := fun K => tyB K (He.fAd K ("Catalog", some "uses"))) 89)) D22.F.kp,
    mt_Catalog_versions := meth_of (met_of (c.at_ (f := metB "Catalog" "versions") 23)) (ty_of (c.at_ (f := fun K => tyB K (He.fAd K ("Catalog", some "versions"))) 90)) D23.F.kp,
    mt_Catalog_publish := meth_of (met_of (c.at_ (f := metB "Catalog" "publish") 24)) (ty_of (c.at_ (f := fun K => tyB K (He.fAd K ("Catalog", some "publish"))) 91)) D24.F.kp,
    mt_Catalog_withdraw := meth_of (met_of (c.at_ (f := metB "Catalog" "withdraw") 25)) (ty_of (c.at_ (f := fun K => tyB K (He.fAd K ("Catalog", some "withdraw"))) 92)) D25.F.kp,
    mt_Catalog_window := meth_of (met_of (c.at_ (f := metB "Catalog" "window") 26)) (ty_of (c.at_ (f := fun K => tyB K (He.fAd K ("Catalog", some "window"))) 93)) D26.F.kp,
    mt_Catalog_is_available := meth_of (met_of (c.at_ (f := metB "Catalog" "is_available") 27)) (ty_of (c.at_ (f := fun K => tyB K (He.fAd K ("Catalog", some "is_available"))) 94)) D27.F.kp,
    mt_Catalog_available := meth_of (met_of (c.at_ (f := metB "Catalog" "available") 28)) (ty_of (c.at_ (f := fun K => tyB K (He.fAd K ("Catalog", some "available"))) 95)) D28.F.kp,
    mt_Catalog_clone := meth_of (met_of (c.at_ (f := metB "Catalog" "clone") 29)) (ty_of (c.at_ (f := fun K => tyB K (He.fAd K ("Catalog", some "clone"))) 96)) D29.F.kp,
    mt_Catalogx_eqx := meth_of (met_of (c.at_ (f := metB "Catalog" "__eq__") 30)) (ty_of (c.at_ (f := fun K => tyB K (He.fAd K ("Catalog", some "__eq__"))) 97)) D30.F.kp,
    mt_Catalogx_lenx := meth_of (met_of (c.at_ (f := metB "Catalog" "__len__") 31)) (ty_of (c.at_ (f := fun K => tyB K (He.fAd K ("Catalog", some "__len__"))) 98)) D31.F.kp,
    cg := cg_of (c.at_ (f := cgB) 100),
    sys := sys_of (c.at_ (f := sysB) 99),
    EX_GroupError := exT_of baseV (c.at_ (f := fun K => exB K (He.ga K "GroupError") "ValueError.__new__" (tailOf "ValueError")) 101),
    EX_InvalidName := exT_of baseV (c.at_ (f := fun K => exB K (He.ga K "InvalidName") "ValueError.__new__" (tailOf "ValueError")) 105),
    EX_InvalidWindow := exT_of baseV (c.at_ (f := fun K => exB K (He.ga K "InvalidWindow") "ValueError.__new__" (tailOf "ValueError")) 110),
    EX_InvalidWindows := exT_of baseV (c.at_ (f := fun K => exB K (He.ga K "InvalidWindows") "ValueError.__new__" (tailOf "ValueError")) 115),
    EX_InvalidUses := exT_of baseV (c.at_ (f := fun K => exB K (He.ga K "InvalidUses") "ValueError.__new__" (tailOf "ValueError")) 120),
    EX_Missing := exT_of baseL (c.at_ (f := fun K => exB K (He.ga K "Missing") "LookupError.__new__" (tailOf "LookupError")) 125),
    EX_UnknownModule := exT_of baseL (c.at_ (f := fun K => exB K (He.ga K "UnknownModule") "LookupError.__new__" (tailOf "LookupError")) 129),
    EX_UnknownUse := exT_of baseL (c.at_ (f := fun K => exB K (He.ga K "UnknownUse") "LookupError.__new__" (tailOf "LookupError")) 134),
    EX_UnknownVersion := exT_of baseL (c.at_ (f := fun K => exB K (He.ga K "UnknownVersion") "LookupError.__new__" (tailOf "LookupError")) 139),
    EX_Refused := exT_of baseR (c.at_ (f := fun K => exB K (He.ga K "Refused") "RuntimeError.__new__" (tailOf "RuntimeError")) 144),
    EX_NotRising := exT_of baseR (c.at_ (f := fun K => exB K (He.ga K "NotRising") "RuntimeError.__new__" (tailOf "RuntimeError")) 148),
    EX_LimitReached := exT_of baseA (c.at_ (f := fun K => exB K (He.ga K "LimitReached") "ArithmeticError.__new__" (tailOf "ArithmeticError")) 153),
    EX_TooMany := exT_of baseA (c.at_ (f := fun K => exB K (He.ga K "TooMany") "ArithmeticError.__new__" (tailOf "ArithmeticError")) 157),
    EX_NoState := exT_of baseA (c.at_ (f := fun K => exB K (He.ga K "NoState") "ArithmeticError.__new__" (tailOf "ArithmeticError")) 162),
    IB_GroupError := ib_of (c.at_ (f := fun K => ibB K (He.ga K "GroupError") "ValueError.__init__") 104),
    IB_LimitReached := ib_of (c.at_ (f := fun K => ibB K (He.ga K "LimitReached") "ArithmeticError.__init__") 156),
    IB_Missing := ib_of (c.at_ (f := fun K => ibB K (He.ga K "Missing") "LookupError.__init__") 128),
    IB_Refused := ib_of (c.at_ (f := fun K => ibB K (He.ga K "Refused") "RuntimeError.__init__") 147),
    ki_GroupError_GroupError := ki_of (c.at_ (f := fun K => kiB K (He.ga K "GroupError") (rowL (kiLH K) 1)) 103) (List.mem_of_getElem? (i := 0) rfl),
    ki_GroupError_Missing := ki_of (c.at_ (f := fun K => kiB K (He.ga K "GroupError") (rowL (kiLH K) 1)) 103) (List.mem_of_getElem? (i := 1) rfl),
    ki_GroupError_Refused := ki_of (c.at_ (f := fun K => kiB K (He.ga K "GroupError") (rowL (kiLH K) 1)) 103) (List.mem_of_getElem? (i := 2) rfl),
    ki_GroupError_NoState := ki_of (c.at_ (f := fun K => kiB K (He.ga K "GroupError") (rowL (kiLH K) 1)) 103) (List.mem_of_getElem? (i := 3) rfl),
    ki_GroupError_ArithmeticError := ki_of (c.at_ (f := fun K => kiB K (He.ga K "GroupError") (rowL (kiLH K) 1)) 103) (List.mem_of_getElem? (i := 4) rfl),
    ki_GroupError_LimitReached := ki_of (c.at_ (f := fun K => kiB K (He.ga K "GroupError") (rowL (kiLH K) 1)) 103) (List.mem_of_getElem? (i := 5) rfl),
    su_GroupError_TooMany := su_of (c.at_ (f := fun K => suB K (He.ga K "GroupError") (rowL (exL K) 0)) 102) (List.mem_of_getElem? (i := 0) rfl),
    su_GroupError_NotRising := su_of (c.at_ (f := fun K => suB K (He.ga K "GroupError") (rowL (exL K) 0)) 102) (List.mem_of_getElem? (i := 1) rfl),
    su_GroupError_InvalidWindows := su_of (c.at_ (f := fun K => suB K (He.ga K "GroupError") (rowL (exL K) 0)) 102) (List.mem_of_getElem? (i := 2) rfl),
    iC_InvalidName := met_of (c.at_ (f := metB "InvalidName" "__init__") 0),
    tI_InvalidName := ty_of (c.at_ (f := fun K => tyB K (He.fAd K ("InvalidName", some "__init__"))) 109),
    tk_InvalidName_value := (fd_of (c.at_ (f := fun K => fdB K (He.ga K "InvalidName") ["value"]) 106) (List.mem_of_getElem? (i := 0) rfl)).1,
    nf_InvalidName_value := (fd_of (c.at_ (f := fun K => fdB K (He.ga K "InvalidName") ["value"]) 106) (List.mem_of_getElem? (i := 0) rfl)).2,
    ki_InvalidName_GroupError := ki_of (c.at_ (f := fun K => kiB K (He.ga K "InvalidName") (rowL (kiLH K) 1)) 108) (List.mem_of_getElem? (i := 0) rfl),
    ki_InvalidName_Missing := ki_of (c.at_ (f := fun K => kiB K (He.ga K "InvalidName") (rowL (kiLH K) 1)) 108) (List.mem_of_getElem? (i := 1) rfl),
    ki_InvalidName_Refused := ki_of (c.at_ (f := fun K => kiB K (He.ga K "InvalidName") (rowL (kiLH K) 1)) 108) (List.mem_of_getElem? (i := 2) rfl),
    ki_InvalidName_NoState := ki_of (c.at_ (f := fun K => kiB K (He.ga K "InvalidName") (rowL (kiLH K) 1)) 108) (List.mem_of_getElem? (i := 3) rfl),
    ki_InvalidName_ArithmeticError := ki_of (c.at_ (f := fun K => kiB K (He.ga K "InvalidName") (rowL (kiLH K) 1)) 108) (List.mem_of_getElem? (i := 4) rfl),
    ki_InvalidName_LimitReached := ki_of (c.at_ (f := fun K => kiB K (He.ga K "InvalidName") (rowL (kiLH K) 1)) 108) (List.mem_of_getElem? (i := 5) rfl),
    su_InvalidName_TooMany := su_of (c.at_ (f := fun K => suB K (He.ga K "InvalidName") (rowL (exL K) 0)) 107) (List.mem_of_getElem? (i := 0) rfl),
    su_InvalidName_NotRising := su_of (c.at_ (f := fun K => suB K (He.ga K "InvalidName") (rowL (exL K) 0)) 107) (List.mem_of_getElem? (i := 1) rfl),
    su_InvalidName_InvalidWindows := su_of (c.at_ (f := fun K => suB K (He.ga K "InvalidName") (rowL (exL K) 0)) 107) (List.mem_of_getElem? (i := 2) rfl),
    iC_InvalidWindow := met_of (c.at_ (f := metB "InvalidWindow" "__init__") 1),
    tI_InvalidWindow := ty_of (c.at_ (f := fun K => tyB K (He.fAd K ("InvalidWindow", some "__init__"))) 114),
    tk_InvalidWindow_value := (fd_of (c.at_ (f := fun K => fdB K (He.ga K "InvalidWindow") ["value"]) 111) (List.mem_of_getElem? (i := 0) rfl)).1,
    nf_InvalidWindow_value := (fd_of (c.at_ (f := fun K => fdB K (He.ga K "InvalidWindow") ["value"]) 111) (List.mem_of_getElem? (i := 0) rfl)).2,
    ki_InvalidWindow_GroupError := ki_of (c.at_ (f := fun K => kiB K (He.ga K "InvalidWindow") (rowL (kiLH K) 1)) 113) (List.mem_of_getElem? (i := 0) rfl),
    ki_InvalidWindow_Missing := ki_of (c.at_ (f := fun K => kiB K (He.ga K "InvalidWindow") (rowL (kiLH K) 1)) 113) (List.mem_of_getElem? (i := 1) rfl),
    ki_InvalidWindow_Refused := ki_of (c.at_ (f := fun K => kiB K (He.ga K "InvalidWindow") (rowL (kiLH K) 1)) 113) (List.mem_of_getElem? (i := 2) rfl),
    ki_InvalidWindow_NoState := ki_of (c.at_ (f := fun K => kiB K (He.ga K "InvalidWindow") (rowL (kiLH K) 1)) 113) (List.mem_of_getElem? (i := 3) rfl),
    ki_InvalidWindow_ArithmeticError := ki_of (c.at_ (f := fun K => kiB K (He.ga K "InvalidWindow") (rowL (kiLH K) 1)) 113) (List.mem_of_getElem? (i := 4) rfl),
    ki_InvalidWindow_LimitReached := ki_of (c.at_ (f := fun K => kiB K (He.ga K "InvalidWindow") (rowL (kiLH K) 1)) 113) (List.mem_of_getElem? (i := 5) rfl),
    su_InvalidWindow_TooMany := su_of (c.at_ (f := fun K => suB K (He.ga K "InvalidWindow") (rowL (exL K) 0)) 112) (List.mem_of_getElem? (i := 0) rfl),
    su_InvalidWindow_NotRising := su_of (c.at_ (f := fun K => suB K (He.ga K "InvalidWindow") (rowL (exL K) 0)) 112) (List.mem_of_getElem? (i := 1) rfl),
    su_InvalidWindow_InvalidWindows := su_of (c.at_ (f := fun K => suB K (He.ga K "InvalidWindow") (rowL (exL K) 0)) 112) (List.mem_of_getElem? (i := 2) rfl),
    iC_InvalidWindows := met_of (c.at_ (f := metB "InvalidWindows" "__init__") 2),
    tI_InvalidWindows := ty_of (c.at_ (f := fun K => tyB K (He.fAd K ("InvalidWindows", some "__init__"))) 119),
    tk_InvalidWindows_position := (fd_of (c.at_ (f := fun K => fdB K (He.ga K "InvalidWindows") ["position"]) 116) (List.mem_of_getElem? (i := 0) rfl)).1,
    nf_InvalidWindows_position := (fd_of (c.at_ (f := fun K => fdB K (He.ga K "InvalidWindows") ["position"]) 116) (List.mem_of_getElem? (i := 0) rfl)).2,
    ki_InvalidWindows_GroupError := ki_of (c.at_ (f := fun K => kiB K (He.ga K "InvalidWindows") (rowL (kiLH K) 1)) 118) (List.mem_of_getElem? (i := 0) rfl),
    ki_InvalidWindows_Missing := ki_of (c.at_ (f := fun K => kiB K (He.ga K "InvalidWindows") (rowL (kiLH K) 1)) 118) (List.mem_of_getElem? (i := 1) rfl),
    ki_InvalidWindows_Refused := ki_of (c.at_ (f := fun K => kiB K (He.ga K "InvalidWindows") (rowL (kiLH K) 1)) 118) (List.mem_of_getElem? (i := 2) rfl),
    ki_InvalidWindows_NoState := ki_of (c.at_ (f := fun K => kiB K (He.ga K "InvalidWindows") (rowL (kiLH K) 1)) 118) (List.mem_of_getElem? (i := 3) rfl),
    ki_InvalidWindows_ArithmeticError := ki_of (c.at_ (f := fun K => kiB K (He.ga K "InvalidWindows") (rowL (kiLH K) 1)) 118) (List.mem_of_getElem? (i := 4) rfl),
    ki_InvalidWindows_LimitReached := ki_of (c.at_ (f := fun K => kiB K (He.ga K "InvalidWindows") (rowL (kiLH K) 1)) 118) (List.mem_of_getElem? (i := 5) rfl),
    su_InvalidWindows_TooMany := su_of (c.at_ (f := fun K => suB K (He.ga K "InvalidWindows") (rowL (exL K) 4)) 117) (List.mem_of_getElem? (i := 0) rfl),
    su_InvalidWindows_NotRising := su_of (c.at_ (f := fun K => suB K (He.ga K "InvalidWindows") (rowL (exL K) 4)) 117) (List.mem_of_getElem? (i := 1) rfl),
    su_InvalidWindows_InvalidWindows := su_of (c.at_ (f := fun K => suB K (He.ga K "InvalidWindows") (rowL (exL K) 4)) 117) (List.mem_of_getElem? (i := 2) rfl),
    iC_InvalidUses := met_of (c.at_ (f := metB "InvalidUses" "__init__") 3),
    tI_InvalidUses := ty_of (c.at_ (f := fun K => tyB K (He.fAd K ("InvalidUses", some "__init__"))) 124),
    tk_InvalidUses_module := (fd_of (c.at_ (f := fun K => fdB K (He.ga K "InvalidUses") ["module"]) 121) (List.mem_of_getElem? (i := 0) rfl)).1,
    nf_InvalidUses_module := (fd_of (c.at_ (f := fun K => fdB K (He.ga K "InvalidUses") ["module"]) 121) (List.mem_of_getElem? (i := 0) rfl)).2,
    ki_InvalidUses_GroupError := ki_of (c.at_ (f := fun K => kiB K (He.ga K "InvalidUses") (rowL (kiLH K) 1)) 123) (List.mem_of_getElem? (i := 0) rfl),
    ki_InvalidUses_Missing := ki_of (c.at_ (f := fun K => kiB K (He.ga K "InvalidUses") (rowL (kiLH K) 1)) 123) (List.mem_of_getElem? (i := 1) rfl),
    ki_InvalidUses_Refused := ki_of (c.at_ (f := fun K => kiB K (He.ga K "InvalidUses") (rowL (kiLH K) 1)) 123) (List.mem_of_getElem? (i := 2) rfl),
    ki_InvalidUses_NoState := ki_of (c.at_ (f := fun K => kiB K (He.ga K "InvalidUses") (rowL (kiLH K) 1)) 123) (List.mem_of_getElem? (i := 3) rfl),
    ki_InvalidUses_ArithmeticError := ki_of (c.at_ (f := fun K => kiB K (He.ga K "InvalidUses") (rowL (kiLH K) 1)) 123) (List.mem_of_getElem? (i := 4) rfl),
    ki_InvalidUses_LimitReached := ki_of (c.at_ (f := fun K => kiB K (He.ga K "InvalidUses") (rowL (kiLH K) 1)) 123) (List.mem_of_getElem? (i := 5) rfl),
    su_InvalidUses_TooMany := su_of (c.at_ (f := fun K => suB K (He.ga K "InvalidUses") (rowL (exL K) 0)) 122) (List.mem_of_getElem? (i := 0) rfl),
    su_InvalidUses_NotRising := su_of (c.at_ (f := fun K => suB K (He.ga K "InvalidUses") (rowL (exL K) 0)) 122) (List.mem_of_getElem? (i := 1) rfl),
    su_InvalidUses_InvalidWindows := su_of (c.at_ (f := fun K => suB K (He.ga K "InvalidUses") (rowL (exL K) 0)) 122) (List.mem_of_getElem? (i := 2) rfl),
    ki_Missing_GroupError := ki_of (c.at_ (f := fun K => kiB K (He.ga K "Missing") (rowL (kiLH K) 2)) 127) (List.mem_of_getElem? (i := 0) rfl),
    ki_Missing_Missing := ki_of (c.at_ (f := fun K => kiB K (He.ga K "Missing") (rowL (kiLH K) 2)) 127) (List.mem_of_getElem? (i := 1) rfl),
    ki_Missing_Refused := ki_of (c.at_ (f := fun K => kiB K (He.ga K "Missing") (rowL (kiLH K) 2)) 127) (List.mem_of_getElem? (i := 2) rfl),
    ki_Missing_NoState := ki_of (c.at_ (f := fun K => kiB K (He.ga K "Missing") (rowL (kiLH K) 2)) 127) (List.mem_of_getElem? (i := 3) rfl),
    ki_Missing_ArithmeticError := ki_of (c.at_ (f := fun K => kiB K (He.ga K "Missing") (rowL (kiLH K) 2)) 127) (List.mem_of_getElem? (i := 4) rfl),
    ki_Missing_LimitReached := ki_of (c.at_ (f := fun K => kiB K (He.ga K "Missing") (rowL (kiLH K) 2)) 127) (List.mem_of_getElem? (i := 5) rfl),
    su_Missing_TooMany := su_of (c.at_ (f := fun K => suB K (He.ga K "Missing") (rowL (exL K) 0)) 126) (List.mem_of_getElem? (i := 0) rfl),
    su_Missing_NotRising := su_of (c.at_ (f := fun K => suB K (He.ga K "Missing") (rowL (exL K) 0)) 126) (List.mem_of_getElem? (i := 1) rfl),
    su_Missing_InvalidWindows := su_of (c.at_ (f := fun K => suB K (He.ga K "Missing") (rowL (exL K) 0)) 126) (List.mem_of_getElem? (i := 2) rfl),
    iC_UnknownModule := met_of (c.at_ (f := metB "UnknownModule" "__init__") 4),
    tI_UnknownModule := ty_of (c.at_ (f := fun K => tyB K (He.fAd K ("UnknownModule", some "__init__"))) 133),
    tk_UnknownModule_value := (fd_of (c.at_ (f := fun K => fdB K (He.ga K "UnknownModule") ["value"]) 130) (List.mem_of_getElem? (i := 0) rfl)).1,
    nf_UnknownModule_value := (fd_of (c.at_ (f := fun K => fdB K (He.ga K "UnknownModule") ["value"]) 130) (List.mem_of_getElem? (i := 0) rfl)).2,
    ki_UnknownModule_GroupError := ki_of (c.at_ (f := fun K => kiB K (He.ga K "UnknownModule") (rowL (kiLH K) 2)) 132) (List.mem_of_getElem? (i := 0) rfl),
    ki_UnknownModule_Missing := ki_of (c.at_ (f := fun K => kiB K (He.ga K "UnknownModule") (rowL (kiLH K) 2)) 132) (List.mem_of_getElem? (i := 1) rfl),
    ki_UnknownModule_Refused := ki_of (c.at_ (f := fun K => kiB K (He.ga K "UnknownModule") (rowL (kiLH K) 2)) 132) (List.mem_of_getElem? (i := 2) rfl),
    ki_UnknownModule_NoState := ki_of (c.at_ (f := fun K => kiB K (He.ga K "UnknownModule") (rowL (kiLH K) 2)) 132) (List.mem_of_getElem? (i := 3) rfl),
    ki_UnknownModule_ArithmeticError := ki_of (c.at_ (f := fun K => kiB K (He.ga K "UnknownModule") (rowL (kiLH K) 2)) 132) (List.mem_of_getElem? (i := 4) rfl),
    ki_UnknownModule_LimitReached := ki_of (c.at_ (f := fun K => kiB K (He.ga K "UnknownModule") (rowL (kiLH K) 2)) 132) (List.mem_of_getElem? (i := 5) rfl),
    su_UnknownModule_TooMany := su_of (c.at_ (f := fun K => suB K (He.ga K "UnknownModule") (rowL (exL K) 0)) 131) (List.mem_of_getElem? (i := 0) rfl),
    su_UnknownModule_NotRising := su_of (c.at_ (f := fun K => suB K (He.ga K "UnknownModule") (rowL (exL K) 0)) 131) (List.mem_of_getElem? (i := 1) rfl),
    su_UnknownModule_InvalidWindows := su_of (c.at_ (f := fun K => suB K (He.ga K "UnknownModule") (rowL (exL K) 0)) 131) (List.mem_of_getElem? (i := 2) rfl),
    iC_UnknownUse := met_of (c.at_ (f := metB "UnknownUse" "__init__") 5),
    tI_UnknownUse := ty_of (c.at_ (f := fun K => tyB K (He.fAd K ("UnknownUse", some "__init__"))) 138),
    tk_UnknownUse_user := (fd_of (c.at_ (f := fun K => fdB K (He.ga K "UnknownUse") ["user", "used"]) 135) (List.mem_of_getElem? (i := 0) rfl)).1,
    nf_UnknownUse_user := (fd_of (c.at_ (f := fun K => fdB K (He.ga K "UnknownUse") ["user", "used"]) 135) (List.mem_of_getElem? (i := 0) rfl)).2,
    tk_UnknownUse_used := (fd_of (c.at_ (f := fun K => fdB K (He.ga K "UnknownUse") ["user", "used"]) 135) (List.mem_of_getElem? (i := 1) rfl)).1,
    nf_UnknownUse_used := (fd_of (c.at_ (f := fun K => fdB K (He.ga K "UnknownUse") ["user", "used"]) 135) (List.mem_of_getElem? (i := 1) rfl)).2,
    ki_UnknownUse_GroupError := ki_of (c.at_ (f := fun K => kiB K (He.ga K "UnknownUse") (rowL (kiLH K) 2)) 137) (List.mem_of_getElem? (i := 0) rfl),
    ki_UnknownUse_Missing := ki_of (c.at_ (f := fun K => kiB K (He.ga K "UnknownUse") (rowL (kiLH K) 2)) 137) (List.mem_of_getElem? (i := 1) rfl),
    ki_UnknownUse_Refused := ki_of (c.at_ (f := fun K => kiB K (He.ga K "UnknownUse") (rowL (kiLH K) 2)) 137) (List.mem_of_getElem? (i := 2) rfl),
    ki_UnknownUse_NoState := ki_of (c.at_ (f := fun K => kiB K (He.ga K "UnknownUse") (rowL (kiLH K) 2)) 137) (List.mem_of_getElem? (i := 3) rfl),
    ki_UnknownUse_ArithmeticError := ki_of (c.at_ (f := fun K => kiB K (He.ga K "UnknownUse") (rowL (kiLH K) 2)) 137) (List.mem_of_getElem? (i := 4) rfl),
    ki_UnknownUse_LimitReached := ki_of (c.at_ (f := fun K => kiB K (He.ga K "UnknownUse") (rowL (kiLH K) 2)) 137) (List.mem_of_getElem? (i := 5) rfl),
    su_UnknownUse_TooMany := su_of (c.at_ (f := fun K => suB K (He.ga K "UnknownUse") (rowL (exL K) 0)) 136) (List.mem_of_getElem? (i := 0) rfl),
    su_UnknownUse_NotRising := su_of (c.at_ (f := fun K => suB K (He.ga K "UnknownUse") (rowL (exL K) 0)) 136) (List.mem_of_getElem? (i := 1) rfl),
    su_UnknownUse_InvalidWindows := su_of (c.at_ (f := fun K => suB K (He.ga K "UnknownUse") (rowL (exL K) 0)) 136) (List.mem_of_getElem? (i := 2) rfl),
    iC_UnknownVersion := met_of (c.at_ (f := metB "UnknownVersion" "__init__") 6),
    tI_UnknownVersion := ty_of (c.at_ (f := fun K => tyB K (He.fAd K ("UnknownVersion", some "__init__"))) 143),
    tk_UnknownVersion_module := (fd_of (c.at_ (f := fun K => fdB K (He.ga K "UnknownVersion") ["module", "version"]) 140) (List.mem_of_getElem? (i := 0) rfl)).1,
    nf_UnknownVersion_module := (fd_of (c.at_ (f := fun K => fdB K (He.ga K "UnknownVersion") ["module", "version"]) 140) (List.mem_of_getElem? (i := 0) rfl)).2,
    tk_UnknownVersion_version := (fd_of (c.at_ (f := fun K => fdB K (He.ga K "UnknownVersion") ["module", "version"]) 140) (List.mem_of_getElem? (i := 1) rfl)).1,
    nf_UnknownVersion_version := (fd_of (c.at_ (f := fun K => fdB K (He.ga K "UnknownVersion") ["module", "version"]) 140) (List.mem_of_getElem? (i := 1) rfl)).2,
    ki_UnknownVersion_GroupError := ki_of (c.at_ (f := fun K => kiB K (He.ga K "UnknownVersion") (rowL (kiLH K) 2)) 142) (List.mem_of_getElem? (i := 0) rfl),
    ki_UnknownVersion_Missing := ki_of (c.at_ (f := fun K => kiB K (He.ga K "UnknownVersion") (rowL (kiLH K) 2)) 142) (List.mem_of_getElem? (i := 1) rfl),
    ki_UnknownVersion_Refused := ki_of (c.at_ (f := fun K => kiB K (He.ga K "UnknownVersion") (rowL (kiLH K) 2)) 142) (List.mem_of_getElem? (i := 2) rfl),
    ki_UnknownVersion_NoState := ki_of (c.at_ (f := fun K => kiB K (He.ga K "UnknownVersion") (rowL (kiLH K) 2)) 142) (List.mem_of_getElem? (i := 3) rfl),
    ki_UnknownVersion_ArithmeticError := ki_of (c.at_ (f := fun K => kiB K (He.ga K "UnknownVersion") (rowL (kiLH K) 2)) 142) (List.mem_of_getElem? (i := 4) rfl),
    ki_UnknownVersion_LimitReached := ki_of (c.at_ (f := fun K => kiB K (He.ga K "UnknownVersion") (rowL (kiLH K) 2)) 142) (List.mem_of_getElem? (i := 5) rfl),
    su_UnknownVersion_TooMany := su_of (c.at_ (f := fun K => suB K (He.ga K "UnknownVersion") (rowL (exL K) 0)) 141) (List.mem_of_getElem? (i := 0) rfl),
    su_UnknownVersion_NotRising := su_of (c.at_ (f := fun K => suB K (He.ga K "UnknownVersion") (rowL (exL K) 0)) 141) (List.mem_of_getElem? (i := 1) rfl),
    su_UnknownVersion_InvalidWindows := su_of (c.at_ (f := fun K => suB K (He.ga K "UnknownVersion") (rowL (exL K) 0)) 141) (List.mem_of_getElem? (i := 2) rfl),
    ki_Refused_GroupError := ki_of (c.at_ (f := fun K => kiB K (He.ga K "Refused") (rowL (kiLH K) 4)) 146) (List.mem_of_getElem? (i := 0) rfl),
    ki_Refused_Missing := ki_of (c.at_ (f := fun K => kiB K (He.ga K "Refused") (rowL (kiLH K) 4)) 146) (List.mem_of_getElem? (i := 1) rfl),
    ki_Refused_Refused := ki_of (c.at_ (f := fun K => kiB K (He.ga K "Refused") (rowL (kiLH K) 4)) 146) (List.mem_of_getElem? (i := 2) rfl),
    ki_Refused_NoState := ki_of (c.at_ (f := fun K => kiB K (He.ga K "Refused") (rowL (kiLH K) 4)) 146) (List.mem_of_getElem? (i := 3) rfl),
    ki_Refused_ArithmeticError := ki_of (c.at_ (f := fun K => kiB K (He.ga K "Refused") (rowL (kiLH K) 4)) 146) (List.mem_of_getElem? (i := 4) rfl),
    ki_Refused_LimitReached := ki_of (c.at_ (f := fun K => kiB K (He.ga K "Refused") (rowL (kiLH K) 4)) 146) (List.mem_of_getElem? (i := 5) rfl),
    su_Refused_TooMany := su_of (c.at_ (f := fun K => suB K (He.ga K "Refused") (rowL (exL K) 0)) 145) (List.mem_of_getElem? (i := 0) rfl),
    su_Refused_NotRising := su_of (c.at_ (f := fun K => suB K (He.ga K "Refused") (rowL (exL K) 0)) 145) (List.mem_of_getElem? (i := 1) rfl),
    su_Refused_InvalidWindows := su_of (c.at_ (f := fun K => suB K (He.ga K "Refused") (rowL (exL K) 0)) 145) (List.mem_of_getElem? (i := 2) rfl),
    iC_NotRising := met_of (c.at_ (f := metB "NotRising" "__init__") 7),
    tI_NotRising := ty_of (c.at_ (f := fun K => tyB K (He.fAd K ("NotRising", some "__init__"))) 152),
    tk_NotRising_user := (fd_of (c.at_ (f := fun K => fdB K (He.ga K "NotRising") ["user", "used"]) 149) (List.mem_of_getElem? (i := 0) rfl)).1,
    nf_NotRising_user := (fd_of (c.at_ (f := fun K => fdB K (He.ga K "NotRising") ["user", "used"]) 149) (List.mem_of_getElem? (i := 0) rfl)).2,
    tk_NotRising_used := (fd_of (c.at_ (f := fun K => fdB K (He.ga K "NotRising") ["user", "used"]) 149) (List.mem_of_getElem? (i := 1) rfl)).1,
    nf_NotRising_used := (fd_of (c.at_ (f := fun K => fdB K (He.ga K "NotRising") ["user", "used"]) 149) (List.mem_of_getElem? (i := 1) rfl)).2,
    ki_NotRising_GroupError := ki_of (c.at_ (f := fun K => kiB K (He.ga K "NotRising") (rowL (kiLH K) 4)) 151) (List.mem_of_getElem? (i := 0) rfl),
    ki_NotRising_Missing := ki_of (c.at_ (f := fun K => kiB K (He.ga K "NotRising") (rowL (kiLH K) 4)) 151) (List.mem_of_getElem? (i := 1) rfl),
    ki_NotRising_Refused := ki_of (c.at_ (f := fun K => kiB K (He.ga K "NotRising") (rowL (kiLH K) 4)) 151) (List.mem_of_getElem? (i := 2) rfl),
    ki_NotRising_NoState := ki_of (c.at_ (f := fun K => kiB K (He.ga K "NotRising") (rowL (kiLH K) 4)) 151) (List.mem_of_getElem? (i := 3) rfl),
    ki_NotRising_ArithmeticError := ki_of (c.at_ (f := fun K => kiB K (He.ga K "NotRising") (rowL (kiLH K) 4)) 151) (List.mem_of_getElem? (i := 4) rfl),
    ki_NotRising_LimitReached := ki_of (c.at_ (f := fun K => kiB K (He.ga K "NotRising") (rowL (kiLH K) 4)) 151) (List.mem_of_getElem? (i := 5) rfl),
    su_NotRising_TooMany := su_of (c.at_ (f := fun K => suB K (He.ga K "NotRising") (rowL (exL K) 2)) 150) (List.mem_of_getElem? (i := 0) rfl),
    su_NotRising_NotRising := su_of (c.at_ (f := fun K => suB K (He.ga K "NotRising") (rowL (exL K) 2)) 150) (List.mem_of_getElem? (i := 1) rfl),
    su_NotRising_InvalidWindows := su_of (c.at_ (f := fun K => suB K (He.ga K "NotRising") (rowL (exL K) 2)) 150) (List.mem_of_getElem? (i := 2) rfl),
    ki_LimitReached_GroupError := ki_of (c.at_ (f := fun K => kiB K (He.ga K "LimitReached") (rowL (kiLH K) 48)) 155) (List.mem_of_getElem? (i := 0) rfl),
    ki_LimitReached_Missing := ki_of (c.at_ (f := fun K => kiB K (He.ga K "LimitReached") (rowL (kiLH K) 48)) 155) (List.mem_of_getElem? (i := 1) rfl),
    ki_LimitReached_Refused := ki_of (c.at_ (f := fun K => kiB K (He.ga K "LimitReached") (rowL (kiLH K) 48)) 155) (List.mem_of_getElem? (i := 2) rfl),
    ki_LimitReached_NoState := ki_of (c.at_ (f := fun K => kiB K (He.ga K "LimitReached") (rowL (kiLH K) 48)) 155) (List.mem_of_getElem? (i := 3) rfl),
    ki_LimitReached_ArithmeticError := ki_of (c.at_ (f := fun K => kiB K (He.ga K "LimitReached") (rowL (kiLH K) 48)) 155) (List.mem_of_getElem? (i := 4) rfl),
    ki_LimitReached_LimitReached := ki_of (c.at_ (f := fun K => kiB K (He.ga K "LimitReached") (rowL (kiLH K) 48)) 155) (List.mem_of_getElem? (i := 5) rfl),
    su_LimitReached_TooMany := su_of (c.at_ (f := fun K => suB K (He.ga K "LimitReached") (rowL (exL K) 0)) 154) (List.mem_of_getElem? (i := 0) rfl),
    su_LimitReached_NotRising := su_of (c.at_ (f := fun K => suB K (He.ga K "LimitReached") (rowL (exL K) 0)) 154) (List.mem_of_getElem? (i := 1) rfl),
    su_LimitReached_InvalidWindows := su_of (c.at_ (f := fun K => suB K (He.ga K "LimitReached") (rowL (exL K) 0)) 154) (List.mem_of_getElem? (i := 2) rfl),
    iC_TooMany := met_of (c.at_ (f := metB "TooMany" "__init__") 8),
    tI_TooMany := ty_of (c.at_ (f := fun K => tyB K (He.fAd K ("TooMany", some "__init__"))) 161),
    tk_TooMany_kind := (fd_of (c.at_ (f := fun K => fdB K (He.ga K "TooMany") ["kind", "limit"]) 158) (List.mem_of_getElem? (i := 0) rfl)).1,
    nf_TooMany_kind := (fd_of (c.at_ (f := fun K => fdB K (He.ga K "TooMany") ["kind", "limit"]) 158) (List.mem_of_getElem? (i := 0) rfl)).2,
    tk_TooMany_limit := (fd_of (c.at_ (f := fun K => fdB K (He.ga K "TooMany") ["kind", "limit"]) 158) (List.mem_of_getElem? (i := 1) rfl)).1,
    nf_TooMany_limit := (fd_of (c.at_ (f := fun K => fdB K (He.ga K "TooMany") ["kind", "limit"]) 158) (List.mem_of_getElem? (i := 1) rfl)).2,
    ki_TooMany_GroupError := ki_of (c.at_ (f := fun K => kiB K (He.ga K "TooMany") (rowL (kiLH K) 48)) 160) (List.mem_of_getElem? (i := 0) rfl),
    ki_TooMany_Missing := ki_of (c.at_ (f := fun K => kiB K (He.ga K "TooMany") (rowL (kiLH K) 48)) 160) (List.mem_of_getElem? (i := 1) rfl),
    ki_TooMany_Refused := ki_of (c.at_ (f := fun K => kiB K (He.ga K "TooMany") (rowL (kiLH K) 48)) 160) (List.mem_of_getElem? (i := 2) rfl),
    ki_TooMany_NoState := ki_of (c.at_ (f := fun K => kiB K (He.ga K "TooMany") (rowL (kiLH K) 48)) 160) (List.mem_of_getElem? (i := 3) rfl),
    ki_TooMany_ArithmeticError := ki_of (c.at_ (f := fun K => kiB K (He.ga K "TooMany") (rowL (kiLH K) 48)) 160) (List.mem_of_getElem? (i := 4) rfl),
    ki_TooMany_LimitReached := ki_of (c.at_ (f := fun K => kiB K (He.ga K "TooMany") (rowL (kiLH K) 48)) 160) (List.mem_of_getElem? (i := 5) rfl),
    su_TooMany_TooMany := su_of (c.at_ (f := fun K => suB K (He.ga K "TooMany") (rowL (exL K) 1)) 159) (List.mem_of_getElem? (i := 0) rfl),
    su_TooMany_NotRising := su_of (c.at_ (f := fun K => suB K (He.ga K "TooMany") (rowL (exL K) 1)) 159) (List.mem_of_getElem? (i := 1) rfl),
    su_TooMany_InvalidWindows := su_of (c.at_ (f := fun K => suB K (He.ga K "TooMany") (rowL (exL K) 1)) 159) (List.mem_of_getElem? (i := 2) rfl),
    iC_NoState := met_of (c.at_ (f := metB "NoState" "__init__") 9),
    tI_NoState := ty_of (c.at_ (f := fun K => tyB K (He.fAd K ("NoState", some "__init__"))) 166),
    tk_NoState_chain := (fd_of (c.at_ (f := fun K => fdB K (He.ga K "NoState") ["chain"]) 163) (List.mem_of_getElem? (i := 0) rfl)).1,
    nf_NoState_chain := (fd_of (c.at_ (f := fun K => fdB K (He.ga K "NoState") ["chain"]) 163) (List.mem_of_getElem? (i := 0) rfl)).2,
    ki_NoState_GroupError := ki_of (c.at_ (f := fun K => kiB K (He.ga K "NoState") (rowL (kiLH K) 56)) 165) (List.mem_of_getElem? (i := 0) rfl),
    ki_NoState_Missing := ki_of (c.at_ (f := fun K => kiB K (He.ga K "NoState") (rowL (kiLH K) 56)) 165) (List.mem_of_getElem? (i := 1) rfl),
    ki_NoState_Refused := ki_of (c.at_ (f := fun K => kiB K (He.ga K "NoState") (rowL (kiLH K) 56)) 165) (List.mem_of_getElem? (i := 2) rfl),
    ki_NoState_NoState := ki_of (c.at_ (f := fun K => kiB K (He.ga K "NoState") (rowL (kiLH K) 56)) 165) (List.mem_of_getElem? (i := 3) rfl),
    ki_NoState_ArithmeticError := ki_of (c.at_ (f := fun K => kiB K (He.ga K "NoState") (rowL (kiLH K) 56)) 165) (List.mem_of_getElem? (i := 4) rfl),
    ki_NoState_LimitReached := ki_of (c.at_ (f := fun K => kiB K (He.ga K "NoState") (rowL (kiLH K) 56)) 165) (List.mem_of_getElem? (i := 5) rfl),
    su_NoState_TooMany := su_of (c.at_ (f := fun K => suB K (He.ga K "NoState") (rowL (exL K) 0)) 164) (List.mem_of_getElem? (i := 0) rfl),
    su_NoState_NotRising := su_of (c.at_ (f := fun K => suB K (He.ga K "NoState") (rowL (exL K) 0)) 164) (List.mem_of_getElem? (i := 1) rfl),
    su_NoState_InvalidWindows := su_of (c.at_ (f := fun K => suB K (He.ga K "NoState") (rowL (exL K) 0)) 164) (List.mem_of_getElem? (i := 2) rfl) }
  refine ⟨_, T, fun q hq => ?_, binds_one D43.F (fun _ _ _ _ _ _ _ => rfl)⟩
  simp only [csH, List.mem_cons, List.not_mem_nil, or_false] at hq
  rcases hq with rfl
  · exact tb42

open PySem PySem.Spec PyProof.Rows L2




section
variable {P : Program} {w : World} {K : PySem.W.Frag} {mg : Str → Option Value} {base : Heap} {A : Ad}
def modB (S : CS) : PyData → Bool
  | .str n => S.ns.contains n
  | _ => false
/-- what is raised: an error of the class at C with these fields -/
def Rz (H : Hp) (E : XK) (C : Addr) (fs : List (Str × V)) : Prop := ∀ c H', H c = none → Same H H' → H' c = some (.xd fs) → E (.ref C) (some c) H'
theorem Rz.same {H H1 : Hp} {E : XK} {C : Addr} {fs : List (Str × V)} (r : Rz H E C fs) (s : Same H H1) : Rz H1 E C fs := fun c H' n s' e => r c H' (none_of s n) (s.trans s') e
def sp_rm (K : PySem.W.Frag) (C CU : Addr) : Sp := fun vs H Q E => ∃ L S v d, vs = [.ref (CL.p L), v] ∧ CatAt K C H L S ∧ Da K H v d ∧ (modB S d = true → Q .non H) ∧ (modB S d = false → Rz H E CU [("value", v)])
theorem modB_str {S : CS} {n : Str} : modB S (.str n) = decide (n ∈ S.ns) := by simp [modB]
theorem ok_require_module (T : Txt K mg A) (G_UnknownModulex_initx : FnOk P w K mg base CX0 1 A.f_UnknownModulex_initx A.d_UnknownModulex_initx ["self", "value"] (spI A.c_UnknownModule ["value"])) : FnOk P w K mg base (L2.CX P w) 3 A.f_require_module A.d_require_module ["catalog", "value"] (sp_rm K A.c_Catalog A.c_UnknownModule) := by
  refine T.F_require_module.okX sc_require_module (fun vs H Q E h => ?_) (fun cdv Ar outer s H vs Q E hr h => ?_)
  · obtain ⟨_, _, _, _, rfl, _⟩ := h; rfl
  · obtain ⟨L, S, v, d, rfl, hC, hd, q, qe⟩ := h
    refine ⟨_, (pss_one (ps_if (PW.pt (pw_or (pt_not (pt_val (pe_callB call_isiD (by rfl) T.m_isinstance (by decide +kernel) (pa_cons (pv 1) (pa_cons (pe_bltn (v := .ty "str") rfl T.m_str (by decide +kernel) rfl) pa_nil))))) (pw_or1 (pt_cmpR (op_dnotin (hu_of hr)) (pv 1) (pe_fldC T.cl_Catalog T.na_Catalog_use_table (pv 0)) (by rfl)))))
(pss_one (ps_raiseN rfl (takes_of rfl rfl rfl rfl) (pmk_B T.EX_UnknownModule.o T.iC_UnknownModule T.tI_UnknownModule G_UnknownModulex_initx (hr.mono (by decide)) T.b_UnknownModulex_initx pass0 (by rfl) T.gX_UnknownModule (pa_cons (pv 1) pa_nil))))
pss_nil)), ?_⟩
    have ob := hC.ob
    repeat (walk_at "st")
    cases hd with
    | str n =>
      refine i_ff (by rfl) ?_
      repeat (walk_at "st")
      refine i_dnotin (dget_S0 (Rd.of hC.use)) ?_
      by_cases hn : n ∈ S.ns
      · rw [if_pos hn]
        repeat (walk_at "st")
        refine i_ff (by rfl) ?_
        repeat (walk_at "st")
        exact q (by rw [modB_str]; exact decide_eq_true hn)
      · rw [if_neg hn]
        repeat (walk_at "st")
        refine i_tt (by rfl) ?_
        repeat (walk_at "st")
        refine i_mkR rfl (by decide) fun c H2 hc s2 ec => ?_
        exact qe (by rw [modB_str]; exact decide_eq_false hn) c H2 hc s2 ec
    | _ =>
      refine i_tt (by rfl) ?_
      repeat (walk_at "st")
      refine i_mkR rfl (by decide) fun c H2 hc s2 ec => ?_
      exact qe rfl c H2 hc s2 ec
theorem modB_in {S : CS} {d : PyData} (h : modB S d = true) : ∃ n, d = .str n ∧ n ∈ S.ns := by
  cases d with
  | str n => exact ⟨n, rfl, by simpa [modB] using h⟩
  | _ => simp [modB] at h
theorem da_str {K : PySem.W.Frag} {H : Hp} {v : V} {n : Str} (h : Da K H v (.str n)) : v = .str n := by cases h; rfl
def strsV (xs : List Str) : List V := xs.map V.str
theorem tabS_keys {ns : List Str} {f : Str → V} : ((tabS ns f).map fun kv => kV kv.1) = strsV ns := by
  unfold tabS strsV
  rw [List.map_map]
  rfl
def sp_modules (K : PySem.W.Frag) (C : Addr) : Sp := fun vs H Q _ => ∃ L S, vs = [.ref (CL.p L)] ∧ CatAt K C H L S ∧ ∀ a H', H a = none → Same H H' → H' a = some (.lst (strsV S.ns)) → Q (.ref a) H'
theorem ok_Catalog_modules (T : Txt K mg A) : FnOk P w K mg base CX0 1 A.f_Catalog_modules A.d_Catalog_modules ["self"] (sp_modules K A.c_Catalog) := by
  refine T.F_Catalog_modules.ok sc_Catalog_modules (fun vs H Q E h => ?_) (fun cdv Ar outer s H vs Q E hr h => ?_)
  · obtain ⟨_, _, rfl, _⟩ := h; rfl
  · obtain ⟨L, S, rfl, hC, q⟩ := h
    refine ⟨_, (pss_one (ps_ret (pe_callTy (call_listDN rfl) (by rfl) T.m_list (by decide +kernel) (pa_cons (pe_fldC T.cl_Catalog T.na_Catalog_use_table (pv 0)) pa_nil)))), ?_⟩
    have ob := hC.ob
    have use := hC.use
    repeat (walk_at "st")
    refine i_new fun p1 G1 n1 s1 e1 => ?_
    rw [tabS_keys] at e1
    exact q _ _ n1 s1 e1
def sp_len (K : PySem.W.Frag) (C : Addr) : Sp := fun vs H Q _ => ∃ L S, vs = [.ref (CL.p L)] ∧ CatAt K C H L S ∧ Q (.int (S.ns.length : Nat)) H
theorem tabS_len {ns : List Str} {f : Str → V} : (tabS ns f).length = ns.length := by simp [tabS]
theorem ok_Catalogx_lenx (T : Txt K mg A) : FnOk P w K mg base CX0 1 A.f_Catalogx_lenx A.d_Catalogx_lenx ["self"] (sp_len K A.c_Catalog) := by
  refine T.F_Catalogx_lenx.ok sc_Catalogx_lenx (fun vs H Q E h => ?_) (fun cdv Ar outer s H vs Q E hr h => ?_)
  · obtain ⟨_, _, rfl, _⟩ := h; rfl
  · obtain ⟨L, S, rfl, hC, q⟩ := h
    refine ⟨_, (pss_one (ps_ret (pe_callB call_lenDk (by rfl) T.m_len (by decide +kernel) (pa_cons (pe_fldC T.cl_Catalog T.na_Catalog_use_table (pv 0)) pa_nil)))), ?_⟩
    have ob := hC.ob
    have use := hC.use
    repeat (walk_at "st")
    rw [tabS_len]
    exact q
def sp_history (K : PySem.W.Frag) (C : Addr) : Sp := fun vs H Q _ => ∃ L S, vs = [.ref (CL.p L)] ∧ CatAt K C H L S ∧ ∀ a xs H', H a = none → Same H H' → H' a = some (.lst xs) → DaAllF false K (tp H') xs S.log → Q (.ref a) H'
/-- a method that asks for the module first -/
def spM (K : PySem.W.Frag) (C CU : Addr) (F : CS → Str → Hp → VK → Prop) : Sp := fun vs H Q E => ∃ L S v d, vs = [.ref (CL.p L), v] ∧ CatAt K C H L S ∧ Da K H v d ∧ (∀ n, d = .str n → n ∈ S.ns → F S n H Q) ∧ (modB S d = false → Rz H E CU [("value", v)])
def retL (xs : List V) (H : Hp) (Q : VK) : Prop := ∀ a H', H a = none → Same H H' → H' a = some (.lst xs) → Q (.ref a) H'
theorem ok_Catalog_uses (T : Txt K mg A) (G_require_module : FnOk P w K mg base (L2.CX P w) 3 A.f_require_module A.d_require_module ["catalog", "value"] (sp_rm K A.c_Catalog A.c_UnknownModule)) : FnOk P w K mg base (L2.CX P w) 4 A.f_Catalog_uses A.d_Catalog_uses ["self", "module"] (spM K A.c_Catalog A.c_UnknownModule fun S n H Q => retL (strsV (S.us n)) H Q) := by
  refine T.F_Catalog_uses.okX sc_Catalog_uses (fun vs H Q E h => ?_) (fun cdv Ar outer s H vs Q E hr h => ?_)
  · obtain ⟨_, _, _, _, rfl, _⟩ := h; rfl
  · obtain ⟨L, S, v, d, rfl, hC, hd, q, qe⟩ := h
    refine ⟨_, (pss_cons (ps_expr (L2.pe_call G_require_module (hr.mono (by decide)) (by rfl) T.g_require_module T.F_require_module.kp T.b_require_module .nil (passes_call (takes_of rfl rfl rfl rfl) fun _ _ _ _ h => h) (pa_cons (pv 0) (pa_cons (pv 1) pa_nil))))
(pss_one (ps_ret (pe_callTy call_listU (by rfl) T.m_list (by decide +kernel) (pa_cons (pe_dg (hu_of hr) (pe_fldC T.cl_Catalog T.na_Catalog_use_table (pv 0)) (pv 1)) pa_nil))))), ?_⟩
    have ob := hC.ob
    repeat (walk_at "st")
    refine ⟨L, S, v, d, rfl, hC, hd, fun hm => ?_, fun hm => qe hm⟩
    obtain ⟨n, rfl, hn⟩ := modB_in hm
    cases da_str hd
    repeat (walk_at "st")
    refine i_dg (dget_S (Rd.of hC.use) hn) ?_
    have tu := hC.tup hn
    repeat (walk_at "st")
    refine i_new fun p1 G1 n1 s1 e1 => ?_
    exact q n rfl hn _ _ n1 s1 e1
theorem ok_Catalog_versions (T : Txt K mg A) (G_require_module : FnOk P w K mg base (L2.CX P w) 3 A.f_require_module A.d_require_module ["catalog", "value"] (sp_rm K A.c_Catalog A.c_UnknownModule)) : FnOk P w K mg base (L2.CX P w) 4 A.f_Catalog_versions A.d_Catalog_versions ["self", "module"] (spM K A.c_Catalog A.c_UnknownModule fun S n H Q => Q (.int (S.cnt n : Nat)) H) := by
  refine T.F_Catalog_versions.okX sc_Catalog_versions (fun vs H Q E h => ?_) (fun cdv Ar outer s H vs Q E hr h => ?_)
  · obtain ⟨_, _, _, _, rfl, _⟩ := h; rfl
  · obtain ⟨L, S, v, d, rfl, hC, hd, q, qe⟩ := h
    refine ⟨_, (pss_cons (ps_expr (L2.pe_call G_require_module (hr.mono (by decide)) (by rfl) T.g_require_module T.F_require_module.kp T.b_require_module .nil (passes_call (takes_of rfl rfl rfl rfl) fun _ _ _ _ h => h) (pa_cons (pv 0) (pa_cons (pv 1) pa_nil))))
(pss_one (ps_ret (pe_dg (hu_of hr) (pe_fldC T.cl_Catalog T.na_Catalog_count_table (pv 0)) (pv 1))))), ?_⟩
    have ob := hC.ob
    repeat (walk_at "st")
    refine ⟨L, S, v, d, rfl, hC, hd, fun hm => ?_, fun hm => qe hm⟩
    obtain ⟨n, rfl, hn⟩ := modB_in hm
    cases da_str hd
    repeat (walk_at "st")
    refine i_dg (dget_S (Rd.of hC.cnt) hn) ?_
    exact q n rfl hn

end

open PySem PySem.Spec PyProof.Rows L2




section
variable {P : Program} {w : World} {K : PySem.W.Frag} {mg : Str → Option Value} {base : Heap} {A : Ad}
theorem range_pick {α : Type} {d : α} : ∀ xs : List α, (List.range xs.length).map (fun i => xs.getD i d) = xs := fun xs => by
  apply List.ext_getElem?
  intro i
  rw [List.getElem?_map]
  by_cases h : i < xs.length
  · rw [List.getElem?_range h]; simp [List.getD, h]
  · rw [List.getElem?_eq_none (by simpa using h), List.getElem?_eq_none (by simpa using h)]; rfl
theorem range_filter {α β : Type} {d : α} (q : α → Bool) (f : α → β) (xs : List α) : ((List.range xs.length).filter fun i => q (xs.getD i d)).map (fun i => f (xs.getD i d)) = (xs.filter q).map f := by
  conv => rhs; rw [← range_pick (d := d) xs]
  rw [List.filter_map, List.map_map]
  rfl
theorem tabS_at {ns : List Str} {f : Str → V} {i : Nat} (h : i < ns.length) : (tabS ns f)[i]? = some (.inr (ns.getD i default), f (ns.getD i default)) := by
  unfold tabS
  rw [List.getElem?_map]
  simp [List.getD, h]
theorem getD_mem {α : Type} {xs : List α} {i : Nat} {d : α} (h : i < xs.length) : xs.getD i d ∈ xs := by
  simp [List.getD, h]
theorem flat_strs (xs : List Str) : (strsV xs).all flatV = true := by
  rw [List.all_eq_true]
  intro v hv
  obtain ⟨x, _, rfl⟩ := List.mem_map.mp hv
  rfl
theorem inV_strs {n : Str} : ∀ xs : List Str, inV (.str n) (strsV xs) = xs.contains n
  | [] => rfl
  | x :: xs => by
    have ih := inV_strs (n := n) xs
    unfold inV strsV at ih ⊢
    rw [List.map_cons, List.any_cons, ih, List.contains_cons]
    congr 1
    show (x == n) = (n == x)
    rw [Bool.eq_iff_iff, beq_iff_eq, beq_iff_eq]
    exact eq_comm
theorem i_inT {K : PySem.W.Frag} {H : Hp} {Q : VK} {b : Bool} {p : Addr} {xs : List V} {x : V} (h : SqT K H p xs) (f : flatV x = true) (fs : xs.all flatV = true) (q : Q (.bl (if b then !inV x xs else inV x xs)) H) : rIn K b x (.ref p) H Q := ⟨p, xs, rfl, .inr h, f, fs, by cases b <;> exact q⟩
def CS.avail (S : CS) (n : Str) : List Nat := (List.range (S.cnt n)).filter fun k => !(S.gone n).contains (k : Int)
def availB (S : CS) (n : Str) : PyData → Bool
  | .int i => decide (0 ≤ i) && (decide (i < S.cnt n) && !(S.gone n).contains i)
  | _ => false
def spM2 (K : PySem.W.Frag) (C CU : Addr) (F : CS → Str → V → PyData → Hp → VK → Prop) : Sp := fun vs H Q E => ∃ L S v d u e, vs = [.ref (CL.p L), v, u] ∧ CatAt K C H L S ∧ Da K H v d ∧ Da K H u e ∧ (∀ n, d = .str n → n ∈ S.ns → F S n u e H Q) ∧ (modB S d = false → Rz H E CU [("value", v)])
theorem ok_Catalog_is_available (T : Txt K mg A) (G_require_module : FnOk P w K mg base (L2.CX P w) 3 A.f_require_module A.d_require_module ["catalog", "value"] (sp_rm K A.c_Catalog A.c_UnknownModule)) (G_is_version : FnOk P w K mg base CX0 2 A.f_is_version A.d_is_version ["value"] (sp_dat K verD)) :
    FnOk P w K mg base (L2.CX P w) 4 A.f_Catalog_is_available A.d_Catalog_is_available ["self", "module", "version"] (spM2 K A.c_Catalog A.c_UnknownModule fun S n u e H Q => ∀ H', Same H H' → Q (.bl (availB S n e)) H') := by
  refine T.F_Catalog_is_available.okX sc_Catalog_is_available (fun vs H Q E h => ?_) (fun cdv Ar outer s H vs Q E hr h => ?_)
  · obtain ⟨_, _, _, _, _, _, rfl, _⟩ := h; rfl
  · obtain ⟨L, S, v, d, u, e, rfl, hC, hd, hu, q, qe⟩ := h
    refine ⟨_, (pss_cons (ps_expr (L2.pe_call G_require_module (hr.mono (by decide)) (by rfl) T.g_require_module T.F_require_module.kp T.b_require_module .nil (passes_call (takes_of rfl rfl rfl rfl) fun _ _ _ _ h => h) (pa_cons (pv 0) (pa_cons (pv 1) pa_nil))))
(pss_cons (ps_if (PW.pt (pw_or (pt_not (pt_val (L2.pe_call G_is_version (hr.mono (by decide)) (by rfl) T.g_is_version T.F_is_version.kp T.b_is_version .nil pass0 (pa_cons (pv 2) pa_nil)))) (pw_or1 (pt_cmpR op_ge (pv 2) (pe_dg (hu_of hr) (pe_fldC T.cl_Catalog T.na_Catalog_count_table (pv 0)) (pv 1)) (nomark _)))))
(pss_one (ps_ret pe_bl))
pss_nil)
(pss_one (ps_ret (pe_cmpR (op_dnotin (hu_of hr)) (pv 2) (pe_dg (hu_of hr) (pe_fldC T.cl_Catalog T.na_Catalog_withdrawn_table (pv 0)) (pv 1)) (by rfl)))))), ?_⟩
    have ob := hC.ob
    repeat (walk_at "st")
    refine ⟨L, S, v, d, rfl, hC, hd, fun hm => ?_, fun hm => qe hm⟩
    obtain ⟨n, rfl, hn⟩ := modB_in hm
    cases da_str hd
    have q := q n rfl hn
    repeat (walk_at "st")
    refine ⟨_, _, rfl, hu, fun G1 s1 => ?_⟩
    have hC1 : CatAt K A.c_Catalog G1 L S := Lay.At.same hC s1
    have ob1 := hC1.ob
    repeat (walk_at "st")
    refine i_ite (fun c => ?_) (fun c => ?_)
    · have c' : verD e = false := by simpa using c
      repeat (walk_at "st")
      have en : availB S n e = false := by cases e <;> first | rfl | (simp [verD] at c'; simp [availB]; omega)
      rw [← en]; exact q _ s1
    · have c' : verD e = true := by simpa using c
      obtain ⟨i, rfl, rfl, i0⟩ := verD_int hu c'
      repeat (walk_at "st")
      refine i_dg (dget_S (Rd.of hC1.cnt) hn) ?_
      repeat (walk_at "st")
      refine i_ite (fun c2 => ?_) (fun c2 => ?_)
      · have c2' : (S.cnt n : Int) ≤ i := of_decide_eq_true c2
        repeat (walk_at "st")
        have en : availB S n (.int i) = false := by simp [availB]; omega
        rw [← en]; exact q _ s1
      · have c2' : ¬ (S.cnt n : Int) ≤ i := of_decide_eq_false c2
        repeat (walk_at "st")
        refine i_dg (dget_S (Rd.of hC1.wdr) hn) ?_
        refine i_dnotin (dget_I0 (Rd.of (hC1.gon hn))) ?_
        have en : availB S n (.int i) = !(if i ∈ S.gone n then some (V.bl true) else none).isSome := by
          have a1 : i < S.cnt n := by omega
          by_cases z : i ∈ S.gone n <;> simp [availB, i0, a1, z]
        rw [← en]
        exact q _ s1
theorem ok_Catalog_available (T : Txt K mg A) (G_require_module : FnOk P w K mg base (L2.CX P w) 3 A.f_require_module A.d_require_module ["catalog", "value"] (sp_rm K A.c_Catalog A.c_UnknownModule)) : FnOk P w K mg base (L2.CX P w) 4 A.f_Catalog_available A.d_Catalog_available ["self", "module"] (spM K A.c_Catalog A.c_UnknownModule fun S n H Q => S.cnt n < 1000 ∧ retL ((S.avail n).map fun k : Nat => V.int k) H Q) := by
  refine T.F_Catalog_available.okX sc_Catalog_available (fun vs H Q E h => ?_) (fun cdv Ar outer s H vs Q E hr h => ?_)
  · obtain ⟨_, _, _, _, rfl, _⟩ := h; rfl
  · obtain ⟨L, S, v, d, rfl, hC, hd, q, qe⟩ := h
    refine ⟨_, (pss_cons (ps_expr (L2.pe_call G_require_module (hr.mono (by decide)) (by rfl) T.g_require_module T.F_require_module.kp T.b_require_module .nil (passes_call (takes_of rfl rfl rfl rfl) fun _ _ _ _ h => h) (pa_cons (pv 0) (pa_cons (pv 1) pa_nil))))
(pss_cons (ps_set (i := 2) sc_Catalog_available.nd rfl (.inr rfl) (pe_dg (hu_of hr) (pe_fldC T.cl_Catalog T.na_Catalog_withdrawn_table (pv 0)) (pv 1)))
(pss_one (ps_ret (pe_lc (own := [("version", 3)]) rfl sc_Catalog_available.nd (pi_range1 rfl T.m_range (pa_cons (pe_dg (hu_of hr) (pe_fldC T.cl_Catalog T.na_Catalog_count_table (pv 0)) (pv 1)) pa_nil)) (blkOk_by (own := [("version", 3)]) (N := ["self", "module", "withdrawn", "version"]) (sc := defScope s_Catalog_available) (by decide +kernel)) (fun _ _ _ _ _ => (pg_name (i := 3) sc_Catalog_available.nd rfl (.inl rfl))) (fun _ _ _ _ _ => (pts_one (pt_cmpR (op_dnotin (hu_of hr)) (pv 3) (pv 2) (by rfl)))) (fun _ _ _ _ _ => (pv 3))))))), ?_⟩
    have ob := hC.ob
    repeat (walk_at "st")
    refine ⟨L, S, v, d, rfl, hC, hd, fun hm => ?_, fun hm => qe hm⟩
    obtain ⟨n, rfl, hn⟩ := modB_in hm
    cases da_str hd
    obtain ⟨few, q⟩ := q n rfl hn
    repeat (walk_at "st")
    refine i_dg (dget_S (Rd.of hC.wdr) hn) ?_
    repeat (walk_at "st")
    refine i_dg (dget_S (Rd.of hC.cnt) hn) ?_
    repeat (walk_at "st")
    have gon := hC.gon hn
    refine l_fq wk_range.q (fun i => !(S.gone n).contains (i : Int)) (fun i => .int i) (by rw [rangeV_len]; simp; exact Nat.lt_trans few (by decide)) (fun _ _ => trivial) (fun i x H' S1 N hi hr s1 hS hN => ?_) (fun D H' n1 s1 eD => ?_)
    · rw [rangeV_len] at hi
      rw [rangeV_get hi] at hr
      cases hr
      repeat (walk_at "st")
      refine i_dnotin (dget_I0 (Rd.of (s1 _ _ gon))) ?_
      have en : (!(if (0 + (i : Int)) ∈ S.gone n then some (V.bl true) else none).isSome) = !(S.gone n).contains (i : Int) := by
        rw [Int.zero_add]
        by_cases z : (i : Int) ∈ S.gone n <;> simp [z]
      rw [en]
      repeat (walk_at "st")
      refine i_ite (fun e => ?_) (fun e => ?_)
      · repeat (walk_at "st")
        rw [Int.zero_add]
        exact hS e _ (Same.refl _)
      · exact hN e _ (Same.refl _)
    · rw [rangeV_len] at eD
      exact q _ _ n1 s1 eD
def sp_window (K : PySem.W.Frag) (C CU CW CV : Addr) : Sp := fun vs H Q E => ∃ L S v d u x e, vs = [.ref (CL.p L), v, .str u, x] ∧ CatAt K C H L S ∧ Da K H v d ∧ Da K H x e ∧ (∀ n ∈ S.ns, ∀ u ∈ S.us n, (S.col n u).length = S.cnt n) ∧
  (∀ n (i : Nat) dw, d = .str n → n ∈ S.ns → u ∈ S.us n → e = .int i → i < S.cnt n → (S.col n u)[i]? = some dw → ∀ y H', Same H H' → DaF false K (tp H') y dw → Q y H') ∧
  (modB S d = false → Rz H E CU [("value", v)]) ∧ (∀ n, d = .str n → n ∈ S.ns → ¬ u ∈ S.us n → Rz H E CW [("used", .str u), ("user", v)]) ∧
  (∀ n, d = .str n → n ∈ S.ns → u ∈ S.us n → (∀ i : Nat, i < S.cnt n → e ≠ .int i) → Rz H E CV [("version", x), ("module", v)])
theorem daf_get {b : Bool} {K : PySem.W.Frag} {H : Hp} : ∀ {vs : List V} {ds : List PyData} {i : Nat} {d : PyData}, DaAllF b K H vs ds → ds[i]? = some d → ∃ v, vs[i]? = some v ∧ DaF b K H v d
  | _, _, 0, _, .cons a _, e => by simp at e; subst e; exact ⟨_, rfl, a⟩
  | _ :: _, _ :: _, i + 1, _, .cons _ r, e => by simp at e; exact daf_get (i := i) r e
  | _, _, _, _, .nil, e => by simp at e
theorem ok_Catalog_window (T : Txt K mg A) (G_require_module : FnOk P w K mg base (L2.CX P w) 3 A.f_require_module A.d_require_module ["catalog", "value"] (sp_rm K A.c_Catalog A.c_UnknownModule)) (G_is_version : FnOk P w K mg base CX0 2 A.f_is_version A.d_is_version ["value"] (sp_dat K verD)) (G_UnknownUsex_initx : FnOk P w K mg base CX0 1 A.f_UnknownUsex_initx A.d_UnknownUsex_initx ["self", "user", "used"] (spI A.c_UnknownUse ["user", "used"])) (G_UnknownVersionx_initx : FnOk P w K mg base CX0 1 A.f_UnknownVersionx_initx A.d_UnknownVersionx_initx ["self", "module", "version"] (spI A.c_UnknownVersion ["module", "version"])) :
    FnOk P w K mg base (L2.CX P w) 4 A.f_Catalog_window A.d_Catalog_window ["self", "user", "used", "version"] (sp_window K A.c_Catalog A.c_UnknownModule A.c_UnknownUse A.c_UnknownVersion) := by
  refine T.F_Catalog_window.okX sc_Catalog_window (fun vs H Q E h => ?_) (fun cdv Ar outer s H vs Q E hr h => ?_)
  · obtain ⟨_, _, _, _, _, _, _, rfl, _⟩ := h; rfl
  · obtain ⟨L, S, v, d, u, x, e, rfl, hC, hd, hx, hlen, q, qe, qu, qv⟩ := h
    refine ⟨_, (pss_cons (ps_expr (L2.pe_call G_require_module (hr.mono (by decide)) (by rfl) T.g_require_module T.F_require_module.kp T.b_require_module .nil (passes_call (takes_of rfl rfl rfl rfl) fun _ _ _ _ h => h) (pa_cons (pv 0) (pa_cons (pv 1) pa_nil))))
(pss_cons (ps_if (pt_cmpR op_notIn_seq (pv 2) (pe_dg (hu_of hr) (pe_fldC T.cl_Catalog T.na_Catalog_use_table (pv 0)) (pv 1)) (by rfl))
(pss_one (ps_raiseN rfl (takes_of rfl rfl rfl rfl) (pmk_B T.EX_UnknownUse.o T.iC_UnknownUse T.tI_UnknownUse G_UnknownUsex_initx (hr.mono (by decide)) T.b_UnknownUsex_initx pass0 (by rfl) T.gX_UnknownUse (pa_cons (pv 1) (pa_cons (pv 2) pa_nil)))))
pss_nil)
(pss_cons (ps_if (PW.pt (pw_or (pt_not (pt_val (L2.pe_call G_is_version (hr.mono (by decide)) (by rfl) T.g_is_version T.F_is_version.kp T.b_is_version .nil pass0 (pa_cons (pv 3) pa_nil)))) (pw_or1 (pt_cmpR op_ge (pv 3) (pe_dg (hu_of hr) (pe_fldC T.cl_Catalog T.na_Catalog_count_table (pv 0)) (pv 1)) (nomark _)))))
(pss_one (ps_raiseN rfl (takes_of rfl rfl rfl rfl) (pmk_B T.EX_UnknownVersion.o T.iC_UnknownVersion T.tI_UnknownVersion G_UnknownVersionx_initx (hr.mono (by decide)) T.b_UnknownVersionx_initx pass0 (by rfl) T.gX_UnknownVersion (pa_cons (pv 1) (pa_cons (pv 3) pa_nil)))))
pss_nil)
(pss_one (ps_ret (pe_ix ix_list (pe_dg (hu_of hr) (pe_fldC T.cl_Catalog T.na_Catalog_window_table (pv 0)) (pe_tup (pa_cons (pv 1) (pa_cons (pv 2) pa_nil)))) (pv 3) (fun _ _ => rfl))))))), ?_⟩
    have ob := hC.ob
    repeat (walk_at "st")
    refine ⟨L, S, v, d, rfl, hC, hd, fun hm => ?_, fun hm => qe hm⟩
    obtain ⟨n, rfl, hn⟩ := modB_in hm
    cases da_str hd
    repeat (walk_at "st")
    refine i_dg (dget_S (Rd.of hC.use) hn) ?_
    refine i_inT (SqT.of (hC.tup hn)) rfl (flat_strs _) ?_
    rw [show (S.us n).map V.str = strsV (S.us n) from rfl, inV_strs]
    by_cases hu : u ∈ S.us n
    · have hb : (S.us n).contains u = true := by simpa using hu
      rw [hb]
      repeat (walk_at "st")
      refine i_ff (by rfl) ?_
      repeat (walk_at "st")
      refine ⟨_, _, rfl, hx, fun G1 s1 => ?_⟩
      have hC1 : CatAt K A.c_Catalog G1 L S := Lay.At.same hC s1
      have ob1 := hC1.ob
      repeat (walk_at "st")
      have bad : (∀ i : Nat, i < S.cnt n → e ≠ .int i) → Rz G1 E A.c_UnknownVersion [("version", x), ("module", .str n)] := fun h => (qv n rfl hn hu h).same s1
      refine i_ite (fun c => ?_) (fun c => ?_)
      · have c' : verD e = false := by simpa using c
        repeat (walk_at "st")
        refine i_mkR rfl (by decide) fun c H2 hc s2 ec => ?_
        exact bad (fun i _ z => by subst z; simp [verD] at c') c H2 hc s2 ec
      · have c' : verD e = true := by simpa using c
        obtain ⟨i, rfl, rfl, i0⟩ := verD_int hx c'
        repeat (walk_at "st")
        refine i_dg (dget_S (Rd.of hC1.cnt) hn) ?_
        repeat (walk_at "st")
        refine i_ite (fun c2 => ?_) (fun c2 => ?_)
        · have c2' : (S.cnt n : Int) ≤ i := of_decide_eq_true c2
          repeat (walk_at "st")
          refine i_mkR rfl (by decide) fun c H2 hc s2 ec => ?_
          exact bad (fun j hj z => by cases z; omega) c H2 hc s2 ec
        · have c2' : ¬ (S.cnt n : Int) ≤ i := of_decide_eq_false c2
          obtain ⟨k, rfl⟩ := Int.eq_ofNat_of_zero_le i0
          obtain ⟨ws, hw, hd⟩ := hC1.col hn hu
          have hk : k < (S.col n u).length := by rw [hlen n hn u hu]; omega
          obtain ⟨y, hy, dy⟩ := daf_get hd (List.getElem?_eq_getElem hk)
          repeat (walk_at "st")
          refine i_new fun p2 G2 n2 s2 e2 => ?_
          repeat (walk_at "st")
          refine i_dg (dget_P (Rd.of (s2 _ _ hC1.win)) e2 (CS.mem_pairs.mpr ⟨hn, hu⟩)) ?_
          have hw2 := s2 _ _ hw
          repeat (walk_at "st")
          refine i_rIxL (SqL.of hw2) (atI_nat hy) ?_
          exact q n k _ rfl hn hu rfl (by omega) (List.getElem?_eq_getElem hk) y _ (s1.trans s2) (DaF.same (KX.Same.tp s2) dy)
    · have hb : (S.us n).contains u = false := by simpa using hu
      rw [hb]
      repeat (walk_at "st")
      refine i_tt (by rfl) ?_
      repeat (walk_at "st")
      refine i_mkR rfl (by decide) fun c H2 hc s2 ec => ?_
      exact qu n rfl hn hu c H2 hc s2 ec

end

open PySem PySem.Spec PyProof.Rows L2




section
variable {P : Program} {w : World} {K : PySem.W.Frag} {mg : Str → Option Value} {base : Heap} {A : Ad}
structure UsOk (ns : List Str) (us : Str → List Str) : Prop where
  n0 : 0 < ns.length
  n12 : ns.length ≤ 12
  nm : ∀ n ∈ ns, nameB (.str n) = true
  nd : ns.Nodup
  und : ∀ n ∈ ns, (us n).Nodup
  uin : ∀ n ∈ ns, ∀ u ∈ us n, u ∈ ns
  uself : ∀ n ∈ ns, ¬ n ∈ us n
  u40 : (ns.map fun n => (us n).length).sum ≤ 40
theorem sum_le_mem {α : Type} {f : α → Nat} : ∀ {xs : List α} {x : α}, x ∈ xs → f x ≤ (xs.map f).sum
  | y :: xs, x, h => by
    rw [List.map_cons, List.sum_cons]
    rcases List.mem_cons.mp h with h | h
    · subst h; omega
    · have := sum_le_mem (f := f) h; omega
theorem UsOk.few {ns : List Str} {us : Str → List Str} (h : UsOk ns us) {n : Str} (hn : n ∈ ns) : (us n).length ≤ 40 := Nat.le_trans (sum_le_mem (f := fun n => (us n).length) hn) h.u40
theorem nameB_len {n : Str} (h : nameB (.str n) = true) : n.length ≤ sizeLine := by
  have h8 : n.length ≤ 8 := by simp [nameB] at h; exact h.2.1
  exact Nat.le_trans h8 (by decide)
theorem map_const {n : Nat} {v : V} : ∀ {f : Nat → V}, (∀ i, i < n → f i = v) → (List.range n).map f = List.replicate n v := fun {f} h => by
  apply List.ext_getElem?
  intro i
  by_cases hi : i < n
  · rw [List.getElem?_map, List.getElem?_range hi, List.getElem?_replicate]
    simp [hi, h i hi]
  · rw [List.getElem?_eq_none (by simpa using hi), List.getElem?_eq_none (by simpa using hi)]
def sp_row (K : PySem.W.Frag) : Sp := fun vs H Q _ => ∃ a m us, vs = [.ref a, .str m] ∧ H a = some (.tup (strsV us)) ∧ (∀ u ∈ us, nameB (.str u) = true) ∧ us.Nodup ∧ ¬ m ∈ us ∧ us.length ≤ 40 ∧ ∀ H', Same H H' → Q (.bl true) H'
theorem strsV_at {us : List Str} {i : Nat} (h : i < us.length) : (strsV us)[i]? = some (.str (us.getD i default)) := by
  unfold strsV
  rw [List.getElem?_map]
  simp [List.getD, h]
theorem strsV_len {us : List Str} : (strsV us).length = us.length := by simp [strsV]
theorem ok_is_row_of_names (T : Txt K mg A) (G_is_name : FnOk P w K mg base CX0 1 A.f_is_name A.d_is_name ["value"] (sp_name K)) : FnOk P w K mg base CX0 2 A.f_is_row_of_names A.d_is_row_of_names ["value", "module"] (sp_row K) := by
  refine T.F_is_row_of_names.ok sc_is_row_of_names (fun vs H Q E h => ?_) (fun cdv Ar outer s H vs Q E hr h => ?_)
  · obtain ⟨_, _, _, rfl, _⟩ := h; rfl
  · obtain ⟨a, m, us, rfl, ha, hn, nd, nm, few, q⟩ := h
    refine ⟨_, (pss_cons (ps_if (PW.pt (pw_or (pt_not (pt_val (pe_callB call_isiD (by rfl) T.m_isinstance (by decide +kernel) (pa_cons (pv 0) (pa_cons (pe_bltn (v := .ty "tuple") rfl T.m_tuple (by decide +kernel) rfl) pa_nil))))) (pw_or1 (pt_not (pt_val (pe_callB (cr_all rfl) (by rfl) T.m_all (by decide +kernel) (pa_cons (pe_lc (own := [("name", 2)]) rfl sc_is_row_of_names.nd (pi_tup (pv 0)) (blkOk_by (own := [("name", 2)]) (N := ["value", "module", "name"]) (sc := defScope s_is_row_of_names) (by decide +kernel)) (fun _ _ _ _ _ => (pg_name (i := 2) sc_is_row_of_names.nd rfl (.inl rfl))) (fun _ _ _ _ _ => pts_nil) (fun _ _ _ _ _ => (L2.pe_call G_is_name (hr.mono (by decide)) (by rfl) T.g_is_name T.F_is_name.kp T.b_is_name .nil pass0 (pa_cons (pv 2) pa_nil)))) pa_nil)))))))
(pss_one (ps_ret pe_bl))
pss_nil)
(pss_one (ps_ret (pe_and (pe_cmpR op_eq (pe_callB call_lenK (by rfl) T.m_len (by decide +kernel) (pa_cons (pe_scK (own := [("name", 2)]) rfl sc_is_row_of_names.nd (pi_tup (pv 0)) (blkOk_by (own := [("name", 2)]) (N := ["value", "module", "name"]) (sc := defScope s_is_row_of_names) (by decide +kernel)) (fun _ _ _ _ _ => (pg_name (i := 2) sc_is_row_of_names.nd rfl (.inl rfl))) (fun _ _ _ _ _ => pts_nil) (fun _ _ _ _ _ => (pv 2))) pa_nil)) (pe_callB call_lenN (by rfl) T.m_len (by decide +kernel) (pa_cons (pv 0) pa_nil)) (nomark _)) (pe_one (pe_cmpR op_notIn_seq (pv 1) (pv 0) (by rfl))))))), ?_⟩
    have da : Da K H (.ref a) (.tuple (us.map .str)) := .tup (SqT.of ha) (da_strs us)
    repeat (walk_at "st")
    refine i_ff (by rfl) ?_
    repeat (walk_at "st")
    refine l_mq wk_tup.q (fun _ => .bl true) (by rw [strsV_len]; exact Nat.lt_of_le_of_lt few (by decide)) (fun H' s => SqT.of (s _ _ ha)) (fun i x H' S hi hr s1 hS => ?_) (fun D H1 n1 s1 e1 => ?_)
    · rw [strsV_len] at hi
      rw [strsV_at hi] at hr
      cases hr
      have nu := hn _ (getD_mem (d := default) hi)
      repeat (walk_at "st")
      refine ⟨_, _, rfl, .str _, fun x e => by cases e; exact nameB_len nu, fun G1 s2 => ?_⟩
      rw [nu]
      exact hS _ s2
    · rw [map_const (v := V.bl true) fun _ _ => rfl, show List.replicate (strsV us).length (V.bl true) = (List.replicate (strsV us).length true).map V.bl from by rw [List.map_replicate]] at e1
      repeat (walk_at "st")
      refine i_ff (by simp) ?_
      repeat (walk_at "st")
      have ha1 := s1 _ _ ha
      refine c_wq wk_tup.q fun D2 H0 n0 s0 e0 => ⟨fun i H => Same H1 H ∧ i ≤ us.length ∧ H D2 = some (SetK P w D2 (fun k => (us.take i).any fun u => decide (k = .inr u)) i), ⟨s0, Nat.zero_le _, ?_⟩, fun i H h => SqT.of (h.1 _ _ ha1), fun i x Ha Hb hi h sa hr => ?_, fun Hb h => ?_⟩
      · rw [e0]
        congr 2
      · obtain ⟨s2, _, e2⟩ := h
        rw [strsV_len] at hi
        rw [strsV_at hi] at hr
        cases hr
        have e2 := sa _ _ e2
        refine cc_yes ?_
        repeat (walk_at "st")
        refine i_tbS ?_
        repeat (walk_at "st")
        refine i_saR (k := .inr (us.getD i default)) e2 (Nat.lt_of_lt_of_le (Nat.succ_lt_succ hi) (Nat.le_trans (Nat.succ_le_succ few) (by decide))) ?_ ?_
        · have := take_new (d := default) nd hi
          rw [List.any_eq_false]
          intro u hu z
          have z := of_decide_eq_true z
          cases z
          exact this hu
        · refine i_put fun G3 o3 e3 => ?_
          refine ⟨Off.new n0 (s2.trans sa) o3, hi, ?_⟩
          rw [e3]
          congr 2
          funext k
          rw [take_add (d := default) hi, List.any_append]
          simp
      · obtain ⟨s2, _, e2⟩ := h
        rw [strsV_len] at e2
        have ha2 := s2 _ _ ha1
        repeat (walk_at "st")
        refine i_lenK e2 ?_
        repeat (walk_at "st")
        rw [strsV_len]
        refine i_tt (decide_eq_true rfl) ?_
        repeat (walk_at "st")
        refine i_inT (SqT.of ha2) rfl (flat_strs _) ?_
        rw [inV_strs]
        have : us.contains m = false := by simpa using nm
        rw [this]
        exact q _ (s1.trans s2)
theorem sum_cast : ∀ xs : List Nat, (xs.map fun n : Nat => (n : Int)).sum = (xs.sum : Nat)
  | [] => rfl
  | x :: xs => by rw [List.map_cons, List.sum_cons, List.sum_cons, sum_cast xs]; omega
/-- a dict of uses -/
structure UsAt (H : Hp) (d : Addr) (tu : Str → Addr) (ns : List Str) (us : Str → List Str) : Prop where
  tab : H d = some (.dK (tabS ns fun n => .ref (tu n)))
  tup : ∀ n ∈ ns, H (tu n) = some (.tup (strsV (us n)))
theorem UsAt.same {H H' : Hp} {d : Addr} {tu : Str → Addr} {ns : List Str} {us : Str → List Str} (h : UsAt H d tu ns us) (s : Same H H') : UsAt H' d tu ns us := ⟨s _ _ h.tab, fun n hn => s _ _ (h.tup n hn)⟩
theorem UsAt.off {H H1 : Hp} {d : Addr} {tu : Str → Addr} {ns : List Str} {us : Str → List Str} (h : UsAt H d tu ns us) (o : Off d H H1) {n : Str} (hn : n ∈ ns) : H1 (tu n) = some (.tup (strsV (us n))) :=
  o.get (fun z => by have t := h.tup n hn; rw [z, h.tab] at t; cases t) (h.tup n hn)
/-- uses that are right but for the counts -/
structure UsW (ns : List Str) (us : Str → List Str) : Prop where
  n0 : 0 < ns.length
  n100 : ns.length ≤ 100
  nm : ∀ n ∈ ns, nameB (.str n) = true
  nd : ns.Nodup
  und : ∀ n ∈ ns, (us n).Nodup
  uin : ∀ n ∈ ns, ∀ u ∈ us n, u ∈ ns
  uself : ∀ n ∈ ns, ¬ n ∈ us n
  few : ∀ n ∈ ns, (us n).length ≤ 40
theorem UsOk.toW {ns : List Str} {us : Str → List Str} (h : UsOk ns us) : UsW ns us := ⟨h.n0, Nat.le_trans h.n12 (by decide), h.nm, h.nd, h.und, h.uin, h.uself, fun _ hn => h.few hn⟩
theorem UsW.ok {ns : List Str} {us : Str → List Str} (h : UsW ns us) (a : ns.length ≤ 12) (b : (ns.map fun n => (us n).length).sum ≤ 40) : UsOk ns us := ⟨h.n0, a, h.nm, h.nd, h.und, h.uin, h.uself, b⟩
def sp_check (K : PySem.W.Frag) (CT : Addr) : Sp := fun vs H Q E => ∃ d tu ns us, vs = [.ref d] ∧ UsAt H d tu ns us ∧ UsW ns us ∧ (ns.length ≤ 12 → (ns.map fun n => (us n).length).sum ≤ 40 → ∀ H', Same H H' → Q .non H') ∧
  (12 < ns.length → Rz H E CT [("limit", .int 12), ("kind", .str "modules")]) ∧ (ns.length ≤ 12 → 40 < (ns.map fun n => (us n).length).sum → Rz H E CT [("limit", .int 40), ("kind", .str "uses")])
theorem ok_check_uses (T : Txt K mg A) (G_is_name : FnOk P w K mg base CX0 1 A.f_is_name A.d_is_name ["value"] (sp_name K)) (G_is_row_of_names : FnOk P w K mg base CX0 2 A.f_is_row_of_names A.d_is_row_of_names ["value", "module"] (sp_row K)) (G_InvalidUsesx_initx : FnOk P w K mg base CX0 1 A.f_InvalidUsesx_initx A.d_InvalidUsesx_initx ["self", "module"] (spI A.c_InvalidUses ["module"])) (G_InvalidNamex_initx : FnOk P w K mg base CX0 1 A.f_InvalidNamex_initx A.d_InvalidNamex_initx ["self", "value"] (spI A.c_InvalidName ["value"])) (G_UnknownModulex_initx : FnOk P w K mg base CX0 1 A.f_UnknownModulex_initx A.d_UnknownModulex_initx ["self", "value"] (spI A.c_UnknownModule ["value"])) (G_TooManyx_initx : FnOk P w K mg base CX0 1 A.f_TooManyx_initx A.d_TooManyx_initx ["self", "kind", "limit"] (spI A.c_TooMany ["kind", "limit"])) : FnOk P w K mg base (L2.CX P w) 3 A.f_check_uses A.d_check_uses ["uses"] (sp_check K A.c_TooMany) := by
  refine T.F_check_uses.okX sc_check_uses (fun vs H Q E h => ?_) (fun cdv Ar outer s H vs Q E hr h => ?_)
  · obtain ⟨_, _, _, _, rfl, _⟩ := h; rfl
  · obtain ⟨d, tu, ns, us, rfl, hU, ok, q, qm, qu⟩ := h
    refine ⟨_, (pss_cons (ps_if (PW.pt (pw_or (pt_not (pt_val (pe_callB call_isiD (by rfl) T.m_isinstance (by decide +kernel) (pa_cons (pv 0) (pa_cons (pe_bltn (v := .ty "dict") rfl T.m_dict (by decide +kernel) rfl) pa_nil))))) (pw_or1 (pt_cmpR op_eq (pe_callB call_lenDk (by rfl) T.m_len (by decide +kernel) (pa_cons (pv 0) pa_nil)) pe_int (nomark _)))))
(pss_one (ps_raiseN rfl (takes_of rfl rfl rfl rfl) (pmk_B T.EX_InvalidUses.o T.iC_InvalidUses T.tI_InvalidUses G_InvalidUsesx_initx (hr.mono (by decide)) T.b_InvalidUsesx_initx pass0 (by rfl) T.gX_InvalidUses (pa_cons pe_non pa_nil))))
pss_nil)
(pss_cons (ps_if (pt_cmpR op_gt (pe_callB call_lenDk (by rfl) T.m_len (by decide +kernel) (pa_cons (pv 0) pa_nil)) (pe_glob (v := .int (12)) rfl T.c_MOST_MODULES ⟨_, rfl⟩) (nomark _))
(pss_one (ps_raiseN rfl (takes_of rfl rfl rfl rfl) (pmk_B T.EX_TooMany.o T.iC_TooMany T.tI_TooMany G_TooManyx_initx (hr.mono (by decide)) T.b_TooManyx_initx pass0 (by rfl) T.gX_TooMany (pa_cons pe_str (pa_cons (pe_glob (v := .int (12)) rfl T.c_MOST_MODULES ⟨_, rfl⟩) pa_nil)))))
pss_nil)
(pss_cons (ps_lock (ps_for (passes_of rfl) rfl (pi_items (pv 0)) (pg_tup rfl (pgs_cons (pg_name (i := 1) sc_check_uses.nd rfl (.inl rfl)) (pgs_cons (pg_name (i := 2) sc_check_uses.nd rfl (.inl rfl)) pgs_nil)))
(pss_cons (ps_if (pt_not (pt_val (L2.pe_call G_is_name (hr.mono (by decide)) (by rfl) T.g_is_name T.F_is_name.kp T.b_is_name .nil pass0 (pa_cons (pv 1) pa_nil))))
(pss_one (ps_raiseN rfl (takes_of rfl rfl rfl rfl) (pmk_B T.EX_InvalidName.o T.iC_InvalidName T.tI_InvalidName G_InvalidNamex_initx (hr.mono (by decide)) T.b_InvalidNamex_initx pass0 (by rfl) T.gX_InvalidName (pa_cons (pv 1) pa_nil))))
pss_nil)
(pss_one (ps_if (pt_not (pt_val (L2.pe_call G_is_row_of_names (hr.mono (by decide)) (by rfl) T.g_is_row_of_names T.F_is_row_of_names.kp T.b_is_row_of_names .nil pass0 (pa_cons (pv 2) (pa_cons (pv 1) pa_nil)))))
(pss_one (ps_raiseN rfl (takes_of rfl rfl rfl rfl) (pmk_B T.EX_InvalidUses.o T.iC_InvalidUses T.tI_InvalidUses G_InvalidUsesx_initx (hr.mono (by decide)) T.b_InvalidUsesx_initx pass0 (by rfl) T.gX_InvalidUses (pa_cons (pv 1) pa_nil))))
pss_nil)))))
(pss_cons (ps_lock (ps_for (passes_of rfl) rfl (pi_values (pv 0)) (pg_name (i := 2) sc_check_uses.nd rfl (.inl rfl))
(pss_one (ps_for (passes_of rfl) rfl (pi_tup (pv 2)) (pg_name (i := 3) sc_check_uses.nd rfl (.inl rfl))
(pss_one (ps_if (pt_cmpR (op_dnotin (hu_of hr)) (pv 3) (pv 0) (by rfl))
(pss_one (ps_raiseN rfl (takes_of rfl rfl rfl rfl) (pmk_B T.EX_UnknownModule.o T.iC_UnknownModule T.tI_UnknownModule G_UnknownModulex_initx (hr.mono (by decide)) T.b_UnknownModulex_initx pass0 (by rfl) T.gX_UnknownModule (pa_cons (pv 3) pa_nil))))
pss_nil))))))
(pss_one (ps_if (pt_cmpR op_gt (pe_callB (cr_sum rfl) (by rfl) T.m_sum (by decide +kernel) (pa_cons (pe_lock (pe_lc (own := [("names", 2)]) rfl sc_check_uses.nd (pi_values (pv 0)) (blkOk_by (own := [("names", 2)]) (N := ["uses", "module", "names", "name"]) (sc := defScope s_check_uses) (by decide +kernel)) (fun _ _ _ _ _ => (pg_name (i := 2) sc_check_uses.nd rfl (.inl rfl))) (fun _ _ _ _ _ => pts_nil) (fun _ _ _ _ _ => (pe_callB (call_lenNK (K := K) (by rfl)) (by rfl) T.m_len (by decide +kernel) (pa_cons (pv 2) pa_nil))))) pa_nil)) (pe_glob (v := .int (40)) rfl T.c_MOST_USES ⟨_, rfl⟩) (nomark _))
(pss_one (ps_raiseN rfl (takes_of rfl rfl rfl rfl) (pmk_B T.EX_TooMany.o T.iC_TooMany T.tI_TooMany G_TooManyx_initx (hr.mono (by decide)) T.b_TooManyx_initx pass0 (by rfl) T.gX_TooMany (pa_cons pe_str (pa_cons (pe_glob (v := .int (40)) rfl T.c_MOST_USES ⟨_, rfl⟩) pa_nil)))))
pss_nil)))))), ?_⟩
    have tab := hU.tab
    have dd : Da K H (.ref d) (.dict _) := .dic (Rd.of tab) (da_uses hU.tup)
    repeat (walk_at "st")
    refine i_ff (by rfl) ?_
    repeat (walk_at "st")
    rw [tabS_len]
    refine i_ff (decide_eq_false fun z => by have := ok.n0; injection z with z; omega) ?_
    repeat (walk_at "st")
    rw [tabS_len]
    refine i_ite (fun c => ?_) (fun c => ?_)
    · repeat (walk_at "st")
      refine i_mkR rfl (by decide) fun c1 H2 hc s6 ec => ?_
      exact qm (by have := of_decide_eq_true c; omega) c1 H2 hc s6 ec
    have n12 : ns.length ≤ 12 := by have := of_decide_eq_false c; omega
    repeat (walk_at "st")
    refine i_lockS tab trivial fun od H1 o1 e1 => ?_
    repeat (walk_at "st")
    refine f_wq wq_items (fun i σ H' => Same H1 H' ∧ ∃ y1 y2 y3, σ = [some (.ref d), y1, y2, y3]) ⟨Same.refl _, _, _, _, rfl⟩ (fun i σ H' h => h.1 _ _ e1) (fun i x σ H0 H2 hi h sa hr => ?_) (fun σ H2 h => ?_)
    · obtain ⟨s1, y1, y2, y3, rfl⟩ := h
      obtain ⟨p, x1, x2, rfl, eT, k1, k2⟩ := hr
      dsimp only at k1 k2
      rw [tabS_len] at hi
      rw [tabS_at hi] at k1 k2
      cases k1; cases k2
      have hm := getD_mem (d := default) hi
      have s1' := s1.trans sa
      have nu := ok.nm _ hm
      have tu' := s1' _ _ (hU.off o1 hm)
      repeat (walk_at "st")
      refine ⟨_, _, rfl, .str _, fun x e => by cases e; exact nameB_len nu, fun G1 s2 => ?_⟩
      rw [nu]
      repeat (walk_at "st")
      refine i_ff (by rfl) ?_
      repeat (walk_at "st")
      refine ⟨_, _, _, rfl, s2 _ _ tu', fun u hu => ok.nm _ (ok.uin _ hm _ hu), ok.und _ hm, ok.uself _ hm, ok.few _ hm, fun G2 s3 => ?_⟩
      repeat (walk_at "st")
      refine i_ff (by rfl) ?_
      repeat (walk_at "st")
      exact ⟨s1'.trans (s2.trans s3), _, _, _, rfl⟩
    · obtain ⟨s1, y1, y2, y3, rfl⟩ := h
      refine i_back o1 tab s1 e1 fun G s _ => ?_
      have hU2 := hU.same s
      have tab2 := hU2.tab
      repeat (walk_at "st")
      refine i_lockS tab2 trivial fun od2 H3 o3 e3 => ?_
      repeat (walk_at "st")
      refine f_wq wq_values (fun i σ H' => Same H3 H' ∧ ∃ y1 y2 y3, σ = [some (.ref d), y1, y2, y3]) ⟨Same.refl _, _, _, _, rfl⟩ (fun i σ H' h => h.1 _ _ e3) (fun i x σ H0 H4 hi h sa hr => ?_) (fun σ H4 h => ?_)
      · obtain ⟨s4, y1, y2, y3, rfl⟩ := h
        obtain ⟨k, hk⟩ := hr
        rw [tabS_len] at hi
        rw [tabS_at hi] at hk
        cases hk
        have hm := getD_mem (d := default) hi
        have s4' := s4.trans sa
        have tu' := s4' _ _ (hU2.off o3 hm)
        repeat (walk_at "st")
        refine f_wq wk_tup.q (fun j σ H' => Same H3 H' ∧ ∃ y1 y2, σ = [some (.ref d), y1, some (.ref (tu (ns.getD i default))), y2]) ⟨s4', _, _, rfl⟩ (fun j σ H' h => SqT.of (h.1 _ _ (hU2.off o3 hm))) (fun j x σ H5 H6 hj h sb hr => ?_) (fun σ H5 h => ?_)
        · obtain ⟨s5, y1, y2, rfl⟩ := h
          rw [strsV_len] at hj
          rw [strsV_at hj] at hr
          cases hr
          have hu := ok.uin _ hm _ (getD_mem (d := default) hj)
          repeat (walk_at "st")
          refine i_dnotin (dget_S0 (.inr ⟨_, (s5.trans sb) _ _ e3⟩)) ?_
          rw [if_pos hu]
          repeat (walk_at "st")
          refine i_ff (by rfl) ?_
          repeat (walk_at "st")
          exact ⟨s5.trans sb, _, _, rfl⟩
        · obtain ⟨s5, y1, y2, rfl⟩ := h
          repeat (walk_at "st")
          exact ⟨_, _, _, rfl⟩
      · obtain ⟨s4, y1, y2, y3, rfl⟩ := h
        refine i_back o3 tab2 s4 e3 fun G2 s' _ => ?_
        have hU3 := hU2.same s'
        have tab3 := hU3.tab
        repeat (walk_at "st")
        refine i_lockE tab3 trivial fun od5 H5 o5 e5 => ?_
        repeat (walk_at "st")
        refine l_mq wq_values (fun i => .int ((us (ns.getD i default)).length : Nat)) (by rw [tabS_len]; exact Nat.lt_of_le_of_lt n12 (by decide)) (fun H' s => s _ _ e5) (fun i x H' S hi hr s6 hS => ?_) (fun D H6 n6 s6 e6 => ?_)
        · obtain ⟨k, hk⟩ := hr
          rw [tabS_len] at hi
          rw [tabS_at hi] at hk
          cases hk
          have hm := getD_mem (d := default) hi
          have tu' := s6 _ _ (hU3.off o5 hm)
          repeat (walk_at "st")
          rw [strsV_len]
          exact hS _ (Same.refl _)
        · refine i_back o5 tab3 s6 e5 fun G3 s3 o3 => ?_
          have e7 : H6 D = some (.lst (((ns.map fun n => (us n).length).map fun k : Nat => (k : Int)).map V.int)) := by
            have z : (List.range ns.length).map (fun i => V.int ((us (ns.getD i default)).length : Nat)) = ns.map fun n => V.int ((us n).length : Nat) := by
              conv => rhs; rw [← range_pick (d := default) ns]
              rw [List.map_map]; rfl
            rw [e6, tabS_len, z, List.map_map, List.map_map]; rfl
          have e8 := o3.get (fun z => by rw [z, e5] at n6; cases n6) e7
          repeat (walk_at "st")
          refine i_rSum (SqL.of e8) ?_
          rw [sum_cast]
          repeat (walk_at "st")
          refine i_ite (fun c => ?_) (fun c => ?_)
          · repeat (walk_at "st")
            refine i_mkR rfl (by decide) fun c1 H2 hc s6 ec => ?_
            exact (qu n12 (by have := of_decide_eq_true c; omega)).same (s.trans (s'.trans s3)) c1 H2 hc s6 ec
          · repeat (walk_at "st")
            exact q n12 (by have := of_decide_eq_false c; omega) _ (s.trans (s'.trans s3))

end

open PySem PySem.Spec PyProof.Rows L2




section
variable {P : Program} {w : World} {K : PySem.W.Frag} {mg : Str → Option Value} {base : Heap} {A : Ad}
def badN (d : PyData) (n : Int) : Option V := match d with
  | .list ds => if (ds.length : Int) = n then badV d else some .non
  | _ => some .non
def sp_cnw (K : PySem.W.Frag) (C : Addr) : Sp := fun vs H Q E => ∃ v d n, vs = [v, .int n] ∧ Da K H v d ∧ (badN d n = none → ∀ H', Same H H' → Q .non H') ∧ (∀ o, badN d n = some o → Rz H E C [("position", o)])
theorem ok_check_new_windows (T : Txt K mg A) (G_is_window : FnOk P w K mg base CX0 3 A.f_is_window A.d_is_window ["value"] (sp_dat K winB)) (G_InvalidWindowsx_initx : FnOk P w K mg base CX0 1 A.f_InvalidWindowsx_initx A.d_InvalidWindowsx_initx ["self", "position"] (spI A.c_InvalidWindows ["position"])) :
    FnOk P w K mg base (L2.CX P w) 4 A.f_check_new_windows A.d_check_new_windows ["windows", "count"] (sp_cnw K A.c_InvalidWindows) := by
  refine T.F_check_new_windows.okX sc_check_new_windows (fun vs H Q E h => ?_) (fun cdv Ar outer s H vs Q E hr h => ?_)
  · obtain ⟨_, _, _, rfl, _⟩ := h; rfl
  · obtain ⟨v, d, n, rfl, hd, qy, qn⟩ := h
    refine ⟨_, (pss_cons (ps_if (PW.pt (pw_or (pt_not (pt_val (pe_callB call_isiD (by rfl) T.m_isinstance (by decide +kernel) (pa_cons (pv 0) (pa_cons (pe_bltn (v := .ty "list") rfl T.m_list (by decide +kernel) rfl) pa_nil))))) (pw_or1 (pt_cmpR op_ne (pe_callB call_lenN (by rfl) T.m_len (by decide +kernel) (pa_cons (pv 0) pa_nil)) (pv 1) (nomark _)))))
(pss_one (ps_raiseN rfl (takes_of rfl rfl rfl rfl) (pmk_B T.EX_InvalidWindows.o T.iC_InvalidWindows T.tI_InvalidWindows G_InvalidWindowsx_initx (hr.mono (by decide)) T.b_InvalidWindowsx_initx pass0 (by rfl) T.gX_InvalidWindows (pa_cons pe_non pa_nil))))
pss_nil)
(pss_one (ps_for (passes_of rfl) rfl (pi_enum (by rfl) T.m_enumerate (pa_cons (pv 0) pa_nil)) (pg_tup rfl (pgs_cons (pg_name (i := 2) sc_check_new_windows.nd rfl (.inl rfl)) (pgs_cons (pg_name (i := 3) sc_check_new_windows.nd rfl (.inl rfl)) pgs_nil)))
(pss_one (ps_if (pt_not (pt_val (L2.pe_call G_is_window (hr.mono (by decide)) (by rfl) T.g_is_window T.F_is_window.kp T.b_is_window .nil pass0 (pa_cons (pv 3) pa_nil))))
(pss_one (ps_raiseN rfl (takes_of rfl rfl rfl rfl) (pmk_B T.EX_InvalidWindows.o T.iC_InvalidWindows T.tI_InvalidWindows G_InvalidWindowsx_initx (hr.mono (by decide)) T.b_InvalidWindowsx_initx pass0 (by rfl) T.gX_InvalidWindows (pa_cons (pv 2) pa_nil))))
pss_nil))))), ?_⟩
    repeat (walk_at "st")
    refine i_ite (fun e => ?_) (fun e => ?_)
    · have e' : isi d "list" = false := by simpa using e
      repeat (walk_at "st")
      refine i_mkR rfl (by decide) fun c H2 hc s2 ec => ?_
      exact qn .non (by cases d <;> first | rfl | (exfalso; revert e'; simp [isi, tyN])) c H2 hc s2 ec
    · have e' : isi d "list" = true := by simpa using e
      obtain ⟨a, xs, ds, rfl, rfl, hq, ha⟩ := da_list hd e'
      repeat (walk_at "st")
      refine i_ite (fun c => ?_) (fun c => ?_)
      · have c' : ¬ (ds.length : Int) = n := by rw [← ha.len]; simpa using c
        repeat (walk_at "st")
        refine i_mkR rfl (by decide) fun c H2 hc s2 ec => ?_
        exact qn .non (by show (if (ds.length : Int) = n then _ else _) = _; rw [if_neg c']) c H2 hc s2 ec
      · have c' : (ds.length : Int) = n := by rw [← ha.len]; simpa using c
        have eb : badN (.list ds) n = badV (.list ds) := by show (if (ds.length : Int) = n then _ else _) = _; rw [if_pos c']
        rw [eb] at qy qn
        repeat (walk_at "st")
        refine f_wq wq_enum (fun i σ H' => Same H H' ∧ (∀ j, j < i → ∀ d, ds[j]? = some d → winB d = true) ∧ ∃ y1 y2, σ = [some (.ref a), some (.int n), y1, y2]) ⟨Same.refl _, fun j hj => absurd hj (Nat.not_lt_zero _), _, _, rfl⟩ (fun i σ H' h => Same.seq h.1 hq) (fun i x σ H0 H1 hi h sa hr => ?_) (fun σ H' h => ?_)
        · obtain ⟨s1, hj, y1, y2, rfl⟩ := h
          obtain ⟨p, x1, x2, rfl, eT, e1, e2⟩ := hr
          cases e1
          obtain ⟨d2, hd2, k2⟩ := da_get ha e2
          have s1' := s1.trans sa
          repeat (walk_at "st")
          refine ⟨_, _, rfl, k2.same s1', fun G1 s2 => ?_⟩
          repeat (walk_at "st")
          refine i_ite (fun e => ?_) (fun e => ?_)
          · have e' : winB d2 = false := by simpa using e
            repeat (walk_at "st")
            refine i_mkR rfl (by decide) fun c H2 hc s3 ec => ?_
            exact qn (.int i) (badV_at hj hd2 e') c H2 (none_of (s1'.trans s2) hc) ((s1'.trans s2).trans s3) ec
          · have e' : winB d2 = true := by simpa using e
            repeat (walk_at "st")
            refine ⟨s1'.trans s2, fun j hj2 d hd => ?_, _, _, rfl⟩
            rcases Nat.lt_succ_iff_lt_or_eq.mp hj2 with z | z
            · exact hj j z d hd
            · rw [z, hd2] at hd; cases hd; exact e'
        · obtain ⟨s1, hj, y1, y2, rfl⟩ := h
          repeat (walk_at "st")
          refine qy (badV_none fun d hd => ?_) _ s1
          obtain ⟨j, hj2, rfl⟩ := List.getElem_of_mem hd
          exact hj j (by rw [ha.len]; exact hj2) _ (by simp)
/-! ### a new catalog -/
def S0 (ns : List Str) (us : Str → List Str) : CS := ⟨ns, us, fun _ => 0, fun _ _ => [], fun _ => [], []⟩
def sp_cinit (K : PySem.W.Frag) (C CT : Addr) : Sp := fun vs H Q E => ∃ p d dx tu ns us, vs = [.ref p, .ref d] ∧ H p = some (.ins C dx []) ∧ UsAt H d tu ns us ∧ UsW ns us ∧
  (ns.length ≤ 12 → (ns.map fun n => (us n).length).sum ≤ 40 → ∀ (L : CL) H', L.p = p → L.tu = tu → Off p H H' → (∀ x, (S0 ns us).ok x → x ≠ .ob → H (L.at x) = none) → CatAt K C H' L (S0 ns us) → Q .non H') ∧
  (12 < ns.length → Rz H E CT [("limit", .int 12), ("kind", .str "modules")]) ∧ (ns.length ≤ 12 → 40 < (ns.map fun n => (us n).length).sum → Rz H E CT [("limit", .int 40), ("kind", .str "uses")])
theorem pairs_nodup {S : CS} (nd : S.ns.Nodup) (und : ∀ n ∈ S.ns, (S.us n).Nodup) : S.pairs.Nodup := by
  unfold CS.pairs
  have go : ∀ ns : List Str, ns.Nodup → (∀ n ∈ ns, (S.us n).Nodup) → (ns.flatMap fun m => (S.us m).map fun u => (m, u)).Nodup := by
    intro ns
    induction ns with
    | nil => intro _ _; simp
    | cons n ns ih =>
      intro h k
      rw [List.flatMap_cons, List.nodup_append]
      rw [List.nodup_cons] at h
      refine ⟨?_, ih h.2 fun m hm => k m (List.mem_cons_of_mem _ hm), ?_⟩
      · refine List.Pairwise.map _ (fun a b ne z => ne (by injection z)) (k n (by simp))
      · intro a ha b hb e
        subst e
        obtain ⟨u, _, rfl⟩ := List.mem_map.mp ha
        obtain ⟨m, hm, hb⟩ := List.mem_flatMap.mp hb
        obtain ⟨u2, _, e⟩ := List.mem_map.mp hb
        cases e
        exact h.1 hm
  exact go _ nd und
theorem TabQ.back {α : Type} {mk : List α → (α → Addr) → HO} {el u : HO} {G2 H3 Hb G4 : Hp} {D d : Addr} {od : Obj} {xs : List α} {f : α → Addr} (q : TabQ mk el H3 D xs f Hb) (o3 : Off d G2 H3) (e3 : H3 d = some (.frz od u)) (nD : H3 D = none) (o4 : Off d Hb G4) : TabQ mk el G2 D xs f G4 := by
  have ne : ∀ {a}, H3 a = none → a ≠ d := fun n z => by rw [z, e3] at n; cases n
  exact ⟨o4.get (ne nD) q.tab, fun x hx => ⟨none_off o3 e3 (q.els x hx).1, (q.els x hx).2.1, o4.get (ne (q.els x hx).1) (q.els x hx).2.2⟩, q.inj⟩
theorem pairs_pre {ns : List Str} {us : Str → List Str} {i : Nat} : (S0 (ns.take i) us).pairs <+: (S0 ns us).pairs := by
  show (ns.take i).flatMap (fun m => (us m).map fun u => (m, u)) <+: ns.flatMap fun m => (us m).map fun u => (m, u)
  conv => rhs; rw [← List.take_append_drop i ns]
  rw [List.flatMap_append]
  exact List.prefix_append _ _
theorem pairs_succ {ns : List Str} {us : Str → List Str} {i : Nat} (h : i < ns.length) : (S0 (ns.take (i + 1)) us).pairs = (S0 (ns.take i) us).pairs ++ (us (ns.getD i default)).map fun u => (ns.getD i default, u) := by
  show (ns.take (i + 1)).flatMap (fun m => (us m).map fun u => (m, u)) = (ns.take i).flatMap (fun m => (us m).map fun u => (m, u)) ++ _
  rw [take_add (d := default) h, List.flatMap_append]
  simp
theorem pairs_step {ns : List Str} {us : Str → List Str} {i j : Nat} (h : i < ns.length) (hj : j < (us (ns.getD i default)).length) :
    ((S0 (ns.take i) us).pairs ++ ((us (ns.getD i default)).take j).map fun u => (ns.getD i default, u)) ++ [(ns.getD i default, (us (ns.getD i default)).getD j default)] = (S0 (ns.take i) us).pairs ++ ((us (ns.getD i default)).take (j + 1)).map fun u => (ns.getD i default, u) := by
  rw [take_add (d := default) hj, List.map_append, List.append_assoc]
  rfl
theorem pairs_pre2 {ns : List Str} {us : Str → List Str} {i j : Nat} (h : i < ns.length) : (S0 (ns.take i) us).pairs ++ ((us (ns.getD i default)).take j).map (fun u => (ns.getD i default, u)) <+: (S0 ns us).pairs := by
  refine List.IsPrefix.trans ?_ (pairs_pre (i := i + 1))
  rw [pairs_succ h]
  exact (List.prefix_append_right_inj _).mpr ((List.take_prefix _ _).map _)
theorem pairs_len {ns : List Str} {us : Str → List Str} : (S0 ns us).pairs.length = (ns.map fun n => (us n).length).sum := by
  show (ns.flatMap fun m => (us m).map fun u => (m, u)).length = _
  rw [List.length_flatMap]
  simp
theorem inj_stage {R : Type} {at_ : R → Addr} {ok : R → Prop} (stg : R → Nat) (HS : Nat → Hp) (mono : ∀ k a, HS k a ≠ none → HS (k + 1) a ≠ none) (hA : ∀ x, ok x → HS (stg x + 1) (at_ x) ≠ none) (hB : ∀ x, ok x → stg x ≠ 0 → HS (stg x) (at_ x) = none)
    (same : ∀ x y, ok x → ok y → stg x = stg y → at_ x = at_ y → x = y) : ∀ x y, ok x → ok y → at_ x = at_ y → x = y := by
  have up : ∀ (a : Addr) (k : Nat), HS k a ≠ none → ∀ d, HS (k + d) a ≠ none := fun a k h d => by
    induction d with
    | zero => exact h
    | succ d ih => exact mono _ _ ih
  have lt : ∀ x y, ok x → ok y → stg x < stg y → at_ x ≠ at_ y := fun x y kx ky h e => by
    obtain ⟨d, hd⟩ : ∃ d, stg y = stg x + 1 + d := ⟨stg y - (stg x + 1), by omega⟩
    have z := up _ _ (hA x kx) d
    rw [← hd, e] at z
    exact z (hB y ky (by omega))
  intro x y kx ky e
  rcases Nat.lt_trichotomy (stg x) (stg y) with h | h | h
  · exact absurd e (lt x y kx ky h)
  · exact same x y kx ky h e
  · exact absurd e.symm (lt y x ky kx h)
theorem off_pres {p : Addr} {H1 H2 : Hp} {o : HO} (f : Off p H1 H2) (e : H2 p = some o) (a : Addr) (h : H1 a ≠ none) : H2 a ≠ none := fun n => by
  by_cases q : a = p
  · subst q; rw [e] at n; cases n
  · exact h (off_none f q n)
def stgC : CRo → Nat
  | .ob => 0
  | .use => 1
  | .win => 2
  | .col _ _ => 2
  | .cnt => 3
  | .wdr => 4
  | .gon _ => 4
  | .log => 5
theorem i_cc2 {u0 : Addr → HO} {wi wi1 : TI} {g g1 : TG} {tt tt1 : L2.TT} {tb : Addr → TB} {vs vs1 : List Nat} {σ : L2.St} {H : Hp} {Q : VK} (q : wi σ H fun J H1 => CcR u0 J g tt (fun D σ2 H3 Nx => wi1 σ2 H3 fun J1 H4 => CcI J1 g1 tt1 (tb D) vs1 σ2 Nx H4) vs σ H1 Q) : tCc2 u0 wi g tt wi1 g1 tt1 tb vs vs1 σ H Q := q
theorem ok_Catalogx_initx (T : Txt K mg A) (G_check_uses : FnOk P w K mg base (L2.CX P w) 3 A.f_check_uses A.d_check_uses ["uses"] (sp_check K A.c_TooMany)) : FnOk P w K mg base (L2.CX P w) 4 A.f_Catalogx_initx A.d_Catalogx_initx ["self", "uses"] (sp_cinit K A.c_Catalog A.c_TooMany) := by
  refine T.F_Catalogx_initx.okX sc_Catalogx_initx (fun vs H Q E h => ?_) (fun cdv Ar outer s H vs Q E hr h => ?_)
  · obtain ⟨_, _, _, _, _, _, rfl, _⟩ := h; rfl
  · obtain ⟨p, d, dx, tu, ns, us, rfl, hp, hU, okW, q, qm, qu⟩ := h
    refine ⟨_, (pss_cons (ps_expr (L2.pe_call G_check_uses (hr.mono (by decide)) (by rfl) T.g_check_uses T.F_check_uses.kp T.b_check_uses .nil (passes_call (takes_of rfl rfl rfl rfl) fun _ _ _ _ h => h) (pa_cons (pv 1) pa_nil)))
(pss_cons (ps_fldC T.cl_Catalog T.na_Catalog_use_table (pv 0) (pe_callTy call_dictDN (by rfl) T.m_dict (by decide +kernel) (pa_cons (pv 1) pa_nil)))
(pss_cons (ps_fldC T.cl_Catalog T.na_Catalog_window_table (pv 0) (pe_lock (pe_dc2G (own := [("user", 2), ("names", 3), ("used", 4)]) (vs1 := [4]) (g := (gTup K 2 (gCons (gName 2) (gCons (gName 3) gNil)))) true (Nat.lt_of_succ_lt (hu_of hr)) rfl sc_Catalogx_initx.nd (pi_items (pv 1)) (blkOk_by (own := [("user", 2), ("names", 3), ("used", 4)]) (N := ["self", "uses", "user", "names", "used", "module"]) (sc := defScope s_Catalogx_initx) (by decide +kernel)) (by decide) (fun _ _ _ _ _ => (pg_tup rfl (pgs_cons (pg_name (i := 2) sc_Catalogx_initx.nd rfl (.inl rfl)) (pgs_cons (pg_name (i := 3) sc_Catalogx_initx.nd rfl (.inl rfl)) pgs_nil)))) (fun _ _ _ _ _ => pts_nil) (fun _ _ _ _ _ => (pi_tupK (K := K) (by rfl) (pv 3))) (fun _ _ _ _ _ => (pg_name (i := 4) sc_Catalogx_initx.nd rfl (.inl rfl))) (fun _ _ _ _ _ => pts_nil) (fun _ _ _ _ _ => (pe_tup (pa_cons (pv 2) (pa_cons (pv 4) pa_nil)))) (fun _ _ _ _ _ => (pe_lst pa_nil)))))
(pss_cons (ps_fldC T.cl_Catalog T.na_Catalog_count_table (pv 0) (pe_lock (pe_dcG (own := [("module", 5)]) false (Nat.lt_of_succ_lt (hu_of hr)) rfl sc_Catalogx_initx.nd (pi_keys (pv 1)) (blkOk_by (own := [("module", 5)]) (N := ["self", "uses", "user", "names", "used", "module"]) (sc := defScope s_Catalogx_initx) (by decide +kernel)) (fun _ _ _ _ _ => (pg_name (i := 5) sc_Catalogx_initx.nd rfl (.inl rfl))) (fun _ _ _ _ _ => pts_nil) (fun _ _ _ _ _ => (pv 5)) (fun _ _ _ _ _ => pe_int))))
(pss_cons (ps_fldC T.cl_Catalog T.na_Catalog_withdrawn_table (pv 0) (pe_lock (pe_dcG (own := [("module", 5)]) false (Nat.lt_of_succ_lt (hu_of hr)) rfl sc_Catalogx_initx.nd (pi_keys (pv 1)) (blkOk_by (own := [("module", 5)]) (N := ["self", "uses", "user", "names", "used", "module"]) (sc := defScope s_Catalogx_initx) (by decide +kernel)) (fun _ _ _ _ _ => (pg_name (i := 5) sc_Catalogx_initx.nd rfl (.inl rfl))) (fun _ _ _ _ _ => pts_nil) (fun _ _ _ _ _ => (pv 5)) (fun _ _ _ _ _ => pe_dnewK))))
(pss_one (ps_fldC T.cl_Catalog T.na_Catalog_record (pv 0) (pe_lst pa_nil)))))))), ?_⟩
    have dp : d ≠ p := fun z => by have := hU.tab; rw [z, hp] at this; cases this
    repeat (walk_at "st")
    refine ⟨d, tu, ns, us, rfl, hU, okW, fun h12 h40 G0 s0 => ?_, qm, qu⟩
    have ok := okW.ok h12 h40
    have q := q h12 h40
    have fullN : (S0 ns us).pairs.Nodup := pairs_nodup (S := S0 ns us) ok.nd ok.und
    have fullL : (S0 ns us).pairs.length ≤ 40 := by rw [pairs_len]; exact ok.u40
    have tab0 := s0 _ _ hU.tab
    have hp0 := s0 _ _ hp
    repeat (walk_at "st")
    refine i_new fun p1 G1 n1 s1 e1 => ?_
    have a1p : p1 ≠ p := fun z => by rw [z, hp0] at n1; cases n1
    have hp1 := s1 _ _ hp0
    repeat (walk_at "st")
    refine i_put fun G2 o2 e2 => ?_
    have tab2 := o2.get dp (s1 _ _ tab0)
    rw [show putF "use_table" (V.ref p1) [] = [(("use_table" : Str), V.ref p1)] from rfl] at e2
    repeat (walk_at "st")
    refine i_lockE tab2 trivial fun od H3 o3 e3 => ?_
    refine i_cc2 ?_
    repeat (walk_at "st")
    refine c_wq wq_items fun D H0 n0 sD eD => ⟨fun i H => ∃ tc, Same H3 H ∧ TabQ mkP (.lst []) H3 D (S0 (ns.take i) us).pairs tc H, ⟨fun _ => 0, sD, eD, (fun x hx => nomatch hx), (fun x hx => nomatch hx)⟩, fun i H h => h.choose_spec.1 _ _ e3, fun i x Ha Hb hi h sa hr => ?_, fun Hb h => ?_⟩
    · obtain ⟨tc, s4, t4⟩ := h
      obtain ⟨r, x1, x2, rfl, eT, k1, k2⟩ := hr
      dsimp only at k1 k2
      rw [tabS_len] at hi
      rw [tabS_at hi] at k1 k2
      cases k1; cases k2
      have hm := getD_mem (d := default) hi
      have tu' : H3 (tu (ns.getD i default)) = some (.tup (strsV (us (ns.getD i default)))) := by
        have tt := s0 _ _ (hU.tup _ hm)
        have t2 := s1 _ _ tt
        have t3 := o2.get (fun z => by rw [z, hp0] at tt; cases tt) t2
        exact o3.get (fun z => by rw [z, tab2] at t3; cases t3) t3
      refine cc_yes ?_
      repeat (walk_at "st")
      refine ci_wq wk_tup.q (fun j H => ∃ tc, Same H3 H ∧ TabQ mkP (.lst []) H3 D ((S0 (ns.take i) us).pairs ++ ((us (ns.getD i default)).take j).map fun u => (ns.getD i default, u)) tc H) ⟨tc, s4.trans sa, by simpa using t4.same sa⟩ (fun j H h => SqT.of (h.choose_spec.1 _ _ tu')) (fun j x Hc Hd hj h sb hr => ?_) (fun Hc h => ?_)
      · obtain ⟨tc, s5, t5⟩ := h
        rw [strsV_len] at hj
        rw [strsV_at hj] at hr
        cases hr
        refine cc_yes ?_
        have pre := pairs_pre2 (us := us) (j := j + 1) hi
        rw [← pairs_step hi hj] at pre
        have nin : ¬ (ns.getD i default, (us (ns.getD i default)).getD j default) ∈ (S0 (ns.take i) us).pairs ++ ((us (ns.getD i default)).take j).map fun u => (ns.getD i default, u) := by
          have nd := fullN.sublist pre.sublist
          rw [List.nodup_append] at nd
          exact fun z => nd.2.2 _ z _ (by simp) rfl
        have len := pre.length_le
        rw [List.length_append] at len
        have t5 := t5.same sb
        have tab5 := t5.tab
        repeat (walk_at "st")
        refine i_new fun p6 G6 n6 s6 e6 => ?_
        repeat (walk_at "st")
        refine i_new fun p7 G7 n7 s7 e7 => ?_
        have t7 := (t5.same s6).same s7
        refine i_dpT (k := kk (ns.getD i default, (us (ns.getD i default)).getD j default)) t7.tab (s7 _ _ e6) (by simp only [tabP, List.length_map]; exact Nat.lt_of_lt_of_le (Nat.lt_of_lt_of_le (Nat.lt_succ_self _) (Nat.le_trans len fullL)) (by decide)) ?_
        refine i_put fun G8 o8 e8 => ?_
        rw [mkP_add nin] at e8
        have t8 := (t5.same s6).add nin (.inl ((s5.trans sb).trans s6)) s7 n7 e7 o8 e8
        rw [pairs_step hi hj] at t8
        exact ⟨_, Off.new n0 (((s5.trans sb).trans s6).trans s7) o8, t8⟩
      · obtain ⟨tc, s5, t5⟩ := h
        rw [strsV_len, List.take_length, ← pairs_succ hi] at t5
        exact ⟨tc, s5, t5⟩
    · obtain ⟨tc, s4, t4⟩ := h
      rw [tabS_len, List.take_length] at t4
      refine i_back o3 tab2 s4 e3 fun G4 s4' o4 => ?_
      have q2 := t4.back o3 e3 n0 o4
      have n2 : G2 D = none := none_off o3 e3 n0
      have ap2 : D ≠ p := fun z => by rw [z, e2] at n2; cases n2
      have hp4 := s4' _ _ e2
      have tab4 := s4' _ _ tab2
      repeat (walk_at "st")
      refine i_put fun G5 o5 e5 => ?_
      rw [show putF "window_table" (V.ref D) [(("use_table" : Str), V.ref p1)] = [(("use_table" : Str), V.ref p1), ("window_table", .ref D)] from rfl] at e5
      have tab5 := o5.get dp tab4
      repeat (walk_at "st")
      refine i_lockE tab5 trivial fun od6 H6 o6 e6 => ?_
      repeat (walk_at "st")
      refine ⟨d, od6, rfl, .inl ⟨_, e6, ?_⟩⟩
      refine c_wq wq_keys fun D2 H0' n2' sD2 eD2 => ⟨fun i H => Same H6 H ∧ H D2 = some (.dK (tabS (ns.take i) fun _ => .int 0)), ⟨sD2, eD2⟩, fun i H h => h.1 _ _ e6, fun i x Ha Hb hi h sa hr => ?_, fun Hb h => ?_⟩
      · obtain ⟨s7, t7⟩ := h
        obtain ⟨k, v, hk, rfl⟩ := hr
        rw [tabS_len] at hi
        rw [tabS_at hi] at hk
        cases hk
        have nin := take_new (d := default) ok.nd hi
        refine cc_yes ?_
        repeat (walk_at "st")
        refine i_dpK (k := .inr (ns.getD i default)) (sa _ _ t7) (by rw [tabS_len, List.length_take]; exact Nat.lt_of_le_of_lt (Nat.le_trans (Nat.min_le_right _ _) ok.n12) (by decide)) ?_
        refine i_put fun G8 o8 e8 => ?_
        refine ⟨Off.new n2' (s7.trans sa) o8, ?_⟩
        rw [e8, take_add (d := default) hi]
        exact congrArg (fun x => some (HO.dK x)) (tabS_add (f := fun _ => V.int 0) nin)
      · obtain ⟨s7, t7⟩ := h
        rw [tabS_len, List.take_length] at t7
        refine i_back o6 tab5 s7 e6 fun G7 s7' o7 => ?_
        have e7 := o7.get (fun z => by rw [z, e6] at n2'; cases n2') t7
        have n7 : G5 D2 = none := none_off o6 e6 n2'
        have a3p : D2 ≠ p := fun z => by rw [z, e5] at n7; cases n7
        have hp7 := s7' _ _ e5
        have tab7 := s7' _ _ tab5
        repeat (walk_at "st")
        refine i_put fun G8 o8 e8 => ?_
        rw [show putF "count_table" (V.ref D2) [(("use_table" : Str), V.ref p1), ("window_table", .ref D)] = [(("use_table" : Str), V.ref p1), ("window_table", .ref D), ("count_table", .ref D2)] from rfl] at e8
        have tab8 := o8.get dp tab7
        repeat (walk_at "st")
        refine i_lockE tab8 trivial fun od9 H9 o9 e9 => ?_
        repeat (walk_at "st")
        refine ⟨d, od9, rfl, .inl ⟨_, e9, ?_⟩⟩
        refine c_wq wq_keys fun D3 H0'' n3' sD3 eD3 => ⟨fun i H => ∃ tw, Same H9 H ∧ TabQ mkS (.dK []) H9 D3 (ns.take i) tw H, ⟨fun _ => 0, sD3, eD3, (fun x hx => nomatch hx), (fun x hx => nomatch hx)⟩, fun i H h => h.choose_spec.1 _ _ e9, fun i x Ha Hb hi h sa hr => ?_, fun Hb h => ?_⟩
        · obtain ⟨tw, s10, t10⟩ := h
          obtain ⟨k, v, hk, rfl⟩ := hr
          rw [tabS_len] at hi
          rw [tabS_at hi] at hk
          cases hk
          have nin := take_new (d := default) ok.nd hi
          refine cc_yes ?_
          repeat (walk_at "st")
          refine i_new fun p11 G11 n11 s11 e11 => ?_
          have t11 := (t10.same sa).same s11
          refine i_dpK (k := .inr (ns.getD i default)) t11.tab (by rw [tabS_len, List.length_take]; exact Nat.lt_of_le_of_lt (Nat.le_trans (Nat.min_le_right _ _) ok.n12) (by decide)) ?_
          refine i_put fun G12 o12 e12 => ?_
          rw [mkS_add nin] at e12
          have t12 := (t10.same sa).add nin (.inl (s10.trans sa)) s11 n11 e11 o12 e12
          rw [← take_add (d := default) hi] at t12
          exact ⟨_, Off.new n3' ((s10.trans sa).trans s11) o12, t12⟩
        · obtain ⟨tw, s10, t10⟩ := h
          rw [tabS_len, List.take_length] at t10
          refine i_back o9 tab8 s10 e9 fun G10 s10' o10 => ?_
          have q3 := t10.back o9 e9 n3' o10
          have n10 : G8 D3 = none := none_off o9 e9 n3'
          have a4p : D3 ≠ p := fun z => by rw [z, e8] at n10; cases n10
          have hp10 := s10' _ _ e8
          repeat (walk_at "st")
          refine i_put fun G11 o11 e11 => ?_
          rw [show putF "withdrawn_table" (V.ref D3) [(("use_table" : Str), V.ref p1), ("window_table", .ref D), ("count_table", .ref D2)] = [(("use_table" : Str), V.ref p1), ("window_table", .ref D), ("count_table", .ref D2), ("withdrawn_table", .ref D3)] from rfl] at e11
          repeat (walk_at "st")
          refine i_new fun p12 G12 n12 s12 e12 => ?_
          have a5p : p12 ≠ p := fun z => by rw [z, e11] at n12; cases n12
          have hp12 := s12 _ _ e11
          repeat (walk_at "st")
          refine i_put fun G13 o13 e13 => ?_
          rw [show putF "record" (V.ref p12) [(("use_table" : Str), V.ref p1), ("window_table", .ref D), ("count_table", .ref D2), ("withdrawn_table", .ref D3)] = [(("use_table" : Str), V.ref p1), ("window_table", .ref D), ("count_table", .ref D2), ("withdrawn_table", .ref D3), ("record", .ref p12)] from rfl] at e13
          -- from each stage to the end
          have f1112 : Off p G11 G13 := (Off.of_same s12).trans o13
          have f10 : Off p G10 G13 := o11.trans f1112
          have f8 : Off p G8 G13 := (Off.of_same s10').trans f10
          have f7 : Off p G7 G13 := o8.trans f8
          have f5 : Off p G5 G13 := (Off.of_same s7').trans f7
          have f4 : Off p G4 G13 := o5.trans f5
          have f2 : Off p G2 G13 := (Off.of_same s4').trans f4
          have f1 : Off p G1 G13 := o2.trans f2
          have f0 : Off p H G13 := (Off.of_same (s0.trans s1)).trans f1
          have g1 : Off p H G1 := .of_same (s0.trans s1)
          have g2 : Off p H G2 := g1.trans o2
          have g5 : Off p H G5 := g2.trans ((Off.of_same s4').trans o5)
          have g8 : Off p H G8 := g5.trans ((Off.of_same s7').trans o8)
          have g11 : Off p H G11 := g8.trans ((Off.of_same s10').trans o11)
          have tcp : ∀ q ∈ (S0 ns us).pairs, tc q ≠ p := fun q hq z => by have := (q2.els q hq).1; rw [z, e2] at this; cases this
          have twp : ∀ n ∈ ns, tw n ≠ p := fun n hn z => by have := (q3.els n hn).1; rw [z, e8] at this; cases this
          have hs : ∀ {a : Addr} {h : Hp} {o : HO}, h a = some o → h a ≠ none := fun e n => by rw [e] at n; cases n
          refine q ⟨p, dx, p1, D, D2, D3, p12, tu, fun m u => tc (m, u), tw⟩ G13 rfl rfl f0 (fun x kx nx => ?_) ⟨fun x kx => ?_, ?_⟩
          · cases x with
            | ob => exact absurd rfl nx
            | use => exact none_of s0 n1
            | win => exact off_none g2 ap2 n2
            | cnt => exact off_none g5 a3p n7
            | wdr => exact off_none g8 a4p n10
            | log => exact off_none g11 a5p n12
            | col m u => have z := CS.mem_pairs.mpr kx; exact off_none g2 (tcp _ z) (q2.els _ z).1
            | gon n => exact off_none g8 (twp n kx) (q3.els n kx).1
          · cases x with
            | ob => exact ⟨_, e13, rfl⟩
            | use => exact ⟨_, f1.get a1p e1, rfl, fun n hn => tp_get (f0.get (fun z => by have t := hU.tup n hn; rw [show tu n = p from z, hp] at t; cases t) (hU.tup n hn)) rfl⟩
            | win => exact ⟨_, f4.get ap2 q2.tab, rfl⟩
            | cnt => exact ⟨_, f7.get a3p e7, rfl⟩
            | wdr => exact ⟨_, f10.get a4p q3.tab, rfl⟩
            | log => exact ⟨_, o13.get a5p e12, [], rfl, .nil⟩
            | col m u => have z := CS.mem_pairs.mpr kx; exact ⟨_, f4.get (tcp _ z) (q2.els _ z).2.2, [], rfl, .nil⟩
            | gon n => exact ⟨_, f10.get (twp n kx) (q3.els n kx).2.2, rfl⟩
          · refine inj_stage stgC (fun k => match k with
              | 0 => H
              | 1 => G0
              | 2 => G2
              | 3 => G5
              | 4 => G8
              | 5 => G11
              | _ => G13) (fun k a h => ?_) (fun x kx => ?_) (fun x kx nz => ?_) fun x y kx ky hst e => ?_
            · match k with
              | 0 => exact off_pres (.of_same s0) hp0 a h
              | 1 => exact off_pres ((Off.of_same s1).trans o2) e2 a h
              | 2 => exact off_pres ((Off.of_same s4').trans o5) e5 a h
              | 3 => exact off_pres ((Off.of_same s7').trans o8) e8 a h
              | 4 => exact off_pres ((Off.of_same s10').trans o11) e11 a h
              | 5 => exact off_pres f1112 e13 a h
              | _ + 6 => exact h
            · cases x with
              | ob => exact hs hp0
              | use => exact hs (o2.get a1p e1)
              | win => exact hs (o5.get ap2 q2.tab)
              | cnt => exact hs (o8.get a3p e7)
              | wdr => exact hs (o11.get a4p q3.tab)
              | log => exact hs (o13.get a5p e12)
              | col m u => have z := CS.mem_pairs.mpr kx; exact hs (o5.get (tcp _ z) (q2.els _ z).2.2)
              | gon n => exact hs (o11.get (twp n kx) (q3.els n kx).2.2)
            · cases x with
              | ob => exact absurd rfl nz
              | use => exact n1
              | win => exact n2
              | cnt => exact n7
              | wdr => exact n10
              | log => exact n12
              | col m u => exact (q2.els _ (CS.mem_pairs.mpr kx)).1
              | gon n => exact (q3.els n kx).1
            · cases x <;> cases y <;> first | rfl | exact absurd hst (by decide) | skip
              all_goals first
                | (exfalso; exact (q2.els _ (CS.mem_pairs.mpr ky)).2.1 (Eq.symm e))
                | (exfalso; exact (q2.els _ (CS.mem_pairs.mpr kx)).2.1 e)
                | (exfalso; exact (q3.els _ ky).2.1 (Eq.symm e))
                | (exfalso; exact (q3.els _ kx).2.1 e)
                | (have z := q2.inj _ (CS.mem_pairs.mpr kx) _ (CS.mem_pairs.mpr ky) e; cases z; rfl)
                | (have z := q3.inj _ kx _ ky e; cases z; rfl)
                | exact absurd hst (by simp [stgC])

end

open PySem PySem.Spec PyProof.Rows L2




section
variable {P : Program} {w : World} {K : PySem.W.Frag} {mg : Str → Option Value} {base : Heap} {A : Ad}
/-! ### withdraw -/
def wdRec (n : Str) (i : Int) : PyData := .tuple [.str "withdraw", .str n, .int i]
def sp_withdraw (K : PySem.W.Frag) (C CU CV : Addr) : Sp := fun vs H Q E => ∃ L S v d u e, vs = [.ref (CL.p L), v, u] ∧ CatAt K C H L S ∧ Da K H v d ∧ Da K H u e ∧ (∀ n, d = .str n → (S.gone n).length < 1000) ∧ S.log.length < 1000 ∧
  (∀ n (i : Int), d = .str n → n ∈ S.ns → e = .int i → availB S n e = true → ∀ H', CatAt K C H' L ((S.addGone n i).addRec (wdRec n i)) → Fr (CatY K C L S).Own H H' → Q .non H') ∧
  (modB S d = false → Rz H E CU [("value", v)]) ∧ (∀ n, d = .str n → n ∈ S.ns → availB S n e = false → Rz H E CV [("version", u), ("module", v)])
theorem availB_int {S : CS} {n : Str} {e : PyData} (h : availB S n e = true) : ∃ i, e = .int i ∧ ¬ i ∈ S.gone n ∧ 0 ≤ i ∧ i < S.cnt n := by
  cases e with
  | int i => simp [availB] at h; exact ⟨i, rfl, h.2.2, h.1, h.2.1⟩
  | _ => simp [availB] at h
theorem own_at {K : PySem.W.Frag} {C : Addr} {L : CL} {S : CS} {x : CRo} (k : S.ok x) : (CatY K C L S).Own (L.at x) := ⟨x, k, rfl⟩
theorem tabI_len {ks : List Int} : (tabI ks).length = ks.length := by simp [tabI]
theorem ok_Catalog_withdraw (T : Txt K mg A) (G_Catalog_is_available : FnOk P w K mg base (L2.CX P w) 4 A.f_Catalog_is_available A.d_Catalog_is_available ["self", "module", "version"] (spM2 K A.c_Catalog A.c_UnknownModule fun S n u e H Q => ∀ H', Same H H' → Q (.bl (availB S n e)) H')) (G_UnknownVersionx_initx : FnOk P w K mg base CX0 1 A.f_UnknownVersionx_initx A.d_UnknownVersionx_initx ["self", "module", "version"] (spI A.c_UnknownVersion ["module", "version"])) :
    FnOk P w K mg base (L2.CX P w) 5 A.f_Catalog_withdraw A.d_Catalog_withdraw ["self", "module", "version"] (sp_withdraw K A.c_Catalog A.c_UnknownModule A.c_UnknownVersion) := by
  refine T.F_Catalog_withdraw.okX sc_Catalog_withdraw (fun vs H Q E h => ?_) (fun cdv Ar outer s H vs Q E hr h => ?_)
  · obtain ⟨_, _, _, _, _, _, rfl, _⟩ := h; rfl
  · obtain ⟨L, S, v, d, u, e, rfl, hC, hd, hu, few, few2, q, qe, qv⟩ := h
    refine ⟨_, (pss_cons (ps_if (pt_not (pt_val (pe_methC T.cl_Catalog T.mt_Catalog_is_available G_Catalog_is_available (hr.mono (by decide)) T.b_Catalog_is_available (passes_call (takes_of rfl rfl rfl rfl) fun _ _ _ _ h => h) (pv 0) (pa_cons (pv 1) (pa_cons (pv 2) pa_nil)))))
(pss_one (ps_raiseN rfl (takes_of rfl rfl rfl rfl) (pmk_B T.EX_UnknownVersion.o T.iC_UnknownVersion T.tI_UnknownVersion G_UnknownVersionx_initx (hr.mono (by decide)) T.b_UnknownVersionx_initx pass0 (by rfl) T.gX_UnknownVersion (pa_cons (pv 1) (pa_cons (pv 2) pa_nil)))))
pss_nil)
(pss_cons (ps_dp (hu_of hr) (pe_dg (hu_of hr) (pe_fldC T.cl_Catalog T.na_Catalog_withdrawn_table (pv 0)) (pv 1)) (pv 2) pe_bl)
(pss_one (ps_expr (pe_bm PySem.F.plainAttrs_list PySem.F.slot_list_append PySem.F.type_list_append mt_append (pe_fldC T.cl_Catalog T.na_Catalog_record (pv 0)) (pa_cons (pe_tup (pa_cons pe_str (pa_cons (pv 1) (pa_cons (pv 2) pa_nil)))) pa_nil)))))), ?_⟩
    have ob := hC.ob
    repeat (walk_at "st")
    refine ⟨L, S, v, d, u, e, rfl, hC, hd, hu, fun n en hn G1 s1 => ?_, fun hm => qe hm⟩
    subst en
    cases da_str hd
    have hC1 : CatAt K A.c_Catalog G1 L S := Lay.At.same hC s1
    have ob1 := hC1.ob
    repeat (walk_at "st")
    refine i_ite (fun c => ?_) (fun c => ?_)
    · have c' : availB S n e = false := by simpa using c
      repeat (walk_at "st")
      refine i_mkR rfl (by decide) fun c H2 hc s2 ec => ?_
      exact (qv n rfl hn c').same s1 c H2 hc s2 ec
    · have c' : availB S n e = true := by simpa using c
      obtain ⟨i, rfl, ng, i0, i1⟩ := availB_int c'
      cases hu
      repeat (walk_at "st")
      refine i_dg (dget_S (Rd.of hC1.wdr) hn) ?_
      repeat (walk_at "st")
      refine i_dpI (hC1.gon hn) (by rw [tabI_len]; exact Nat.lt_trans (few n rfl) (by decide)) ?_
      refine i_put fun G2 o2 e2 => ?_
      have hC2 := CatAt.addGone hC1 hn ng o2 e2
      have ob2 := hC2.ob
      obtain ⟨xs, log, dl⟩ := hC2.log
      repeat (walk_at "st")
      refine i_new fun p3 G3 n3 s3 e3 => ?_
      have log3 := s3 _ _ log
      have hC3 : CatAt K A.c_Catalog G3 L (S.addGone n i) := Lay.At.same hC2 s3
      have xl : xs.length < sizeLine := Nat.lt_trans (by rw [dl.len]; exact few2) (by decide)
      repeat (walk_at "st")
      refine i_put fun G4 o4 e4 => ?_
      refine q n i rfl hn rfl c' _ (CatAt.addRec hC3 o4 log3 e4 (.tup (SqT.of (tp_get e3 rfl)) (.cons (.str _) (.cons (.str _) (.cons (.int _) .nil))))) ?_
      exact (Fr.of_same s1).trans ((Fr.of_off o2 (own_at (x := .gon n) hn)).trans ((Fr.of_same s3).trans (Fr.of_off o4 (own_at (x := .log) trivial))))
/-! ### publish -/
def fallDD (l d : PyData) : Bool := match winP l, winP d with
  | some a, some b => !risesW a b
  | _, _ => false
def fallC (S : CS) (n u : Str) (d : PyData) : Bool := match (S.col n u).getLast? with
  | none => false
  | some l => fallDD l d
def falls (S : CS) (n : Str) (ws : List PyData) : List Bool := ((S.us n).zip ws).map fun q => fallC S n q.1 q.2
def pubRec (n : Str) (ws : List PyData) : PyData := .tuple [.str "publish", .str n, .tuple ws]
def CS.addCols (S : CS) (n : Str) (l : List (Str × PyData)) : CS := l.foldl (fun S q => S.addCol n q.1 q.2) S
def CS.pub (S : CS) (n : Str) (ws : List PyData) : CS := ((S.addCols n ((S.us n).zip ws)).setCnt n (S.cnt n + 1)).addRec (pubRec n ws)
theorem addCols_ns {n : Str} : ∀ (l : List (Str × PyData)) (S : CS), (S.addCols n l).ns = S.ns ∧ (S.addCols n l).us = S.us ∧ (S.addCols n l).cnt = S.cnt ∧ (S.addCols n l).gone = S.gone ∧ (S.addCols n l).log = S.log
  | [], _ => ⟨rfl, rfl, rfl, rfl, rfl⟩
  | q :: l, S => addCols_ns l (S.addCol n q.1 q.2)
theorem addCols_len {n m u : Str} : ∀ (l : List (Str × PyData)) (S : CS), ((S.addCols n l).col m u).length ≤ (S.col m u).length + l.length
  | [], S => Nat.le_refl _
  | q :: l, S => by
    refine Nat.le_trans (addCols_len l (S.addCol n q.1 q.2)) ?_
    have : ((S.addCol n q.1 q.2).col m u).length ≤ (S.col m u).length + 1 := by
      show (if m = n ∧ u = q.1 then S.col m u ++ [q.2] else S.col m u).length ≤ _
      split <;> simp
    simp only [List.length_cons]
    omega
theorem addCols_add {S : CS} {n : Str} {l : List (Str × PyData)} {q : Str × PyData} : (S.addCols n l).addCol n q.1 q.2 = S.addCols n (l ++ [q]) := by
  unfold CS.addCols
  rw [List.foldl_append]
  rfl
theorem flat_win {d : PyData} (h : winB d = true) : flatD d = true := by
  obtain ⟨w, hw⟩ := Option.isSome_iff_exists.mp (show (winP d).isSome = true from h)
  obtain ⟨rfl, _⟩ := winP_some hw
  obtain ⟨l, o⟩ := w
  cases o <;> rfl
theorem badN_list {d : PyData} {k : Nat} (h : badN d (k : Nat) = none) : ∃ ws, d = .list ws ∧ ws.length = k ∧ ∀ w ∈ ws, winB w = true := by
  cases d <;> simp [badN] at h
  rename_i ds
  by_cases e : (ds.length : Int) = (k : Int)
  · exact ⟨ds, rfl, by omega, badV_all (by rw [if_pos e] at h; exact h)⟩
  · rw [if_neg e] at h; cases h
def sp_publish (K : PySem.W.Frag) (C CM CW CN CT : Addr) : Sp := fun vs H Q E => ∃ L S v x d e, vs = [.ref (CL.p L), v, x] ∧ CatAt K C H L S ∧ Da K H v d ∧ Da K H x e ∧ S.ns.length ≤ 12 ∧
  (modB S d = false → Rz H E CM [("value", v)]) ∧
  ∀ n, d = .str n → n ∈ S.ns → (∀ o, badN e ((S.us n).length : Nat) = some o → Rz H E CW [("position", o)]) ∧
  ∀ ws, e = .list ws → ws.length = (S.us n).length → (∀ d ∈ ws, winB d = true) → ∃ a xs, x = .ref a ∧ H a = some (.lst xs) ∧ ¬ (CatY K C L S).Own a ∧ DaAll K H xs ws ∧
  S.cnt n ≤ 16 ∧ (S.us n).length ≤ 40 ∧ S.log.length < 1000 ∧ (∀ u ∈ S.us n, (S.col n u).length ≤ 500 ∧ ∀ d ∈ S.col n u, winB d = true) ∧
  ((∀ b ∈ falls S n ws, b = false) → S.cnt n < 16 → ∀ H', CatAt K C H' L (S.pub n ws) → Fr (CatY K C L S).Own H H' → Q (.int (S.cnt n : Nat)) H') ∧
  ((∀ b ∈ falls S n ws, b = false) → S.cnt n = 16 → Rz H E CT [("limit", .int 16), ("kind", .str "versions")]) ∧
  (∀ (i : Nat) u, (falls S n ws)[i]? = some true → (∀ j, j < i → (falls S n ws)[j]? = some false) → (S.us n)[i]? = some u → Rz H E CN [("used", .str u), ("user", .str n)])
theorem falls_at {S : CS} {n : Str} {ws : List PyData} {i : Nat} {u : Str} {d : PyData} (hu : (S.us n)[i]? = some u) (hd : ws[i]? = some d) : (falls S n ws)[i]? = some (fallC S n u d) := by
  unfold falls
  rw [List.getElem?_map, List.getElem?_zip_eq_some (z := (u, d)) |>.mpr ⟨hu, hd⟩]
  rfl
theorem falls_len {S : CS} {n : Str} {ws : List PyData} (h : ws.length = (S.us n).length) : (falls S n ws).length = (S.us n).length := by
  unfold falls
  rw [List.length_map, List.length_zip, h, Nat.min_self]
theorem getD_at {α : Type} {xs : List α} {i : Nat} {d : α} (h : i < xs.length) : xs[i]? = some (xs.getD i d) := by
  simp [List.getD, h]
theorem daf_at {b : Bool} {K : PySem.W.Frag} {H : Hp} {vs : List V} {ds : List PyData} (h : DaAllF b K H vs ds) {i : Nat} {v : V} (e : vs[i]? = some v) : ∃ d, ds[i]? = some d ∧ DaF b K H v d := by
  have hl := h.len
  have hi : i < vs.length := (List.getElem?_eq_some_iff.mp e).1
  obtain ⟨v', hv', hd⟩ := daf_get h (List.getElem?_eq_getElem (by omega : i < ds.length))
  rw [e] at hv'; cases hv'
  exact ⟨_, List.getElem?_eq_getElem _, hd⟩
theorem last_of {b : Bool} {K : PySem.W.Frag} {H : Hp} {vs : List V} {ds : List PyData} (h : DaAllF b K H vs ds) (ne : vs.isEmpty = false) : ∃ v d, atI vs (-1) = some v ∧ ds.getLast? = some d ∧ DaF b K H v d ∧ d ∈ ds := by
  have hl := h.len
  have hn : vs.length ≠ 0 := fun z => by rw [List.length_eq_zero_iff.mp z] at ne; cases ne
  obtain ⟨v, hv⟩ : ∃ v, vs[vs.length - 1]? = some v := ⟨_, List.getElem?_eq_getElem (by omega)⟩
  obtain ⟨d, hd, k⟩ := daf_at h hv
  refine ⟨v, d, ?_, ?_, k, List.mem_of_getElem? hd⟩
  · have e : vs = vs.dropLast ++ [v] := by
      have ne2 : vs ≠ [] := fun z => hn (by rw [z]; rfl)
      have gl : vs.getLast ne2 = v := by
        have z := List.getLast_eq_getElem ne2
        rw [List.getElem?_eq_getElem (by omega : vs.length - 1 < vs.length)] at hv
        rw [z]; exact Option.some.inj hv
      rw [← gl]
      exact (List.dropLast_concat_getLast ne2).symm
    rw [e]; exact atI_last _ _
  · rw [List.getLast?_eq_getElem?, ← hl, hd]
theorem ok_Catalog_publish (T : Txt K mg A) (G_require_module : FnOk P w K mg base (L2.CX P w) 3 A.f_require_module A.d_require_module ["catalog", "value"] (sp_rm K A.c_Catalog A.c_UnknownModule)) (G_check_new_windows : FnOk P w K mg base (L2.CX P w) 4 A.f_check_new_windows A.d_check_new_windows ["windows", "count"] (sp_cnw K A.c_InvalidWindows)) (G_rises : FnOk P w K mg base (L2.CX P w) 5 A.f_rises A.d_rises ["first", "second"] (sp_rises K A.c_InvalidWindow))
    (G_NotRisingx_initx : FnOk P w K mg base CX0 1 A.f_NotRisingx_initx A.d_NotRisingx_initx ["self", "user", "used"] (spI A.c_NotRising ["user", "used"])) (G_TooManyx_initx : FnOk P w K mg base CX0 1 A.f_TooManyx_initx A.d_TooManyx_initx ["self", "kind", "limit"] (spI A.c_TooMany ["kind", "limit"])) :
    FnOk P w K mg base (L2.CX P w) 6 A.f_Catalog_publish A.d_Catalog_publish ["self", "module", "windows"] (sp_publish K A.c_Catalog A.c_UnknownModule A.c_InvalidWindows A.c_NotRising A.c_TooMany) := by
  refine T.F_Catalog_publish.okX sc_Catalog_publish (fun vs H Q E h => ?_) (fun cdv Ar outer s H vs Q E hr h => ?_)
  · obtain ⟨_, _, _, _, _, _, rfl, _⟩ := h; rfl
  · obtain ⟨L, S, v, x, d, e, rfl, hC, hv, hx, n12, qm, q0⟩ := h
    refine ⟨_, (pss_cons (ps_expr (L2.pe_call G_require_module (hr.mono (by decide)) (by rfl) T.g_require_module T.F_require_module.kp T.b_require_module .nil (passes_call (takes_of rfl rfl rfl rfl) fun _ _ _ _ h => h) (pa_cons (pv 0) (pa_cons (pv 1) pa_nil))))
(pss_cons (ps_set (i := 3) sc_Catalog_publish.nd rfl (.inl rfl) (pe_dg (hu_of hr) (pe_fldC T.cl_Catalog T.na_Catalog_use_table (pv 0)) (pv 1)))
(pss_cons (ps_expr (L2.pe_call G_check_new_windows (hr.mono (by decide)) (by rfl) T.g_check_new_windows T.F_check_new_windows.kp T.b_check_new_windows .nil (passes_call (takes_of rfl rfl rfl rfl) fun _ _ _ _ h => h) (pa_cons (pv 2) (pa_cons (pe_callB call_lenN (by rfl) T.m_len (by decide +kernel) (pa_cons (pv 3) pa_nil)) pa_nil))))
(pss_cons (ps_for (passes_of rfl) rfl (pi_zipM (by rfl) T.m_zip (pa_cons (pv 3) (pa_cons (pv 2) pa_nil))) (pg_tup rfl (pgs_cons (pg_name (i := 4) sc_Catalog_publish.nd rfl (.inl rfl)) (pgs_cons (pg_name (i := 5) sc_Catalog_publish.nd rfl (.inl rfl)) pgs_nil)))
(pss_cons (ps_set (i := 6) sc_Catalog_publish.nd rfl (.inl rfl) (pe_dg (hu_of hr) (pe_fldC T.cl_Catalog T.na_Catalog_window_table (pv 0)) (pe_tup (pa_cons (pv 1) (pa_cons (pv 4) pa_nil)))))
(pss_one (ps_if (PW.pt (pw_and (pt_cmpR (op_neNil (Nat.lt_of_succ_lt (hu_of hr))) (pv 6) (pe_lst pa_nil) (nomark _)) (pw_and1 (pt_not (pt_val (L2.pe_call G_rises (hr.mono (by decide)) (by rfl) T.g_rises T.F_rises.kp T.b_rises .nil (passes_call (takes_of rfl rfl rfl rfl) fun _ _ _ _ h => h) (pa_cons (pe_ix ix_list (pv 6) (pe_un un_neg pe_int) (fun _ _ => rfl)) (pa_cons (pv 5) pa_nil))))))))
(pss_one (ps_raiseN rfl (takes_of rfl rfl rfl rfl) (pmk_B T.EX_NotRising.o T.iC_NotRising T.tI_NotRising G_NotRisingx_initx (hr.mono (by decide)) T.b_NotRisingx_initx pass0 (by rfl) T.gX_NotRising (pa_cons (pv 1) (pa_cons (pv 4) pa_nil)))))
pss_nil))))
(pss_cons (ps_set (i := 7) sc_Catalog_publish.nd rfl (.inl rfl) (pe_dg (hu_of hr) (pe_fldC T.cl_Catalog T.na_Catalog_count_table (pv 0)) (pv 1)))
(pss_cons (ps_if (pt_cmpR op_ge (pv 7) (pe_glob (v := .int (16)) rfl T.c_MOST_VERSIONS ⟨_, rfl⟩) (nomark _))
(pss_one (ps_raiseN rfl (takes_of rfl rfl rfl rfl) (pmk_B T.EX_TooMany.o T.iC_TooMany T.tI_TooMany G_TooManyx_initx (hr.mono (by decide)) T.b_TooManyx_initx pass0 (by rfl) T.gX_TooMany (pa_cons pe_str (pa_cons (pe_glob (v := .int (16)) rfl T.c_MOST_VERSIONS ⟨_, rfl⟩) pa_nil)))))
pss_nil)
(pss_cons (ps_for (passes_of rfl) rfl (pi_zipM (by rfl) T.m_zip (pa_cons (pv 3) (pa_cons (pv 2) pa_nil))) (pg_tup rfl (pgs_cons (pg_name (i := 4) sc_Catalog_publish.nd rfl (.inl rfl)) (pgs_cons (pg_name (i := 5) sc_Catalog_publish.nd rfl (.inl rfl)) pgs_nil)))
(pss_one (ps_expr (pe_bm PySem.F.plainAttrs_list PySem.F.slot_list_append PySem.F.type_list_append mt_append (pe_dg (hu_of hr) (pe_fldC T.cl_Catalog T.na_Catalog_window_table (pv 0)) (pe_tup (pa_cons (pv 1) (pa_cons (pv 4) pa_nil)))) (pa_cons (pv 5) pa_nil)))))
(pss_cons (ps_dp (hu_of hr) (pe_fldC T.cl_Catalog T.na_Catalog_count_table (pv 0)) (pv 1) (pe_op op_add (pv 7) pe_int))
(pss_cons (ps_expr (pe_bm PySem.F.plainAttrs_list PySem.F.slot_list_append PySem.F.type_list_append mt_append (pe_fldC T.cl_Catalog T.na_Catalog_record (pv 0)) (pa_cons (pe_tup (pa_cons pe_str (pa_cons (pv 1) (pa_cons (pe_callTy call_tupL (by rfl) T.m_tuple (by decide +kernel) (pa_cons (pv 2) pa_nil)) pa_nil)))) pa_nil)))
(pss_one (ps_ret (pv 7)))))))))))), ?_⟩
    have ob := hC.ob
    repeat (walk_at "st")
    refine ⟨L, S, _, _, rfl, hC, hv, fun hm => ?_, qm⟩
    obtain ⟨n, rfl, hn⟩ : ∃ n, d = .str n ∧ n ∈ S.ns := by
      cases d <;> simp [modB] at hm
      exact ⟨_, rfl, hm⟩
    obtain ⟨qw, q1⟩ := q0 n rfl hn
    cases hv
    repeat (walk_at "st")
    refine i_dg (dget_S (Rd.of hC.use) hn) ?_
    have tu := hC.tup hn
    repeat (walk_at "st")
    have el : ((strsV (S.us n)).length : Nat) = (S.us n).length := strsV_len
    refine ⟨_, _, _, rfl, hx, fun bn G1 s1 => ?_, fun o eo => qw o (by rw [← el]; exact eo)⟩
    have bn : badN e ((S.us n).length : Nat) = none := by rw [← el]; exact bn
    obtain ⟨ws, rfl, hlen, hw⟩ := badN_list bn
    obtain ⟨a, xs, rfl, ha, own, hd, c16, uf, lf, cols, qy, qT, qn⟩ := q1 ws rfl hlen hw
    have hC1 : CatAt K A.c_Catalog G1 L S := Lay.At.same hC s1
    have ob1 := hC1.ob
    have tu1 := s1 _ _ tu
    have ha1 := s1 _ _ ha
    have dl := hd.len
    have hmin : (S.us n).length = min (strsV (S.us n)).length xs.length := by rw [strsV_len, dl, hlen, Nat.min_self]
    repeat (walk_at "st")
    refine f_wq (wq_zm hmin) (fun i σ H' => Same G1 H' ∧ (∀ j, j < i → (falls S n ws)[j]? = some false) ∧ ∃ y1 y2 y3 y4, σ = [some (.ref L.p), some (.str n), some (.ref a), some (.ref (L.tu n)), y1, y2, y3, y4]) ⟨Same.refl _, fun j hj => absurd hj (Nat.not_lt_zero _), _, _, _, _, rfl⟩ (fun i σ H' h => ⟨SqT.of (h.1 _ _ tu1), SqL.of (h.1 _ _ ha1)⟩) (fun i x σ Ha Hb hi h sa hr => ?_) (fun σ H' h => ?_)
    · obtain ⟨s2, hj, y1, y2, y3, y4, rfl⟩ := h
      obtain ⟨r, x1, x2, rfl, eT, k1, k2⟩ := hr
      dsimp only at k1 k2
      rw [strsV_at hi] at k1
      cases k1
      have hum := getD_mem (d := default) hi
      have hu := getD_at (d := default) hi
      obtain ⟨dw, hdw, kw⟩ := daf_at hd k2
      have fa := falls_at (S := S) (n := n) hu hdw
      have s2' := s2.trans sa
      have hC2 : CatAt K A.c_Catalog Hb L S := Lay.At.same hC1 s2'
      have ob2 := hC2.ob
      have wdw := hw dw (List.mem_of_getElem? hdw)
      repeat (walk_at "st")
      refine i_new fun p3 G3 n3 s3 e3 => ?_
      repeat (walk_at "st")
      refine i_dg (dget_P (Rd.of (s3 _ _ hC2.win)) e3 (CS.mem_pairs.mpr ⟨hn, hum⟩)) ?_
      obtain ⟨cs, hcs, dcs⟩ := hC2.col hn hum
      have hcs3 := s3 _ _ hcs
      repeat (walk_at "st")
      refine i_new fun p4 G4 n4 s4 e4 => ?_
      have hcs4 := s4 _ _ hcs3
      repeat (walk_at "st")
      refine i_ite (fun c => ?_) (fun c => ?_)
      · have c' : cs.isEmpty = false := by simpa using c
        obtain ⟨vl, dl', hat, hgl, kl, ml⟩ := last_of dcs c'
        have wl := (cols _ hum).2 dl' ml
        repeat (walk_at "st")
        have st := (s1.trans s2').trans (s3.trans s4)
        refine ⟨_, _, _, _, rfl, DaF.same (tp_same.trans (s3.trans s4)) kl, DaF.same st kw, fun w1 w2 e1 e2 G5 s5 => ?_, (fun z => by rw [wl] at z; cases z), (fun _ z => by rw [wdw] at z; cases z)⟩
        have ef : fallC S n ((S.us n).getD i default) dw = !risesW w1 w2 := by
          unfold fallC
          rw [hgl]
          show fallDD dl' dw = _
          unfold fallDD
          rw [e1, e2]
        repeat (walk_at "st")
        refine i_ite (fun c2 => ?_) (fun c2 => ?_)
        · repeat (walk_at "st")
          refine i_mkR rfl (by decide) fun c H2 hc s6 ec => ?_
          exact (qn i _ (by rw [fa, ef, c2]) hj hu).same (st.trans s5) c H2 hc s6 ec
        · repeat (walk_at "st")
          refine ⟨s2'.trans ((s3.trans s4).trans s5), fun j hj2 => ?_, _, _, _, _, rfl⟩
          rcases Nat.lt_succ_iff_lt_or_eq.mp hj2 with z | z
          · exact hj j z
          · rw [z, fa, ef, c2]
      · have c' : cs = [] := by simpa using c
        subst c'
        have e0 : S.col n ((S.us n).getD i default) = [] := by
          have := dcs.len
          exact List.length_eq_zero_iff.mp this.symm
        have ef : fallC S n ((S.us n).getD i default) dw = false := by
          unfold fallC
          rw [e0]; rfl
        repeat (walk_at "st")
        refine ⟨s2'.trans (s3.trans s4), fun j hj2 => ?_, _, _, _, _, rfl⟩
        rcases Nat.lt_succ_iff_lt_or_eq.mp hj2 with z | z
        · exact hj j z
        · rw [z, fa, ef]
    · obtain ⟨s2, hj, y1, y2, y3, y4, rfl⟩ := h
      have ok : ∀ b ∈ falls S n ws, b = false := fun b hb => by
        obtain ⟨j, hj2, e⟩ := List.getElem_of_mem hb
        have := hj j (by rw [← falls_len hlen]; exact hj2)
        rw [List.getElem?_eq_getElem hj2, e] at this
        exact Option.some.inj this
      have s2' := s1.trans s2
      have hC2 : CatAt K A.c_Catalog H' L S := Lay.At.same hC s2'
      have ob2 := hC2.ob
      repeat (walk_at "st")
      refine i_dg (dget_S (Rd.of hC2.cnt) hn) ?_
      repeat (walk_at "st")
      refine i_ite (fun c => ?_) (fun c => ?_)
      · repeat (walk_at "st")
        refine i_mkR rfl (by decide) fun c1 H2 hc s6 ec => ?_
        exact (qT ok (by have := of_decide_eq_true c; omega)).same s2' c1 H2 hc s6 ec
      have qy := qy ok (by have := of_decide_eq_false c; omega)
      have ha2 := s2' _ _ ha
      have tu2 := s2' _ _ tu
      repeat (walk_at "st")
      have keep : ∀ {G : Hp}, Fr (CatY K A.c_Catalog L S).Own H' G → G a = some (.lst xs) ∧ G (L.tu n) = some (.tup ((S.us n).map V.str)) := fun f => ⟨f _ _ (by exact own) ha2, f _ _ (Lay.At.not_tp hC2 tu2 rfl) tu2⟩
      refine f_wq (wq_zm hmin) (fun i σ G => CatAt K A.c_Catalog G L (S.addCols n (((S.us n).zip ws).take i)) ∧ Fr (CatY K A.c_Catalog L S).Own H' G ∧ ∃ y1 y2 y3, σ = [some (.ref L.p), some (.str n), some (.ref a), some (.ref (L.tu n)), y1, y2, y3, some (.int (S.cnt n : Nat))]) ⟨by simpa [CS.addCols] using hC2, Fr.refl _ _, _, _, _, rfl⟩ (fun i σ G h => ⟨SqT.of (keep h.2.1).2, SqL.of (keep h.2.1).1⟩) (fun i x σ Ha Hb hi h sa hr => ?_) (fun σ G h => ?_)
      · obtain ⟨hCa, fa, y1, y2, y3, rfl⟩ := h
        obtain ⟨r, x1, x2, rfl, eT, k1, k2⟩ := hr
        dsimp only at k1 k2
        rw [strsV_at hi] at k1
        cases k1
        have hum := getD_mem (d := default) hi
        have hu := getD_at (d := default) hi
        obtain ⟨dw, hdw, kw⟩ := daf_at hd k2
        have hCb : CatAt K A.c_Catalog Hb L (S.addCols n (((S.us n).zip ws).take i)) := Lay.At.same hCa sa
        have obb := hCb.ob
        have wdw := hw dw (List.mem_of_getElem? hdw)
        have es := addCols_ns (n := n) (((S.us n).zip ws).take i) S
        have hn' : n ∈ (S.addCols n (((S.us n).zip ws).take i)).ns := by rw [es.1]; exact hn
        have hum' : (S.us n).getD i default ∈ (S.addCols n (((S.us n).zip ws).take i)).us n := by rw [es.2.1]; exact hum
        repeat (walk_at "st")
        refine i_new fun p3 G3 n3 s3 e3 => ?_
        repeat (walk_at "st")
        refine i_dg (dget_P (Rd.of (s3 _ _ hCb.win)) e3 (CS.mem_pairs.mpr ⟨hn', hum'⟩)) ?_
        obtain ⟨cs, hcs, dcs⟩ := hCb.col hn' hum'
        have hcs3 := s3 _ _ hcs
        have hC3 : CatAt K A.c_Catalog G3 L (S.addCols n (((S.us n).zip ws).take i)) := Lay.At.same hCb s3
        have cl : cs.length < sizeLine := by
          have l1 := addCols_len (n := n) (m := n) (u := (S.us n).getD i default) (((S.us n).zip ws).take i) S
          have l2 := (cols _ hum).1
          rw [dcs.len]
          rw [List.length_take, List.length_zip] at l1
          refine Nat.lt_of_le_of_lt (m := 600) ?_ (by decide)
          omega
        repeat (walk_at "st")
        refine i_put fun G4 o4 e4 => ?_
        have tpH : Same (tp H) (tp G3) := ((KX.Same.tp s2').trans (KX.Fr.tp fa (Lay.At.mv hC2))).trans ((KX.Same.tp sa).trans (KX.Same.tp s3))
        have kd : DaF false K (tp G3) x2 dw := DaF.same tpH (DaF.tp kw (flat_win wdw))
        have hC4 := CatAt.addCol hC3 hn' hum' o4 hcs3 e4 kd
        have ez : ((S.us n).zip ws).take (i + 1) = ((S.us n).zip ws).take i ++ [((S.us n).getD i default, dw)] := by
          rw [List.take_succ, List.getElem?_zip_eq_some (z := ((S.us n).getD i default, dw)) |>.mpr ⟨hu, hdw⟩]
          rfl
        rw [show (S.addCols n (((S.us n).zip ws).take i)).addCol n ((S.us n).getD i default) dw = S.addCols n (((S.us n).zip ws).take (i + 1)) from by rw [ez]; exact addCols_add (q := ((S.us n).getD i default, dw))] at hC4
        refine ⟨hC4, fa.trans ((Fr.of_same (sa.trans s3)).trans (Fr.of_off o4 (own_at (x := .col n ((S.us n).getD i default)) ⟨hn, hum⟩))), _, _, _, rfl⟩
      · obtain ⟨hC3, f3, y1, y2, y3, rfl⟩ := h
        rw [List.take_of_length_le (by rw [List.length_zip, hlen]; exact Nat.min_le_left _ _)] at hC3
        have ob3 := hC3.ob
        have es := addCols_ns (n := n) ((S.us n).zip ws) S
        have hn' : n ∈ (S.addCols n ((S.us n).zip ws)).ns := by rw [es.1]; exact hn
        have len12 : (tabS (S.addCols n ((S.us n).zip ws)).ns fun m => V.int ((S.addCols n ((S.us n).zip ws)).cnt m : Nat)).length < sizeLine := by
          rw [tabS_len, es.1]
          exact Nat.lt_of_le_of_lt n12 (by decide)
        repeat (walk_at "st")
        refine i_dpS hC3.cnt len12 ?_
        refine i_put fun G5 o5 e5 => ?_
        have hC5 := CatAt.setCnt (k := S.cnt n + 1) hC3 hn' o5 e5
        have ob5 := hC5.ob
        have ha5 : G5 a = some (.lst xs) := o5.get (fun z => own ⟨.cnt, trivial, z.symm⟩) (keep f3).1
        obtain ⟨lg, log, dlg⟩ := hC5.log
        have dlg2 : lg.length = S.log.length := by rw [dlg.len]; exact congrArg List.length es.2.2.2.2
        have lgl : lg.length < sizeLine := Nat.lt_trans (m := 1000) (by omega) (by decide)
        repeat (walk_at "st")
        refine i_new fun p6 G6 n6 s6 e6 => ?_
        repeat (walk_at "st")
        refine i_new fun p7 G7 n7 s7 e7 => ?_
        have log7 := (s6.trans s7) _ _ log
        have hC7 : CatAt K A.c_Catalog G7 L _ := Lay.At.same hC5 (s6.trans s7)
        repeat (walk_at "st")
        refine i_put fun G8 o8 e8 => ?_
        have tpH : Same (tp H) (tp G7) := ((KX.Same.tp s2').trans (KX.Fr.tp f3 (Lay.At.mv hC2))).trans ((KX.Off.tp o5 hC3.cnt rfl).trans (KX.Same.tp (s6.trans s7)))
        have kws : DaAllF false K (tp G7) xs ws := DaAllF.same tpH (DaAllF.tp hd (by rw [flatDs_all]; exact List.all_eq_true.mpr fun d hd => flat_win (hw d hd)))
        have hC8 := CatAt.addRec hC7 o8 log7 e8 (d := pubRec n ws) (.tup (SqT.of (tp_get e7 rfl)) (.cons (.str _) (.cons (.str _) (.cons (.tup (SqT.of (tp_get (s7 _ _ e6) rfl)) kws) .nil))))
        repeat (walk_at "st")
        refine qy _ hC8 ?_
        exact (Fr.of_same s2').trans (f3.trans ((Fr.of_off o5 (own_at (x := .cnt) trivial)).trans ((Fr.of_same (s6.trans s7)).trans (Fr.of_off o8 (own_at (x := .log) trivial)))))

end

open PySem PySem.Spec PyProof.Rows L2




section
variable {P : Program} {w : World} {K : PySem.W.Frag} {mg : Str → Option Value} {base : Heap} {A : Ad}
def sp_l_choice : Sp := fun vs H Q _ => ∃ r o xs, vs = [.ref r, .ref o] ∧ H o = some (.lst xs) ∧ o ≠ r ∧ 0 < xs.length ∧ xs.length < 1000 ∧ Rok H r ∧
  ∀ v H', v ∈ xs → Rok H' r → Off r H H' → Q v H'
theorem ok_l_choice (T : Txt K mg A) (G_l_draw : Fg P w K mg base CX0 1 A.f_l_draw A.d_l_draw ["_law_rng_here", "_law_many"] sp_l_draw) : Fg P w K mg base CX0 2 A.f_l_choice A.d_l_choice ["_law_rng_here", "_law_options"] sp_l_choice := by
  refine ok_g T.F_l_choice sc_l_choice (fun vs H Q E h => ?_) (fun cdv Ar outer s H vs Q E hr h => ?_)
  · obtain ⟨_, _, _, rfl, _⟩ := h; rfl
  · obtain ⟨r, o, xs, rfl, hO, hne, l0, l1, hR, q⟩ := h
    have lb : (xs.length : Int).natAbs.log2 < 9000 := Nat.lt_of_le_of_lt (Nat.log2_le_self _) (by omega)
    refine ⟨_, (pss_one (ps_ret (pe_ix ix_list (pv 1) (pe_call G_l_draw (hr.mono (by decide)) (by rfl) T.g_l_draw T.F_l_draw.kp T.b_l_draw .nil pass0 (pa_cons (pv 0) (pa_cons (pe_callB call_lenN (by rfl) T.m_len (by decide +kernel) (pa_cons (pv 1) pa_nil)) pa_nil))) (fun _ _ => rfl)))), ?_⟩
    repeat (walk_at "st")
    refine ⟨_, _, rfl, (by walk_at "side"), (by first | decide | decide +kernel | assumption), (by walk_at "rok"), fun d1 G1 dl1 dh1 r1 o1 => ?_⟩
    obtain ⟨v, hv, ev⟩ := atI_lt (xs := xs) dl1 dh1
    repeat (walk_at "st")
    exact q _ _ hv r1 o1

/-! ### drawn names -/
def sp_l_shuffled (K : PySem.W.Frag) : Sp := fun vs H Q _ => ∃ r a xs, vs = [.ref r, .ref a] ∧ H a = some (.lst xs) ∧ a ≠ r ∧ xs.length < 1000 ∧ Rok H r ∧
  ∀ p ys H', H p = none → p ≠ r → Off r H H' → Rok H' r → H' p = some (.lst ys) → ys.Perm xs → Q (.ref p) H'
theorem pick_perm {α : Type} : ∀ (l : List α) (k : Nat) (h : k < l.length), (l[k] :: l.eraseIdx k).Perm l
  | a :: l, 0, _ => List.Perm.refl _
  | a :: l, k + 1, h => (List.Perm.swap _ _ _).trans ((pick_perm l k (by simpa using h)).cons a)
theorem rangeV_item' {lo : Int} {n i : Nat} {v : V} (h : (rangeV lo n)[i]? = some v) : v = .int (lo + i) ∧ i < n := by
  have hi : i < n := by have := (List.getElem?_eq_some_iff.mp h).1; rwa [rangeV_len] at this
  rw [rangeV_get hi] at h
  cases h
  exact ⟨rfl, hi⟩
theorem ok_l_shuffled (T : Txt K mg A) (G_l_draw : Fg P w K mg base CX0 1 A.f_l_draw A.d_l_draw ["_law_rng_here", "_law_many"] sp_l_draw) : Fg P w K mg base CX0 2 A.f_l_shuffled A.d_l_shuffled ["_law_rng_here", "_law_values"] (sp_l_shuffled K) := by
  refine ok_g T.F_l_shuffled sc_l_shuffled (fun vs H Q E h => ?_) (fun cdv Ar outer s H vs Q E hr h => ?_)
  · obtain ⟨_, _, _, rfl, _⟩ := h; rfl
  · obtain ⟨r, a, xs, rfl, ha, ar, few, hR, q⟩ := h
    refine ⟨_, (pss_cons (ps_set (i := 2) sc_l_shuffled.nd rfl (.inr rfl) (pe_callTy call_listN (by rfl) T.m_list (by decide +kernel) (pa_cons (pv 1) pa_nil)))
(pss_one (ps_ret (pe_lc (own := [("_law_k", 3)]) rfl sc_l_shuffled.nd (pi_range1 rfl T.m_range (pa_cons (pe_callB call_lenN (by rfl) T.m_len (by decide +kernel) (pa_cons (pv 1) pa_nil)) pa_nil)) (blkOk_by (own := [("_law_k", 3)]) (N := ["_law_rng_here", "_law_values", "_law_pool", "_law_k"]) (sc := defScope s_l_shuffled) (by decide +kernel)) (fun _ _ _ _ _ => (pg_name (i := 3) sc_l_shuffled.nd rfl (.inl rfl))) (fun _ _ _ _ _ => pts_nil) (fun _ _ _ _ _ => (pe_bmK (K := K) (by rfl) PySem.F.plainAttrs_list PySem.F.slot_list_pop PySem.F.type_list_pop mt_popAt (pv 2) (pa_cons (pe_call G_l_draw (hr.mono (by decide)) (by rfl) T.g_l_draw T.F_l_draw.kp T.b_l_draw .nil pass0 (pa_cons (pv 0) (pa_cons (pe_callB (call_lenNK (K := K) (by rfl)) (by rfl) T.m_len (by decide +kernel) (pa_cons (pv 2) pa_nil)) pa_nil))) pa_nil))))))), ?_⟩
    repeat (walk_at "st")
    refine i_new fun p1 G1 n1 s1 e1 => ?_
    have p1r : p1 ≠ r := Rok.ne hR n1
    have ha1 := s1 _ _ ha
    repeat (walk_at "st")
    refine l_wq wk_range.q fun D H0 n0 sD eD => ⟨fun i ys H' => H' D = some (.lst ys) ∧ ys.length = i ∧ Rok H' r ∧ (∀ b o, b ≠ r → b ≠ p1 → G1 b = some o → H' b = some o) ∧ ∃ rest, H' p1 = some (.lst rest) ∧ (ys ++ rest).Perm xs, ⟨eD, rfl, (hR.same s1).same sD, fun b o _ _ e => sD _ _ e, xs, sD _ _ e1, List.Perm.refl _⟩, fun _ _ _ _ => trivial, fun i ys x Ha Hb hi h sa hr => ?_, fun ys Hb h => ?_⟩
    · obtain ⟨aD, al, aR, keep, rest, ap, perm⟩ := h
      obtain ⟨rfl, hi'⟩ := rangeV_item' hr
      have len := perm.length_eq
      rw [List.length_append, al] at len
      have hi2 : i < xs.length := by simpa using hi'
      have rl : 0 < rest.length := by omega
      have rl2 : rest.length < 1000 := by omega
      have lb : (rest.length : Int).natAbs.log2 < 9000 := Nat.lt_of_le_of_lt (Nat.log2_le_self _) (by omega)
      have ap := sa _ _ ap
      have aR := aR.same sa
      have Dp : D ≠ p1 := fun z => by rw [z, e1] at n0; cases n0
      have Dr : D ≠ r := fun z => by obtain ⟨a, b, e, _⟩ := hR.same s1; rw [z, e] at n0; cases n0
      repeat (walk_at "st")
      refine ⟨_, _, rfl, (by walk_at "side"), (by first | decide | decide +kernel | assumption), (by walk_at "rok"), fun d2 G2 dl2 dh2 r2 o2 => ?_⟩
      have ap2 := o2.get p1r ap
      have hk : d2.toNat < rest.length := by omega
      repeat (walk_at "st")
      refine i_rPopAt (k := d2.toNat) ap2 ⟨by omega, by omega⟩ (by unfold seqIndex?; simp; omega) (List.getElem?_eq_getElem hk) ?_
      refine i_put fun G3 o3 e3 => ?_
      have D3 : G3 D = some (.lst ys) := o3.get Dp (o2.get Dr (sa _ _ aD))
      have R3 : Rok G3 r := r2.off o3 (Ne.symm p1r)
      refine i_lcEl D3 (Nat.lt_of_lt_of_le (Nat.lt_trans (show ys.length < xs.length by omega) few) (by decide)) fun H5 o5 e5 => ?_
      refine ⟨e5, by simp [al], R3.off o5 (Ne.symm Dr), fun b o nr np e => ?_, rest.eraseIdx d2.toNat, o5.get (Ne.symm Dp) e3, ?_⟩
      · have nD : b ≠ D := fun z => by rw [z, n0] at e; cases e
        exact o5.get nD (o3.get np (o2.get nr (sa _ _ (keep b o nr np e))))
      · refine List.Perm.trans ?_ perm
        rw [List.append_assoc]
        exact List.Perm.append_left _ (pick_perm rest _ hk)
    · obtain ⟨aD, al, aR, keep, rest, ap, perm⟩ := h
      have len := perm.length_eq
      rw [List.length_append, al] at len
      have zl : (rangeV 0 (xs.length : Int).toNat).length = xs.length := by rw [rangeV_len]; simp
      have r0 : rest = [] := List.length_eq_zero_iff.mp (by omega)
      rw [r0, List.append_nil] at perm
      have Dr : D ≠ r := fun z => by obtain ⟨a, b, e, _⟩ := hR.same s1; rw [z, e] at n0; cases n0
      exact q D ys _ (none_of s1 n0) Dr (fun b o nr e => keep b o nr (fun z => by rw [z, n1] at e; cases e) (s1 _ _ e)) aR aD perm

end

open PySem PySem.Spec PyProof.Rows L2




section
variable {P : Program} {w : World} {K : PySem.W.Frag} {mg : Str → Option Value} {base : Heap} {A : Ad}
theorem tl_len (x : Str) : (TL.tl x).length = x.length := by
  show x.cps.toList.length = x.cps.size
  simp
theorem nameB_tl {x : Str} : nameB (.str x) = true ↔ 1 ≤ (TL.tl x).length ∧ (TL.tl x).length ≤ 8 ∧ ∀ c ∈ TL.tl x, c ∈ az := by
  rw [tl_len]
  unfold nameB
  simp only [Bool.and_eq_true, decide_eq_true_eq, List.all_eq_true]
  try exact Iff.rfl
theorem joinL_nil : ∀ ps : List (List Nat), TL.joinL [] ps = ps.flatten
  | [] => rfl
  | [p] => by simp [TL.joinL]
  | p :: q :: r => by
    have ih := joinL_nil (q :: r)
    simp only [TL.joinL, List.nil_append] at ih ⊢
    rw [ih]
    rfl
theorem tl_joined {zs : List Str} : TL.tl (Txt.join (Str.ofString "") zs) = (zs.map TL.tl).flatten := by
  rw [TL.join_eq, TL.tl_join]
  exact joinL_nil _
theorem name_joined {zs : List Str} (h : ∀ z ∈ zs, ∃ c ∈ az, z = ⟨#[c]⟩) (h1 : 1 ≤ zs.length) (h8 : zs.length ≤ 8) : nameB (.str (Txt.join (Str.ofString "") zs)) = true := by
  have len : ((zs.map TL.tl).flatten).length = zs.length := by
    clear h1 h8
    induction zs with
    | nil => rfl
    | cons z zs ih =>
      obtain ⟨c, _, rfl⟩ := h z (by simp)
      rw [List.map_cons, List.flatten_cons, List.length_append, ih fun y hy => h y (List.mem_cons_of_mem _ hy)]
      simp [TL.tl]
      omega
  rw [nameB_tl, tl_joined, len]
  refine ⟨h1, h8, fun c hc => ?_⟩
  obtain ⟨l, hl, hcl⟩ := List.mem_flatten.mp hc
  obtain ⟨z, hz, rfl⟩ := List.mem_map.mp hl
  obtain ⟨d, hd, rfl⟩ := h z hz
  have : c = d := by simpa [TL.tl] using hcl
  rw [this]; exact hd
theorem length_le_of_sub {α : Type} [DecidableEq α] : ∀ {l1 l2 : List α}, l1.Nodup → (∀ a ∈ l1, a ∈ l2) → l1.length ≤ l2.length
  | [], _, _, _ => Nat.zero_le _
  | a :: l1, l2, nd, h => by
    rw [List.nodup_cons] at nd
    have ha := h a (by simp)
    have ih := length_le_of_sub (l2 := l2.erase a) nd.2 fun b hb => (List.mem_erase_of_ne (fun e => nd.1 (by rw [← e]; exact hb))).mpr (h b (List.mem_cons_of_mem _ hb))
    rw [List.length_erase_of_mem ha] at ih
    have := List.length_pos_of_mem ha
    simp only [List.length_cons]
    omega
/-- the k-th word -/
def wordK (x : Str) (k : Nat) : Str := cutS x none (some 6) ++ (⟨#[az.getD (k / 26) 0]⟩ : Str) ++ (⟨#[az.getD (k % 26) 0]⟩ : Str)
theorem tl_cut6 (x : Str) : TL.tl (cutS x none (some 6)) = (TL.tl x).take 6 := tl_cut_to (by decide)
theorem az_len : az.length = 26 := by decide +kernel
theorem az_nd : az.Nodup := by decide +kernel
theorem wordK_tl (x : Str) (k : Nat) : TL.tl (wordK x k) = (TL.tl x).take 6 ++ [az.getD (k / 26) 0, az.getD (k % 26) 0] := by
  unfold wordK
  rw [tl_app, tl_app, tl_cut6]
  simp [TL.tl]
theorem az_getD {k : Nat} (h : k < 26) : az[k]? = some (az.getD k 0) ∧ az.getD k 0 ∈ az := by
  have : k < az.length := by rw [az_len]; exact h
  exact ⟨by simp [List.getD, this], by simp [List.getD, this]⟩
theorem wordK_name {x : Str} {k : Nat} (h : nameB (.str x) = true) (hk : k < 676) : nameB (.str (wordK x k)) = true := by
  rw [nameB_tl] at h ⊢
  rw [wordK_tl]
  simp only [List.length_append, List.length_take, List.length_cons, List.length_nil]
  refine ⟨by omega, by omega, fun c hc => ?_⟩
  rcases List.mem_append.mp hc with hc | hc
  · exact h.2.2 c (List.mem_of_mem_take hc)
  · simp only [List.mem_cons, List.not_mem_nil, or_false] at hc
    rcases hc with rfl | rfl
    · exact (az_getD (by omega)).2
    · exact (az_getD (by omega)).2
theorem wordK_inj {x : Str} {i j : Nat} (hi : i < 676) (hj : j < 676) (e : wordK x i = wordK x j) : i = j := by
  have e := congrArg TL.tl e
  rw [wordK_tl, wordK_tl] at e
  have e := List.append_cancel_left e
  injection e with e1 e2
  injection e2 with e2 _
  have inj : ∀ {a b : Nat}, a < 26 → b < 26 → az.getD a 0 = az.getD b 0 → a = b := fun {a b} ha hb h => by
    have a1 := (az_getD ha).1
    have b1 := (az_getD hb).1
    rw [h, ← b1] at a1
    have la : a < az.length := by rw [az_len]; exact ha
    have lb : b < az.length := by rw [az_len]; exact hb
    rw [List.getElem?_eq_getElem la, List.getElem?_eq_getElem lb] at a1
    have a1 := Option.some.inj a1
    rcases Nat.lt_trichotomy a b with q | q | q
    · exact absurd a1 (List.pairwise_iff_getElem.mp az_nd a b la lb q)
    · exact q
    · exact absurd a1.symm (List.pairwise_iff_getElem.mp az_nd b a lb la q)
  have q1 := inj (by omega) (by omega) e1
  have q2 := inj (by omega) (by omega) e2
  omega
theorem wordK_free {x : Str} {us : List Str} (h : us.length < 676) : ∃ k, k < 676 ∧ ¬ wordK x k ∈ us := by
  apply Classical.byContradiction
  intro n
  have all : ∀ y ∈ (List.range 676).map (wordK x), y ∈ us := fun y hy => by
    obtain ⟨k, hk, rfl⟩ := List.mem_map.mp hy
    exact Classical.byContradiction fun z => n ⟨k, by simpa using hk, z⟩
  have nd : ((List.range 676).map (wordK x)).Nodup := by
    rw [List.Nodup, List.pairwise_map]
    refine List.Pairwise.imp_of_mem ?_ (List.nodup_range (n := 676))
    intro a b ha hb ne e
    exact ne (wordK_inj (by simpa using ha) (by simpa using hb) e)
  have := length_le_of_sub nd all
  simp at this
  omega
def wordsL : List Str := ["module", "publish", "state", "run", "undo", "steps", "plan", "talk"]
theorem wordsL_name : ∀ x ∈ wordsL, nameB (.str x) = true := by decide +kernel
theorem i_inLK {K : PySem.W.Frag} {H : Hp} {Q : VK} {b : Bool} {p : Addr} {xs : List V} {x : V} (h : SqL K H p xs) (f : flatV x = true) (fs : xs.all flatV = true) (q : Q (.bl (if b then !inV x xs else inV x xs)) H) : rIn K b x (.ref p) H Q := ⟨p, xs, rfl, .inl h, f, fs, by cases b <;> exact q⟩
def sp_l_name (K : PySem.W.Frag) : Sp := fun vs H Q _ => ∃ r a us, vs = [.ref r, .ref a] ∧ H a = some (.lst (strsV us)) ∧ a ≠ r ∧ us.length < 600 ∧ Rok H r ∧ ∀ x H', Off r H H' → Rok H' r → nameB (.str x) = true → ¬ x ∈ us → Q (.str x) H'
theorem ok_l_name (T : Txt K mg A) (G_l_draw : Fg P w K mg base CX0 1 A.f_l_draw A.d_l_draw ["_law_rng_here", "_law_many"] sp_l_draw) : Fg P w K mg base CX0 2 A.f_l_name A.d_l_name ["_law_rng_here", "_law_used"] (sp_l_name K) := by
  refine ok_g T.F_l_name sc_l_name (fun vs H Q E h => ?_) (fun cdv Ar outer s H vs Q E hr h => ?_)
  · obtain ⟨_, _, _, rfl, _⟩ := h; rfl
  · obtain ⟨r, a, us, rfl, ha, ar, few, hR, q⟩ := h
    refine ⟨_, (pss_cons (ps_set (i := 2) sc_l_name.nd rfl (.inr rfl) pe_str)
(pss_cons (ps_set (i := 3) sc_l_name.nd rfl (.inl rfl) (pe_ix ix_list (pe_lst (pa_cons pe_int (pa_cons pe_int (pa_cons pe_int (pa_cons (pe_op op_add pe_int (pe_call G_l_draw (hr.mono (by decide)) (by rfl) T.g_l_draw T.F_l_draw.kp T.b_l_draw .nil pass0 (pa_cons (pv 0) (pa_cons pe_int pa_nil)))) pa_nil))))) (pe_call G_l_draw (hr.mono (by decide)) (by rfl) T.g_l_draw T.F_l_draw.kp T.b_l_draw .nil pass0 (pa_cons (pv 0) (pa_cons pe_int pa_nil))) (fun _ _ => rfl)))
(pss_cons (ps_set (i := 4) sc_l_name.nd rfl (.inr rfl) (pe_joinN pe_str (pe_lc (own := [("_law_k", 5)]) rfl sc_l_name.nd (pi_range1 rfl T.m_range (pa_cons (pv 3) pa_nil)) (blkOk_by (own := [("_law_k", 5)]) (N := ["_law_rng_here", "_law_used", "_law_letters", "_law_length", "_law_name_here", "_law_k", "_law_word"]) (sc := defScope s_l_name) (by decide +kernel)) (fun _ _ _ _ _ => (pg_name (i := 5) sc_l_name.nd rfl (.inl rfl))) (fun _ _ _ _ _ => pts_nil) (fun _ _ _ _ _ => (pe_ix ix_str (pv 2) (pe_call G_l_draw (hr.mono (by decide)) (by rfl) T.g_l_draw T.F_l_draw.kp T.b_l_draw .nil pass0 (pa_cons (pv 0) (pa_cons pe_int pa_nil))) (fun _ _ => rfl))))))
(C8.pss_cut (ps_if (pt_cmpR op_eq (pe_call G_l_draw (hr.mono (by decide)) (by rfl) T.g_l_draw T.F_l_draw.kp T.b_l_draw .nil pass0 (pa_cons (pv 0) (pa_cons pe_int pa_nil))) pe_int (nomark _))
(pss_one (ps_set (i := 4) sc_l_name.nd rfl (.inr rfl) (pe_ix ix_list (pe_lst (pa_cons pe_str (pa_cons pe_str (pa_cons pe_str (pa_cons pe_str (pa_cons pe_str (pa_cons pe_str (pa_cons pe_str (pa_cons pe_str pa_nil))))))))) (pe_call G_l_draw (hr.mono (by decide)) (by rfl) T.g_l_draw T.F_l_draw.kp T.b_l_draw .nil pass0 (pa_cons (pv 0) (pa_cons pe_int pa_nil))) (fun _ _ => rfl))))
pss_nil)
(pss_cons (ps_if (pt_cmpR op_notIn_seq (pv 4) (pv 1) (by rfl))
(pss_one (ps_ret (pv 4)))
pss_nil)
(pss_one (ps_ret (pe_ix ix_list (pe_lc (own := [("_law_word", 6)]) rfl sc_l_name.nd (pi_list (pe_lc (own := [("_law_k", 5)]) rfl sc_l_name.nd (pi_range1 rfl T.m_range (pa_cons pe_int pa_nil)) (blkOk_by (own := [("_law_k", 5)]) (N := ["_law_rng_here", "_law_used", "_law_letters", "_law_length", "_law_name_here", "_law_k", "_law_word"]) (sc := defScope s_l_name) (by decide +kernel)) (fun _ _ _ _ _ => (pg_name (i := 5) sc_l_name.nd rfl (.inl rfl))) (fun _ _ _ _ _ => pts_nil) (fun _ _ _ _ _ => (pe_op op_catS (pe_op op_catS (pe_slice sl_str (pv 4) po_none (po_some pe_int)) (pe_ix ix_str (pv 2) (pe_op op_fdiv (pv 5) pe_int) (fun _ _ => rfl))) (pe_ix ix_str (pv 2) (pe_op op_mod (pv 5) pe_int) (fun _ _ => rfl)))))) (blkOk_by (own := [("_law_word", 6)]) (N := ["_law_rng_here", "_law_used", "_law_letters", "_law_length", "_law_name_here", "_law_k", "_law_word"]) (sc := defScope s_l_name) (by decide +kernel)) (fun _ _ _ _ _ => (pg_name (i := 6) sc_l_name.nd rfl (.inl rfl))) (fun _ _ _ _ _ => (pts_one (pt_cmpR (op_notIn_seqK (K := K) (by rfl)) (pv 6) (pv 1) (by rfl)))) (fun _ _ _ _ _ => (pv 6))) pe_int (fun _ _ => rfl))))))))), ?_⟩
    repeat (walk_at "st")
    refine ⟨_, _, rfl, (by walk_at "side"), (by first | decide | decide +kernel | assumption), (by walk_at "rok"), fun d1 G1 dl1 dh1 r1 o1 => ?_⟩
    repeat (walk_at "st")
    refine i_new fun p2 G2 n2 s2 e2 => ?_
    have R2 := r1.same s2
    repeat (walk_at "st")
    refine ⟨_, _, rfl, (by walk_at "side"), (by first | decide | decide +kernel | assumption), (by walk_at "rok"), fun d3 G3 dl3 dh3 r3 o3 => ?_⟩
    obtain ⟨v4, hv4, ev4⟩ := atI_lt (xs := [V.int 1, V.int 1, V.int 2, V.int (1 + d1)]) dl3 dh3
    have k4 : ∃ m : Int, v4 = .int m ∧ 1 ≤ m ∧ m ≤ 8 := by
      simp only [List.mem_cons, List.not_mem_nil, or_false] at hv4
      rcases hv4 with rfl | rfl | rfl | rfl
      · exact ⟨1, rfl, by decide, by decide⟩
      · exact ⟨1, rfl, by decide, by decide⟩
      · exact ⟨2, rfl, by decide, by decide⟩
      · exact ⟨1 + d1, rfl, by omega, by omega⟩
    obtain ⟨m, rfl, m1, m8⟩ := k4
    clear hv4
    repeat (walk_at "st")
    have R3 := r3
    refine l_rng wk_range r (fun _ y => ∃ c ∈ az, y = .str ⟨#[c]⟩) (by rw [rangeV_len]; exact Nat.lt_of_le_of_lt (show m.toNat ≤ 8 by omega) (by decide)) R3 (fun _ _ => trivial) (fun i x H' R hx oH rH hR' => ?_) (fun D H5 ys n5 hDr o5 r5 e5 hl hy => ?_)
    · repeat (walk_at "st")
      refine ⟨_, _, rfl, (by walk_at "side"), (by first | decide | decide +kernel | assumption), (by walk_at "rok"), fun d6 G6 dl6 dh6 r6 o6 => ?_⟩
      obtain ⟨c, hc, ec⟩ := atN_lt (xs := az) dl6 (show d6 < az.length by rw [az_len]; exact dh6)
      repeat (walk_at "st")
      exact hR' _ _ ⟨c, hc, rfl⟩ o6 r6
    · have k5 : ∃ zs : List Str, ys = zs.map V.str ∧ ∀ z ∈ zs, ∃ c ∈ az, z = ⟨#[c]⟩ := by
        clear hl e5
        have hy : ∀ y ∈ ys, ∃ c ∈ az, y = .str ⟨#[c]⟩ := fun y h => by
          obtain ⟨i, hi, rfl⟩ := List.getElem_of_mem h
          exact hy i _ (List.getElem?_eq_getElem hi)
        clear hDr
        induction ys with
        | nil => exact ⟨[], rfl, fun z hz => by cases hz⟩
        | cons y ys ih =>
          obtain ⟨zs, e, k⟩ := ih (fun i y' h => hy y' (List.mem_cons_of_mem _ (List.mem_of_getElem? h))) fun y h => hy y (List.mem_cons_of_mem _ h)
          obtain ⟨c, hc, e2⟩ := hy y (by simp)
          exact ⟨⟨#[c]⟩ :: zs, by rw [e, e2]; rfl, fun z hz => (List.mem_cons.mp hz).elim (fun q => ⟨c, hc, q⟩) (k z)⟩
      obtain ⟨zs, rfl, hz⟩ := k5
      rw [List.length_map, rangeV_len] at hl
      have nm := name_joined hz (by omega) (by omega)
      have zb : (zs.map (·.length)).sum + zs.length * (Str.ofString "").length ≤ 16777216 := by
        have := sum_le_of (b := 1) zs (fun z h => by obtain ⟨c, _, rfl⟩ := hz z h; exact Nat.le_refl _)
        have e0 : (Str.ofString "").length = 0 := rfl
        rw [e0]; omega
      have offH : Off r H H5 := by walk_at "off"
      repeat (walk_at "st")
      refine i_cut (fun σ' G' => ∃ x', σ' = [some (.ref r), some (.ref a), some (.str "abcdefghijklmnopqrstuvwxyz"), some (.int m), some (.str x'), none, none] ∧ nameB (.str x') = true ∧ Off r H G' ∧ Rok G' r) ?_ ?_
      · repeat (walk_at "st")
        refine ⟨_, _, rfl, (by walk_at "side"), (by first | decide | decide +kernel | assumption), (by walk_at "rok"), fun d7 G7 dl7 dh7 r7 o7 => ?_⟩
        repeat (walk_at "st")
        refine i_ite (fun c => ?_) (fun c => ?_)
        · repeat (walk_at "st")
          refine i_new fun p8 G8 n8 s8 e8 => ?_
          repeat (walk_at "st")
          have R8 := r7.same s8
          refine ⟨_, _, rfl, (by walk_at "side"), (by first | decide | decide +kernel | assumption), (by walk_at "rok"), fun d9 G9 dl9 dh9 r9 o9 => ?_⟩
          obtain ⟨v9, hv9, ev9⟩ := atI_lt (xs := wordsL.map V.str) dl9 dh9
          obtain ⟨x9, hx9, rfl⟩ := List.mem_map.mp hv9
          repeat (walk_at "st")
          exact ⟨wordsL_name _ hx9, by walk_at "off", r9⟩
        · repeat (walk_at "st")
          exact ⟨by walk_at "off", r7⟩
      · rintro σ7 G7 ⟨x7, rfl, nm7, o7, r7⟩
        have ha7 := o7.get ar ha
        repeat (walk_at "st")
        refine i_rNinL (SqL.of ha7) rfl (flat_strs _) ?_
        rw [inV_strs]
        by_cases hin : x7 ∈ us
        · rw [show us.contains x7 = true from by simpa using hin]
          repeat (walk_at "st")
          refine i_ff (by rfl) ?_
          repeat (walk_at "st")
          have xl : x7.length ≤ sizeLine := nameB_len nm7
          have x8 : (TL.tl x7).length ≤ 8 := (nameB_tl.mp nm7).2.1
          have l6 : (cutS x7 none (some 6)).length ≤ 6 := by rw [← tl_len, tl_cut6, List.length_take]; omega
          refine l_mq wk_range.q (fun k => .str (wordK x7 k)) (by rw [rangeV_len]; decide) (fun _ _ => trivial) (fun k x H' S hk hr s8 hS => ?_) (fun D8 H8 n8 s8 e8 => ?_)
          · obtain ⟨rfl, hk'⟩ := rangeV_item' hr
            have hk2 : k < 676 := hk'
            have e1 : atI az ((0 + (k : Int)) / 26) = some (az.getD (k / 26) 0) := by
              have z : (0 + (k : Int)) / 26 = ((k / 26 : Nat) : Int) := by omega
              rw [z]; exact atI_nat (az_getD (by omega)).1
            have e2 : atI az ((0 + (k : Int)) % 26) = some (az.getD (k % 26) 0) := by
              have z : (0 + (k : Int)) % 26 = ((k % 26 : Nat) : Int) := by omega
              rw [z]; exact atI_nat (az_getD (by omega)).1
            have one : ∀ c : Nat, (⟨#[c]⟩ : Str).length = 1 := fun _ => rfl
            have q1 : (cutS x7 none (some 6)).length + (⟨#[az.getD (k / 26) 0]⟩ : Str).length ≤ sizeLine := by rw [one, sizeLine_eq]; omega
            have q2 : (cutS x7 none (some 6) ++ (⟨#[az.getD (k / 26) 0]⟩ : Str)).length + (⟨#[az.getD (k % 26) 0]⟩ : Str).length ≤ sizeLine := by rw [Str.length_append, one, one, sizeLine_eq]; omega
            repeat (walk_at "st")
            exact hS _ (Same.refl _)
          · have e8' : H8 D8 = some (.lst (strsV ((List.range 676).map (wordK x7)))) := by
              rw [e8, rangeV_len]
              unfold strsV
              rw [List.map_map]
              rfl
            have ha8 := s8 _ _ ha7
            repeat (walk_at "st")
            refine l_fq wk_list.q (fun i => !us.contains (((List.range 676).map (wordK x7)).getD i default)) (fun i => .str (((List.range 676).map (wordK x7)).getD i default)) (by rw [strsV_len]; simp; decide) (fun H' s => SqL.of (s _ _ e8')) (fun i x H' S N hi hr s9 hS hN => ?_) (fun D9 H9 n9 s9 e9 => ?_)
            · rw [strsV_len] at hi
              rw [strsV_at hi] at hr
              cases hr
              repeat (walk_at "st")
              refine i_inLK (SqL.of (s9 _ _ ha8)) rfl (flat_strs _) ?_
              rw [inV_strs]
              repeat (walk_at "st")
              refine i_ite (fun c => ?_) (fun c => ?_)
              · repeat (walk_at "st")
                exact hS c _ (Same.refl _)
              · exact hN c _ (Same.refl _)
            · rw [strsV_len, range_filter (d := default) (fun w => !us.contains w) V.str] at e9
              obtain ⟨k, hk, nk⟩ := wordK_free (x := x7) (us := us) (by omega)
              have mem : wordK x7 k ∈ ((List.range 676).map (wordK x7)).filter fun w => !us.contains w := by
                rw [List.mem_filter]
                exact ⟨List.mem_map.mpr ⟨k, by simpa using hk, rfl⟩, by simpa using nk⟩
              cases ef : ((List.range 676).map (wordK x7)).filter fun w => !us.contains w with
              | nil => rw [ef] at mem; cases mem
              | cons y ys =>
                rw [ef] at e9
                have my : y ∈ ((List.range 676).map (wordK x7)).filter fun w => !us.contains w := by rw [ef]; simp
                rw [List.mem_filter] at my
                obtain ⟨j, hj, ey⟩ := List.mem_map.mp my.1
                have hat : atI ((y :: ys).map V.str) 0 = some (.str y) := atI_nat (j := 0) rfl
                repeat (walk_at "st")
                exact q _ _ ((o7.trans (.of_same s8)).trans (.of_same s9)) ((r7.same s8).same s9) (by rw [← ey]; exact wordK_name nm7 (by simpa using hj)) (by simpa using my.2)
        · rw [show us.contains x7 = false from by simpa using hin]
          repeat (walk_at "st")
          refine i_tt (by rfl) ?_
          repeat (walk_at "st")
          exact q _ _ o7 r7 nm7 hin
def sp_l_names (K : PySem.W.Frag) : Sp := fun vs H Q _ => ∃ r a us m, vs = [.ref r, .int m, .ref a] ∧ H a = some (.lst (strsV us)) ∧ a ≠ r ∧ us.length ≤ 100 ∧ 0 ≤ m ∧ m ≤ 100 ∧ Rok H r ∧
  ∀ p fs H', H p = none → p ≠ r → Off r H H' → Rok H' r → H' p = some (.lst (strsV fs)) → fs.length = m.toNat → fs.Nodup → (∀ f ∈ fs, nameB (.str f) = true ∧ ¬ f ∈ us) → Q (.ref p) H'
theorem ok_l_names (T : Txt K mg A) (G_l_name : Fg P w K mg base CX0 2 A.f_l_name A.d_l_name ["_law_rng_here", "_law_used"] (sp_l_name K)) : Fg P w K mg base CX0 3 A.f_l_names A.d_l_names ["_law_rng_here", "_law_many", "_law_used"] (sp_l_names K) := by
  refine ok_g T.F_l_names sc_l_names (fun vs H Q E h => ?_) (fun cdv Ar outer s H vs Q E hr h => ?_)
  · obtain ⟨_, _, _, _, rfl, _⟩ := h; rfl
  · obtain ⟨r, a, us, m, rfl, ha, ar, few, m0, m1, hR, q⟩ := h
    refine ⟨_, (pss_cons (ps_set (i := 3) sc_l_names.nd rfl (.inl rfl) (pe_lst pa_nil))
(pss_cons (ps_for PassesOwn.never rfl (pi_range1 rfl T.m_range (pa_cons (pv 1) pa_nil)) (pg_name (i := 4) sc_l_names.nd rfl (.inl rfl))
(pss_one (ps_expr (pe_bm PySem.F.plainAttrs_list PySem.F.slot_list_append PySem.F.type_list_append mt_append (pv 3) (pa_cons (pe_call G_l_name (hr.mono (by decide)) (by rfl) T.g_l_name T.F_l_name.kp T.b_l_name .nil pass0 (pa_cons (pv 0) (pa_cons (pe_op op_cat (pv 2) (pv 3)) pa_nil))) pa_nil)))))
(pss_one (ps_ret (pv 3))))), ?_⟩
    repeat (walk_at "st")
    refine i_new fun p1 G1 n1 s1 e1 => ?_
    have p1r : p1 ≠ r := Rok.ne hR n1
    have ha1 := s1 _ _ ha
    repeat (walk_at "st")
    refine f_wk wk_range (fun i σ H' => ∃ fs y, σ = [some (.ref r), some (.int m), some (.ref a), some (.ref p1), y] ∧ H' p1 = some (.lst (strsV fs)) ∧ fs.length = i ∧ fs.Nodup ∧ (∀ f ∈ fs, nameB (.str f) = true ∧ ¬ f ∈ us) ∧ Rok H' r ∧ Off r H H') ⟨[], _, rfl, e1, rfl, List.nodup_nil, (fun f hf => nomatch hf), hR.same s1, .of_same s1⟩ (fun _ _ _ _ => trivial) (fun i x σ Ha hx h => ?_) (fun σ Hb h => ?_)
    · obtain ⟨fs, y, rfl, e, el, nd, ok, R, o⟩ := h
      obtain ⟨rfl, hi⟩ := rangeV_item' hx
      have haa := o.get ar ha
      have cz : (strsV us).length + (strsV fs).length ≤ sizeLine := by rw [strsV_len, strsV_len, sizeLine_eq]; omega
      repeat (walk_at "st")
      refine i_new fun p2 G2 n2 s2 e2 => ?_
      have e2' : G2 p2 = some (.lst (strsV (us ++ fs))) := by rw [e2]; unfold strsV; rw [List.map_append]
      have R2 := R.same s2
      repeat (walk_at "st")
      refine ⟨r, p2, us ++ fs, rfl, e2', Rok.ne R n2, by rw [List.length_append]; omega, R2, fun x G3 o3 r3 nx nin => ?_⟩
      have e3 : G3 p1 = some (.lst (strsV fs)) := o3.get p1r (s2 _ _ e)
      have fl : (strsV fs).length < sizeLine := by rw [strsV_len, sizeLine_eq]; omega
      repeat (walk_at "st")
      refine i_put fun G4 o4 e4 => ?_
      have e4' : G4 p1 = some (.lst (strsV (fs ++ [x]))) := by rw [e4]; unfold strsV; rw [List.map_append]; rfl
      rw [List.mem_append, not_or] at nin
      refine ⟨fs ++ [x], _, rfl, e4', by simp [el], ?_, fun f hf => ?_, r3.off o4 (Ne.symm p1r), fun b u nb hb => ?_⟩
      · rw [List.nodup_append]
        exact ⟨nd, by simp, fun u hu v hv z => nin.2 (by rw [List.mem_singleton] at hv; rw [← hv, ← z]; exact hu)⟩
      · rcases List.mem_append.mp hf with hf | hf
        · exact ok f hf
        · rw [List.mem_singleton] at hf; rw [hf]; exact ⟨nx, nin.1⟩
      · have b1 : b ≠ p1 := fun z => by rw [z, n1] at hb; cases hb
        exact o4.get b1 (o3.get nb (s2 _ _ (o _ _ nb hb)))
    · obtain ⟨fs, y, rfl, e, el, nd, ok, R, o⟩ := h
      rw [rangeV_len] at el
      repeat (walk_at "st")
      exact q p1 fs _ n1 p1r o R e el nd ok

end

open PySem PySem.Spec PyProof.Rows L2




section
variable {P : Program} {w : World} {K : PySem.W.Frag} {mg : Str → Option Value} {base : Heap} {A : Ad}
def bdW (B : Int) (w : Int × Option Int) : Prop := okW w ∧ w.1 ≤ B ∧ ∀ h, w.2 = some h → h ≤ B
/-! ### _law_windows: a rising list of windows -/
def riseL (ws : List (Int × Option Int)) : Prop := ∀ (j : Nat) a b, ws[j]? = some a → ws[j + 1]? = some b → risesW a b = true
theorem riseL_app {ws : List (Int × Option Int)} {w : Int × Option Int} (h : riseL ws) (k : ∀ u, ws.getLast? = some u → risesW u w = true) : riseL (ws ++ [w]) := by
  intro j a b ha hb
  rcases Nat.lt_or_ge (j + 1) ws.length with l | l
  · rw [List.getElem?_append_left l] at hb
    rw [List.getElem?_append_left (by omega)] at ha
    exact h j a b ha hb
  · have e : j + 1 = ws.length := by
      have := (List.getElem?_eq_some_iff.mp hb).1
      rw [List.length_append] at this; simp at this; omega
    rw [List.getElem?_append_right (by omega)] at hb
    rw [List.getElem?_append_left (by omega)] at ha
    have hb' : b = w := by rw [e] at hb; simpa using hb.symm
    subst hb'
    refine k a ?_
    rw [List.getLast?_eq_getElem?, ← e]
    simpa using ha
theorem risesW_next {l l' : Int} {o o' : Option Int} (h : l ≤ l') (k : o' = none ∨ ∃ x y, o = some x ∧ o' = some y ∧ x ≤ y) : risesW (l, o) (l', o') = true := by
  have h' : ¬ l' < l := by omega
  rcases k with rfl | ⟨x, y, rfl, rfl, hxy⟩
  · cases o <;> simp [risesW, h', reachW]
  · simp [risesW, h', reachW]; try omega
def sp_l_windows (K : PySem.W.Frag) : Sp := fun vs H Q _ => ∃ r m l, vs = [.ref r, .int m, .int l] ∧ Rok H r ∧ 0 ≤ m ∧ m ≤ 20 ∧ 0 ≤ l ∧ l ≤ 1 ∧
  ∀ a (ws : List (Int × Option Int)) H', DaF false K (newP H H') (.ref a) (.list (ws.map winD)) → (ws.length : Int) = m → (∀ w ∈ ws, bdW 100 w) → riseL ws → H a = none → Off r H H' → Rok H' r → Q (.ref a) H'
end

open PySem PySem.Spec PyProof.Rows L2




section
variable {P : Program} {w : World} {K : PySem.W.Frag} {mg : Str → Option Value} {base : Heap} {A : Ad}
def strOf : V → Str
  | .str x => x
  | _ => default
theorem perm_strs {ys : List V} {xs : List Str} (h : ys.Perm (strsV xs)) : ∃ zs, ys = strsV zs ∧ zs.Perm xs := by
  have e : (strsV xs).map strOf = xs := by
    unfold strsV
    rw [List.map_map]
    exact (List.map_congr_left fun x _ => rfl).trans (List.map_id xs)
  refine ⟨ys.map strOf, ?_, by have := h.map strOf; rwa [e] at this⟩
  unfold strsV
  rw [List.map_map]
  refine ((List.map_congr_left fun v hv => ?_).trans (List.map_id ys)).symm
  obtain ⟨x, _, rfl⟩ := List.mem_map.mp (h.mem_iff.mp hv)
  rfl

/-! ### _law_rows -/
abbrev WT := Int × Option Int
structure Row where
  n : Str
  us : List Str
  cols : List (List WT)
  many : Nat
def Row.vers (x : Row) : List (List WT) := (List.range x.many).map fun k => x.cols.map fun c => c.getD k (0, none)
def versD (vs : List (List WT)) : PyData := .list (vs.map fun v => .list (v.map winD))
def Row.d (x : Row) : PyData := .tuple [.str x.n, .tuple (x.us.map .str), versD x.vers]
/-- versions: lists of windows -/
def VerAt (K : PySem.W.Frag) (H : Hp) (v : V) (ws : List WT) : Prop := ∃ a xs, v = .ref a ∧ H a = some (.lst xs) ∧ DaAllF false K H xs (ws.map winD)
theorem VerAt.same {K : PySem.W.Frag} {H H' : Hp} {v : V} {ws : List WT} (s : Same H H') (h : VerAt K H v ws) : VerAt K H' v ws := by
  obtain ⟨a, xs, e, h1, h2⟩ := h
  exact ⟨a, xs, e, s _ _ h1, h2.same s⟩
def VersL (K : PySem.W.Frag) (H : Hp) (vs : List V) (ws : List (List WT)) : Prop := vs.length = ws.length ∧ ∀ (i : Nat) v w, vs[i]? = some v → ws[i]? = some w → VerAt K H v w
theorem VersL.same {K : PySem.W.Frag} {H H' : Hp} {vs : List V} {ws : List (List WT)} (s : Same H H') (h : VersL K H vs ws) : VersL K H' vs ws := ⟨h.1, fun i v w h1 h2 => (h.2 i v w h1 h2).same s⟩
theorem VersL.da {K : PySem.W.Frag} {H : Hp} : ∀ {vs : List V} {ws : List (List WT)}, VersL K H vs ws → DaAllF false K H vs (ws.map fun v => .list (v.map winD))
  | [], [], _ => .nil
  | [], _ :: _, h => by have := h.1; simp at this
  | _ :: _, [], h => by have := h.1; simp at this
  | v :: vs, w :: ws, h => by
    obtain ⟨a, xs, rfl, h1, h2⟩ := h.2 0 v w rfl rfl
    exact .cons (Da.lst (SqL.of h1) h2) (VersL.da ⟨by have := h.1; simpa using this, fun i v w h1 h2 => h.2 (i + 1) v w h1 h2⟩)
/-- a row at its place -/
def RowAt (K : PySem.W.Frag) (H : Hp) (v : V) (x : Row) : Prop := ∃ p q l, v = .ref p ∧ H p = some (.tup [.str x.n, .ref q, .ref l]) ∧ H q = some (.tup (strsV x.us)) ∧ ∃ vs, H l = some (.lst vs) ∧ VersL K H vs x.vers
theorem RowAt.same {K : PySem.W.Frag} {H H' : Hp} {v : V} {x : Row} (h : RowAt K H v x) (s : Same H H') : RowAt K H' v x := by
  obtain ⟨p, q, l, e, h1, h2, vs, h3, h4⟩ := h
  exact ⟨p, q, l, e, s _ _ h1, s _ _ h2, vs, s _ _ h3, h4.same s⟩
theorem RowAt.da {K : PySem.W.Frag} {H : Hp} {v : V} {x : Row} (h : RowAt K H v x) : DaF false K H v x.d := by
  obtain ⟨p, q, l, rfl, h1, h2, vs, h3, h4⟩ := h
  exact .tup (SqT.of h1) (.cons (.str _) (.cons (.tup (SqT.of h2) (da_strs _)) (.cons (Da.lst (SqL.of h3) h4.da) .nil)))
inductive RowsL (K : PySem.W.Frag) (H : Hp) : List V → List Row → Prop
  | nil : RowsL K H [] []
  | cons {v : V} {x : Row} {vs : List V} {xs : List Row} : RowAt K H v x → RowsL K H vs xs → RowsL K H (v :: vs) (x :: xs)
theorem RowsL.same {K : PySem.W.Frag} {H H' : Hp} (s : Same H H') : ∀ {vs : List V} {xs : List Row}, RowsL K H vs xs → RowsL K H' vs xs
  | _, _, .nil => .nil
  | _, _, .cons a r => .cons (a.same s) (RowsL.same s r)
theorem RowsL.app {K : PySem.W.Frag} {H : Hp} {us : List V} {ys : List Row} : ∀ {vs : List V} {xs : List Row}, RowsL K H vs xs → RowsL K H us ys → RowsL K H (vs ++ us) (xs ++ ys)
  | _, _, .nil, k => k
  | _, _, .cons a r, k => .cons a (RowsL.app r k)
theorem RowsL.len {K : PySem.W.Frag} {H : Hp} : ∀ {vs : List V} {xs : List Row}, RowsL K H vs xs → vs.length = xs.length
  | _, _, .nil => rfl
  | _, _, .cons _ r => congrArg (· + 1) (RowsL.len r)
theorem RowsL.get {K : PySem.W.Frag} {H : Hp} : ∀ {vs : List V} {xs : List Row}, RowsL K H vs xs → ∀ {i : Nat} {v : V}, vs[i]? = some v → ∃ x, xs[i]? = some x ∧ RowAt K H v x
  | _, _, .nil, _, _, h => by simp at h
  | _, _, .cons a r, 0, _, h => by cases h; exact ⟨_, rfl, a⟩
  | _, _, .cons a r, i + 1, _, h => RowsL.get (K := K) r (i := i) h
theorem RowsL.da {K : PySem.W.Frag} {H : Hp} : ∀ {vs : List V} {xs : List Row}, RowsL K H vs xs → DaAllF false K H vs (xs.map Row.d)
  | _, _, .nil => .nil
  | _, _, .cons a r => .cons a.da (RowsL.da r)
structure RowOk (ns : List Str) (V : Nat) (x : Row) : Prop where
  und : x.us.Nodup
  uin : ∀ u ∈ x.us, u ∈ ns
  self : ¬ x.n ∈ x.us
  u2 : x.us.length ≤ 2
  cl : x.cols.length = x.us.length
  cok : ∀ c ∈ x.cols, c.length = x.many ∧ riseL c ∧ ∀ w ∈ c, bdW 100 w
  m1 : 1 ≤ x.many
  mV : x.many ≤ V
def sp_l_rows (K : PySem.W.Frag) : Sp := fun vs H Q _ => ∃ r m v l, vs = [.ref r, .int m, .int v, .int l] ∧ 1 ≤ m ∧ m ≤ 6 ∧ 1 ≤ v ∧ v ≤ 10 ∧ 0 ≤ l ∧ l ≤ 1 ∧ Rok H r ∧
  ∀ a xs (rs : List Row) H', H a = none → a ≠ r → Off r H H' → Rok H' r → H' a = some (.lst xs) → RowsL K (wos [a, r] H') xs rs → (rs.map (·.n)).Nodup → (∀ x ∈ rs, nameB (.str x.n) = true) → 1 ≤ rs.length → (rs.length : Int) ≤ m → (∀ x ∈ rs, RowOk (rs.map (·.n)) v.toNat x) → Q (.ref a) H'
end

open PySem PySem.Spec PyProof.Rows L2




section
variable {P : Program} {w : World} {K : PySem.W.Frag} {mg : Str → Option Value} {base : Heap} {A : Ad}
/-! ### check_rows, catalog_of for right rows -/
def sp_check_rows (K : PySem.W.Frag) : Sp := fun vs H Q _ => ∃ a xs, ∃ rs : List Row, vs = [.ref a] ∧ H a = some (.lst xs) ∧ RowsL K H xs rs ∧ (rs.map (·.n)).Nodup ∧ rs.length ≤ 12 ∧ ∀ H', Same H H' → Q .non H'
end

open PySem PySem.Spec PyProof.Rows L2




theorem addCols_ne {n m u : Str} (h : m ≠ n) : ∀ (l : List (Str × PyData)) (S : CS), (S.addCols n l).col m u = S.col m u
  | [], S => rfl
  | q :: l, S => by
    refine (addCols_ne h l (S.addCol n q.1 q.2)).trans ?_
    show (if m = n ∧ u = q.1 then S.col m u ++ [q.2] else S.col m u) = _
    rw [if_neg (fun z => h z.1)]
theorem addCols_out {n u : Str} : ∀ (l : List (Str × PyData)) (S : CS), ¬ u ∈ l.map (·.1) → (S.addCols n l).col n u = S.col n u
  | [], S, _ => rfl
  | q :: l, S, h => by
    rw [List.map_cons, List.mem_cons, not_or] at h
    refine (addCols_out l (S.addCol n q.1 q.2) h.2).trans ?_
    show (if n = n ∧ u = q.1 then S.col n u ++ [q.2] else S.col n u) = _
    rw [if_neg (fun z => h.1 z.2)]
theorem addCols_in {n u : Str} {d : PyData} : ∀ (l : List (Str × PyData)) (S : CS), (l.map (·.1)).Nodup → (u, d) ∈ l → (S.addCols n l).col n u = S.col n u ++ [d]
  | q :: l, S, nd, h => by
    rw [List.map_cons, List.nodup_cons] at nd
    rcases List.mem_cons.mp h with h | h
    · subst h
      refine (addCols_out l (S.addCol n u d) nd.1).trans ?_
      show (if n = n ∧ u = u then S.col n u ++ [d] else S.col n u) = _
      rw [if_pos ⟨rfl, rfl⟩]
    · refine (addCols_in l (S.addCol n q.1 q.2) nd.2 h).trans ?_
      have ne : u ≠ q.1 := fun z => nd.1 (by rw [← z]; exact List.mem_map.mpr ⟨_, h, rfl⟩)
      congr 1
      show (if n = n ∧ u = q.1 then S.col n u ++ [q.2] else S.col n u) = _
      rw [if_neg (fun z => ne z.2)]
theorem zip_fst {us : List Str} {ds : List PyData} (h : ds.length = us.length) : (us.zip ds).map (·.1) = us := List.map_fst_zip (by omega)

/-! ### typed catalogs -/
structure TS where
  ns : List Str
  us : Str → List Str
  cnt : Str → Nat
  win : Str → Str → List WT
  gone : Str → List Int
  log : List PyData
def TS.cs (S : TS) : CS := ⟨S.ns, S.us, S.cnt, fun m u => (S.win m u).map winD, S.gone, S.log⟩
def TS.ver (S : TS) (n : Str) (k : Nat) : List WT := (S.us n).map fun u => (S.win n u).getD k (0, none)
structure CS.Eqv (S S' : CS) : Prop where
  ns : S'.ns = S.ns
  us : S'.us = S.us
  cnt : ∀ n ∈ S.ns, S'.cnt n = S.cnt n
  col : ∀ m ∈ S.ns, ∀ u ∈ S.us m, S'.col m u = S.col m u
  gone : ∀ n ∈ S.ns, S'.gone n = S.gone n
  log : S'.log = S.log
theorem CS.Eqv.ok {S S' : CS} (e : S.Eqv S') {x : CRo} (h : S'.ok x) : S.ok x := by
  cases x with
  | col m u => have h : m ∈ S'.ns ∧ u ∈ S'.us m := h; rw [e.ns, e.us] at h; exact h
  | gon n => have h : n ∈ S'.ns := h; rw [e.ns] at h; exact h
  | _ => trivial
theorem tabS_congr {ns : List Str} {f g : Str → V} (h : ∀ n ∈ ns, f n = g n) : tabS ns f = tabS ns g := by
  unfold tabS
  exact List.map_congr_left fun n hn => by rw [h n hn]
theorem CatAt.eqv {K : PySem.W.Frag} {C : Addr} {H : Hp} {L : CL} {S S' : CS} (h : CatAt K C H L S) (e : S.Eqv S') : CatAt K C H L S' := by
  refine ⟨fun x k => ?_, fun x y kx ky z => h.inj x y (e.ok kx) (e.ok ky) z⟩
  obtain ⟨o, g, i⟩ := h.get x (e.ok k)
  refine ⟨o, g, ?_⟩
  have ep : S'.pairs = S.pairs := by unfold CS.pairs; rw [e.ns, e.us]
  cases x with
  | use => exact ⟨by rw [e.ns]; exact i.1, by rw [e.ns, e.us]; exact i.2⟩
  | win => show o = _; rw [ep]; exact i
  | cnt =>
    show o = .dK (tabS S'.ns fun n => .int (S'.cnt n))
    have i : o = .dK (tabS S.ns fun n => .int (S.cnt n)) := i
    rw [i, e.ns, tabS_congr (f := fun n => .int (S'.cnt n)) (g := fun n => .int (S.cnt n)) fun n hn => by rw [e.cnt n hn]]
  | wdr => show o = _; rw [e.ns]; exact i
  | log => obtain ⟨vs, e1, e2⟩ := i; exact ⟨vs, e1, by rw [e.log]; exact e2⟩
  | col m u =>
    obtain ⟨vs, e1, e2⟩ := i
    have k' : m ∈ S.ns ∧ u ∈ S.us m := e.ok (x := .col m u) k
    exact ⟨vs, e1, by rw [e.col m k'.1 u k'.2]; exact e2⟩
  | gon n =>
    have k' : n ∈ S.ns := e.ok (x := .gon n) k
    show o = .dK (tabI (S'.gone n))
    rw [e.gone n k']; exact i
  | ob => exact i
/-! ### .. out of rows -/
def rowAt (rs : List Row) (m : Str) : Row := (rs.find? fun x => x.n == m).getD ⟨m, [], [], 0⟩
def Row.col (x : Row) (u : Str) : List WT := ((x.us.zip x.cols).lookup u).getD []
theorem rowAt_mem : ∀ {rs : List Row} {x : Row}, (rs.map (·.n)).Nodup → x ∈ rs → rowAt rs x.n = x
  | r :: rs, x, nd, h => by
    rw [List.map_cons, List.nodup_cons] at nd
    unfold rowAt
    rcases List.mem_cons.mp h with e | h
    · subst e; simp
    · have ne : r.n ≠ x.n := fun z => nd.1 (by rw [z]; exact List.mem_map.mpr ⟨x, h, rfl⟩)
      rw [List.find?_cons_of_neg (by simpa using ne)]
      exact rowAt_mem nd.2 h
structure RowG (ns : List Str) (x : Row) : Prop where
  und : x.us.Nodup
  uin : ∀ u ∈ x.us, u ∈ ns
  self : ¬ x.n ∈ x.us
  u3 : x.us.length ≤ 3
  cl : x.cols.length = x.us.length
  cok : ∀ c ∈ x.cols, c.length = x.many ∧ riseL c ∧ ∀ w ∈ c, bdW 100 w
  mV : x.many ≤ 16
structure RowsOk (rs : List Row) : Prop where
  nd : (rs.map (·.n)).Nodup
  nm : ∀ x ∈ rs, nameB (.str x.n) = true
  l0 : 1 ≤ rs.length
  l12 : rs.length ≤ 12
  row : ∀ x ∈ rs, RowG (rs.map (·.n)) x
theorem RowOk.g {ns : List Str} {V : Nat} {x : Row} (h : RowOk ns V x) (k : V ≤ 16) : RowG ns x := ⟨h.und, h.uin, h.self, by have := h.u2; omega, h.cl, h.cok, by have := h.mV; omega⟩
theorem zip_look : ∀ {us : List Str} {cs : List (List WT)}, us.Nodup → cs.length = us.length → us.map (fun u => ((us.zip cs).lookup u).getD []) = cs
  | [], [], _, _ => rfl
  | [], _ :: _, _, h => by simp at h
  | _ :: _, [], _, h => by simp at h
  | u :: us, c :: cs, nd, h => by
    rw [List.nodup_cons] at nd
    have ih := zip_look (us := us) (cs := cs) nd.2 (by simpa using h)
    rw [List.map_cons, List.zip_cons_cons]
    congr 1
    · simp [List.lookup_cons]
    · conv => rhs; rw [← ih]
      refine List.map_congr_left fun v hv => ?_
      have ne : ¬ v = u := fun z => nd.1 (z ▸ hv)
      have : (v == u) = false := by simpa using ne
      simp [List.lookup_cons, this]
theorem RowG.colm {ns : List Str} {x : Row} (h : RowG ns x) : x.us.map x.col = x.cols := zip_look h.und h.cl
theorem RowG.col {ns : List Str} {x : Row} (h : RowG ns x) {u : Str} (hu : u ∈ x.us) : x.col u ∈ x.cols := by
  rw [← h.colm]; exact List.mem_map.mpr ⟨u, hu, rfl⟩
theorem RowG.vers {ns : List Str} {x : Row} (h : RowG ns x) : x.vers = (List.range x.many).map fun k => x.us.map fun u => (x.col u).getD k (0, none) := by
  unfold Row.vers
  refine List.map_congr_left fun k _ => ?_
  rw [← h.colm, List.map_map]
  rfl
def verRec (n : Str) (v : List WT) : PyData := pubRec n (v.map winD)
def rowsLog (rs : List Row) : List PyData := rs.flatMap fun x => x.vers.map fun v => verRec x.n v
def rowsTS (rs : List Row) : TS := ⟨rs.map (·.n), fun m => (rowAt rs m).us, fun m => (rowAt rs m).many, fun m u => (rowAt rs m).col u, fun _ => [], rowsLog rs⟩
/-- .. of which so many versions are published -/
def parTS (rs : List Row) (c : Str → Nat) (l : List PyData) : CS := ⟨rs.map (·.n), fun m => (rowAt rs m).us, c, fun m u => (((rowAt rs m).col u).take (c m)).map winD, fun _ => [], l⟩
theorem mem_row {rs : List Row} {m : Str} (h : m ∈ rs.map (·.n)) : ∃ x ∈ rs, x.n = m := List.mem_map.mp h
theorem RowsOk.at_ {rs : List Row} (h : RowsOk rs) {m : Str} (hm : m ∈ rs.map (·.n)) : rowAt rs m ∈ rs ∧ (rowAt rs m).n = m := by
  obtain ⟨x, hx, rfl⟩ := mem_row hm
  rw [rowAt_mem h.nd hx]; exact ⟨hx, rfl⟩
theorem RowsOk.us {rs : List Row} (h : RowsOk rs) : UsOk (rs.map (·.n)) fun m => (rowAt rs m).us := by
  have sum : ((rs.map (·.n)).map fun n => (rowAt rs n).us.length).sum ≤ 3 * (rs.map (·.n)).length := by
    have go : ∀ xs : List Str, (∀ x ∈ xs, x ∈ rs.map (·.n)) → (xs.map fun n => (rowAt rs n).us.length).sum ≤ 3 * xs.length := by
      intro xs
      induction xs with
      | nil => intro _; simp
      | cons x xs ih =>
        intro hx
        have h1 := (h.row _ (h.at_ (hx x (by simp))).1).u3
        have h2 := ih fun y hy => hx y (List.mem_cons_of_mem _ hy)
        simp only [List.map_cons, List.sum_cons, List.length_cons]
        omega
    exact go _ fun x hx => hx
  have l0 := h.l0
  have l12 := h.l12
  refine ⟨by rw [List.length_map]; omega, by rw [List.length_map]; exact l12, fun n hn => ?_, h.nd, fun n hn => (h.row _ (h.at_ hn).1).und, fun n hn => (h.row _ (h.at_ hn).1).uin, fun n hn => ?_, ?_⟩
  · obtain ⟨x, hx, rfl⟩ := mem_row hn; exact h.nm x hx
  · have z := (h.row _ (h.at_ hn).1).self
    rw [(h.at_ hn).2] at z; exact z
  · rw [List.length_map] at sum; omega
open PySem PySem.Spec PyProof.Rows L2





section
variable {P : Program} {w : World} {K : PySem.W.Frag} {mg : Str → Option Value} {base : Heap} {A : Ad}
def sp_catalog_of (K : PySem.W.Frag) (C : Addr) : Sp := fun vs H Q _ => ∃ a xs, ∃ rs : List Row, vs = [.ref a] ∧ H a = some (.lst xs) ∧ RowsL K H xs rs ∧ RowsOk rs ∧
  ∀ (L : CL) H', Same H H' → CatAt K C H' L (rowsTS rs).cs → (∀ x, (rowsTS rs).cs.ok x → H (L.at x) = none) → Q (.ref L.p) H'
end

open PySem PySem.Spec PyProof.Rows L2





/-! ### the law's own record of a catalog: a world -/
inductive WRo
  | ob | mod | use | win | thr
  | usl (n : Str)
  | col (m u : Str)
  | thl (n : Str)
structure WL where
  b : Addr
  bm : Addr
  b1 : Addr
  b2 : Addr
  b3 : Addr
  tl : Str → Addr
  tc : Str → Str → Addr
  tg : Str → Addr
def worldD (L : WL) : List (Key × V) := [(.inr "modules", .ref L.bm), (.inr "uses", .ref L.b1), (.inr "windows", .ref L.b2), (.inr "there", .ref L.b3)]
def WL.at (L : WL) : WRo → Addr
  | .ob => L.b
  | .mod => L.bm
  | .use => L.b1
  | .win => L.b2
  | .thr => L.b3
  | .usl n => L.tl n
  | .col m u => L.tc m u
  | .thl n => L.tg n
def CS.okW (S : CS) : WRo → Prop
  | .usl n => n ∈ S.ns
  | .col m u => m ∈ S.ns ∧ u ∈ S.us m
  | .thl n => n ∈ S.ns
  | _ => True
def CS.isW (K : PySem.W.Frag) (L : WL) (S : CS) (T : Hp) : WRo → HO → Prop
  | .ob, o => o = .dK (worldD L)
  | .mod, o => o = .lst (strsV S.ns)
  | .use, o => o = .dK (tabS S.ns fun n => .ref (L.tl n))
  | .win, o => o = .dT (tabP S.pairs fun m u => .ref (L.tc m u))
  | .thr, o => o = .dK (tabS S.ns fun n => .ref (L.tg n))
  | .usl n, o => o = .lst (strsV (S.us n))
  | .col m u, o => ∃ vs, o = .lst vs ∧ DaAllF false K T vs (S.col m u)
  | .thl n, o => o = .lst ((S.avail n).map fun k : Nat => V.int k)
def WorldY (K : PySem.W.Frag) (L : WL) (S : CS) : Lay WRo where
  at_ := L.at
  ok := S.okW
  is := S.isW K L
  mono := fun {T T' x o} s h => by
    cases x with
    | col m u => obtain ⟨vs, e, d⟩ := h; exact ⟨vs, e, DaAllF.same s d⟩
    | _ => exact h
  mu := fun {T x o} h => by
    cases x with
    | col m u => obtain ⟨vs, e, d⟩ := h; rw [e]; rfl
    | ob => rw [show o = _ from h]; rfl
    | mod => rw [show o = _ from h]; rfl
    | use => rw [show o = _ from h]; rfl
    | win => rw [show o = _ from h]; rfl
    | thr => rw [show o = _ from h]; rfl
    | usl n => rw [show o = _ from h]; rfl
    | thl n => rw [show o = _ from h]; rfl
abbrev WorldAt (K : PySem.W.Frag) (H : Hp) (L : WL) (S : CS) : Prop := (WorldY K L S).At H
section
variable {K : PySem.W.Frag} {H H' : Hp} {L : WL} {S : CS}
theorem WorldAt.ob (h : WorldAt K H L S) : H L.b = some (.dK (worldD L)) := by obtain ⟨o, g, e⟩ := h.get .ob trivial; rw [show o = _ from e] at g; exact g
theorem WorldAt.mod (h : WorldAt K H L S) : H L.bm = some (.lst (strsV S.ns)) := by obtain ⟨o, g, e⟩ := h.get .mod trivial; rw [show o = _ from e] at g; exact g
theorem WorldAt.use (h : WorldAt K H L S) : H L.b1 = some (.dK (tabS S.ns fun n => .ref (L.tl n))) := by obtain ⟨o, g, e⟩ := h.get .use trivial; rw [show o = _ from e] at g; exact g
theorem WorldAt.win (h : WorldAt K H L S) : H L.b2 = some (.dT (tabP S.pairs fun m u => .ref (L.tc m u))) := by obtain ⟨o, g, e⟩ := h.get .win trivial; rw [show o = _ from e] at g; exact g
theorem WorldAt.thr (h : WorldAt K H L S) : H L.b3 = some (.dK (tabS S.ns fun n => .ref (L.tg n))) := by obtain ⟨o, g, e⟩ := h.get .thr trivial; rw [show o = _ from e] at g; exact g
theorem WorldAt.usl (h : WorldAt K H L S) {n : Str} (hn : n ∈ S.ns) : H (L.tl n) = some (.lst (strsV (S.us n))) := by obtain ⟨o, g, e⟩ := h.get (.usl n) hn; rw [show o = _ from e] at g; exact g
theorem WorldAt.thl (h : WorldAt K H L S) {n : Str} (hn : n ∈ S.ns) : H (L.tg n) = some (.lst ((S.avail n).map fun k : Nat => V.int k)) := by obtain ⟨o, g, e⟩ := h.get (.thl n) hn; rw [show o = _ from e] at g; exact g
theorem WorldAt.col (h : WorldAt K H L S) {m u : Str} (hm : m ∈ S.ns) (hu : u ∈ S.us m) : ∃ vs, H (L.tc m u) = some (.lst vs) ∧ DaAllF false K (tp H) vs (S.col m u) := by
  obtain ⟨o, g, vs, e, d⟩ := h.get (.col m u) ⟨hm, hu⟩; rw [e] at g; exact ⟨vs, g, d⟩
theorem CS.Eqv.okW {S S' : CS} (e : S.Eqv S') {x : WRo} (h : S'.okW x) : S.okW x := by
  cases x with
  | col m u => have h : m ∈ S'.ns ∧ u ∈ S'.us m := h; rw [e.ns, e.us] at h; exact h
  | usl n => have h : n ∈ S'.ns := h; rw [e.ns] at h; exact h
  | thl n => have h : n ∈ S'.ns := h; rw [e.ns] at h; exact h
  | _ => trivial
theorem CS.Eqv.avail {S S' : CS} (e : S.Eqv S') {n : Str} (hn : n ∈ S.ns) : S'.avail n = S.avail n := by unfold CS.avail; rw [e.cnt n hn, e.gone n hn]
theorem WorldAt.eqv {S' : CS} (h : WorldAt K H L S) (e : S.Eqv S') : WorldAt K H L S' := by
  refine ⟨fun x k => ?_, fun x y kx ky z => h.inj x y (e.okW kx) (e.okW ky) z⟩
  obtain ⟨o, g, i⟩ := h.get x (e.okW k)
  refine ⟨o, g, ?_⟩
  have ep : S'.pairs = S.pairs := by unfold CS.pairs; rw [e.ns, e.us]
  cases x with
  | mod => show o = .lst (strsV S'.ns); rw [e.ns]; exact i
  | use => show o = .dK (tabS S'.ns _); rw [e.ns]; exact i
  | win => show o = .dT (tabP S'.pairs _); rw [ep]; exact i
  | thr => show o = .dK (tabS S'.ns _); rw [e.ns]; exact i
  | usl n => show o = .lst (strsV (S'.us n)); rw [e.us]; exact i
  | thl n =>
    have k' : n ∈ S.ns := e.okW (x := .thl n) k
    show o = .lst ((S'.avail n).map _)
    rw [e.avail k']; exact i
  | col m u =>
    obtain ⟨vs, e1, e2⟩ := i
    have k' : m ∈ S.ns ∧ u ∈ S.us m := e.okW (x := .col m u) k
    exact ⟨vs, e1, by rw [e.col m k'.1 u k'.2]; exact e2⟩
  | ob => exact i
end
/-! ### .. while it is filled -/
structure TabG {α : Type} (mk : List α → (α → Addr) → HO) (el : α → HO) (H1 : Hp) (D : Addr) (xs : List α) (f : α → Addr) (H : Hp) : Prop where
  tab : H D = some (mk xs f)
  els : ∀ x ∈ xs, H1 (f x) = none ∧ f x ≠ D ∧ H (f x) = some (el x)
  inj : ∀ x ∈ xs, ∀ y ∈ xs, f x = f y → x = y
section
variable {α : Type} {mk : List α → (α → Addr) → HO} {el : α → HO} {H1 H H2 H3 : Hp} {D a : Addr} {xs : List α} {f : α → Addr}
theorem TabG.same (q : TabG mk el H1 D xs f H) (s : Same H H2) : TabG mk el H1 D xs f H2 :=
  ⟨s _ _ q.tab, fun x hx => ⟨(q.els x hx).1, (q.els x hx).2.1, s _ _ (q.els x hx).2.2⟩, q.inj⟩
theorem TabG.offN {u : HO} (q : TabG mk el H1 D xs f H) (o : Off a H H2) (n : D ≠ a) (h : H1 a = some u) : TabG mk el H1 D xs f H2 :=
  ⟨o.get n q.tab, fun x hx => ⟨(q.els x hx).1, (q.els x hx).2.1, o.get (fun z => by have := (q.els x hx).1; rw [z, h] at this; cases this) (q.els x hx).2.2⟩, q.inj⟩
theorem TabG.congr {el' : α → HO} (q : TabG mk el H1 D xs f H) (h : ∀ x ∈ xs, el' x = el x) : TabG mk el' H1 D xs f H :=
  ⟨q.tab, fun x hx => ⟨(q.els x hx).1, (q.els x hx).2.1, by rw [h x hx]; exact (q.els x hx).2.2⟩, q.inj⟩
theorem TabG.fresh (q : TabG mk el H1 D xs f H) (na : H a = none) : ∀ y ∈ xs, f y ≠ a := fun y hy z => by
  have := (q.els y hy).2.2
  rw [z, na] at this; cases this
theorem TabG.add [DecidableEq α] {x : α} (q : TabG mk el H1 D xs f H2) (nx : ¬ x ∈ xs) (n1 : H1 a = none) (nD : a ≠ D) (old : ∀ y ∈ xs, f y ≠ a) (ea : H2 a = some (el x)) (o : Off D H2 H3)
    (e : H3 D = some (mk (xs ++ [x]) fun y => if y = x then a else f y)) : TabG mk el H1 D (xs ++ [x]) (fun y => if y = x then a else f y) H3 := by
  have ne : ∀ y ∈ xs, y ≠ x := fun y hy z => nx (z ▸ hy)
  refine ⟨e, fun y hy => ?_, fun y hy z hz h => ?_⟩
  · rcases List.mem_append.mp hy with hy | hy
    · rw [if_neg (ne y hy)]
      exact ⟨(q.els y hy).1, (q.els y hy).2.1, o.get (q.els y hy).2.1 (q.els y hy).2.2⟩
    · rw [List.mem_singleton] at hy
      subst hy
      rw [if_pos rfl]
      exact ⟨n1, nD, o.get nD ea⟩
  · rcases List.mem_append.mp hy with hy | hy <;> rcases List.mem_append.mp hz with hz | hz
    · rw [if_neg (ne y hy), if_neg (ne z hz)] at h; exact q.inj y hy z hz h
    · rw [List.mem_singleton] at hz; rw [hz, if_neg (ne y hy), if_pos rfl] at h; exact absurd h (old y hy)
    · rw [List.mem_singleton] at hy; rw [hy, if_pos rfl, if_neg (ne z hz)] at h; exact absurd h.symm (old z hz)
    · rw [List.mem_singleton] at hy hz; rw [hy, hz]
end
structure BkW (H1 : Hp) (b1 b2 b3 : Addr) (nu nt : List Str) (ps : List (Str × Str)) (gl gg : Str → HO) (gc : Str × Str → HO) (tl tg : Str → Addr) (tc : Str × Str → Addr) (G : Hp) : Prop where
  t1 : TabG mkS gl H1 b1 nu tl G
  t2 : TabG mkP gc H1 b2 ps tc G
  t3 : TabG mkS gg H1 b3 nt tg G
  fr : Fr (fun a => a = b1 ∨ a = b2 ∨ a = b3) H1 G
  c1 : ∀ n ∈ nu, ∀ m ∈ nt, tl n ≠ tg m
  c2 : ∀ n ∈ nu, ∀ q ∈ ps, tl n ≠ tc q
  c3 : ∀ n ∈ nt, ∀ q ∈ ps, tg n ≠ tc q
section
variable {H1 G G2 G3 : Hp} {b1 b2 b3 a : Addr} {nu nt : List Str} {ps : List (Str × Str)} {gl gg : Str → HO} {gc : Str × Str → HO} {tl tg : Str → Addr} {tc : Str × Str → Addr}
theorem BkW.same (b : BkW H1 b1 b2 b3 nu nt ps gl gg gc tl tg tc G) (s : Same G G2) : BkW H1 b1 b2 b3 nu nt ps gl gg gc tl tg tc G2 := ⟨b.t1.same s, b.t2.same s, b.t3.same s, b.fr.trans (.of_same s), b.c1, b.c2, b.c3⟩
theorem BkW.new (b : BkW H1 b1 b2 b3 nu nt ps gl gg gc tl tg tc G) (na : G a = none) : H1 a = none ∧ a ≠ b1 ∧ a ≠ b2 ∧ a ≠ b3 := by
  have n1 : a ≠ b1 := fun z => by rw [z, b.t1.tab] at na; cases na
  have n2 : a ≠ b2 := fun z => by rw [z, b.t2.tab] at na; cases na
  have n3 : a ≠ b3 := fun z => by rw [z, b.t3.tab] at na; cases na
  refine ⟨?_, n1, n2, n3⟩
  cases e : H1 a with
  | none => rfl
  | some o => rw [b.fr a o (fun z => z.elim n1 fun z => z.elim n2 n3) e] at na; cases na
theorem nem {α : Type} {x y : α} {l : List α} (h : x ∈ l) (n : ¬ y ∈ l) : x ≠ y := fun z => n (z ▸ h)
theorem ifn {α β : Type} [DecidableEq α] {x y : α} {a b : β} (h : x ≠ y) : (if x = y then a else b) = b := if_neg h
theorem BkW.addU {n : Str} {u1 : HO} (b : BkW H1 b1 b2 b3 nu nt ps gl gg gc tl tg tc G) (na : G a = none) (s : Same G G2) (ea : G2 a = some (gl n)) (h1 : H1 b1 = some u1) (n12 : b1 ≠ b2) (n13 : b1 ≠ b3) (nin : ¬ n ∈ nu) (o : Off b1 G2 G3)
    (e : G3 b1 = some (.dK (putK (tabS nu fun n => .ref (tl n)) (.inr n) (.ref a)))) : BkW H1 b1 b2 b3 (nu ++ [n]) nt ps gl gg gc (fun y => if y = n then a else tl y) tg tc G3 := by
  obtain ⟨m1, m2, m3, m4⟩ := b.new na
  have b2' := b.same s
  rw [mkS_add nin] at e
  refine ⟨b2'.t1.add nin m1 m2 (b.t1.fresh na) ea o e, b2'.t2.offN o n12.symm h1, b2'.t3.offN o n13.symm h1, b2'.fr.trans (Fr.of_off o (.inl rfl)), fun x hx m hm => ?_, fun x hx q hq => ?_, b.c3⟩
  · rcases List.mem_append.mp hx with hx | hx
    · rw [ifn (nem hx nin)]; exact b.c1 x hx m hm
    · rw [List.mem_singleton] at hx; rw [hx, if_pos rfl]; exact (b.t3.fresh na m hm).symm
  · rcases List.mem_append.mp hx with hx | hx
    · rw [ifn (nem hx nin)]; exact b.c2 x hx q hq
    · rw [List.mem_singleton] at hx; rw [hx, if_pos rfl]; exact (b.t2.fresh na q hq).symm
theorem BkW.world {K : PySem.W.Frag} {S : CS} {L : WL} {b bm : Addr} {vs : Str × Str → List V} (k : BkW H1 b1 b2 b3 S.ns S.ns S.pairs (fun n => .lst (strsV (S.us n))) (fun n => .lst ((S.avail n).map fun k : Nat => V.int k)) (fun q => .lst (vs q)) tl tg tc G) (hL : L = ⟨b, bm, b1, b2, b3, tl, fun m u => tc (m, u), tg⟩)
    (hb : H1 b = some (.dK (worldD L))) (hm : H1 bm = some (.lst (strsV S.ns))) (g1 : H1 b1 ≠ none) (g2 : H1 b2 ≠ none) (g3 : H1 b3 ≠ none) (nb1 : b ≠ b1) (nb2 : b ≠ b2) (nb3 : b ≠ b3) (nm1 : bm ≠ b1) (nm2 : bm ≠ b2) (nm3 : bm ≠ b3) (nbm : b ≠ bm) (n12 : b1 ≠ b2) (n13 : b1 ≠ b3) (n23 : b2 ≠ b3)
    (hd : ∀ q ∈ S.pairs, DaAllF false K (tp G) (vs q) (S.col q.1 q.2)) : WorldAt K G L S := by
  subst hL
  have N : ∀ {a o}, H1 a = some o → H1 a ≠ none := fun e n => by rw [e] at n; cases n
  have tcn : ∀ m u, S.okW (.col m u) → H1 (tc (m, u)) = none := fun m u h => (k.t2.els _ (CS.mem_pairs.mpr h)).1
  have tgn : ∀ n, n ∈ S.ns → H1 (tg n) = none := fun n h => (k.t3.els _ h).1
  have tln : ∀ n, n ∈ S.ns → H1 (tl n) = none := fun n h => (k.t1.els _ h).1
  refine ⟨fun x kx => ?_, ?_⟩
  · cases x with
    | ob => exact ⟨_, k.fr _ _ (fun z => z.elim nb1 fun z => z.elim nb2 nb3) hb, rfl⟩
    | mod => exact ⟨_, k.fr _ _ (fun z => z.elim nm1 fun z => z.elim nm2 nm3) hm, rfl⟩
    | use => exact ⟨_, k.t1.tab, rfl⟩
    | win => exact ⟨_, k.t2.tab, rfl⟩
    | thr => exact ⟨_, k.t3.tab, rfl⟩
    | usl n => exact ⟨_, (k.t1.els n kx).2.2, rfl⟩
    | thl n => exact ⟨_, (k.t3.els n kx).2.2, rfl⟩
    | col m u =>
      have z := CS.mem_pairs.mpr kx
      exact ⟨_, (k.t2.els _ z).2.2, _, rfl, hd _ z⟩
  · intro x y kx ky e
    cases x <;> cases y <;> first | rfl | skip
    all_goals first
      | exact absurd e (by assumption)
      | exact absurd e.symm (by assumption)
      | (exfalso; exact N hb (by rw [show b = _ from e]; first | exact tcn _ _ ky | exact tgn _ ky | exact tln _ ky))
      | (exfalso; exact N hb (by rw [show b = _ from e.symm]; first | exact tcn _ _ kx | exact tgn _ kx | exact tln _ kx))
      | (exfalso; exact N hm (by rw [show bm = _ from e]; first | exact tcn _ _ ky | exact tgn _ ky | exact tln _ ky))
      | (exfalso; exact N hm (by rw [show bm = _ from e.symm]; first | exact tcn _ _ kx | exact tgn _ kx | exact tln _ kx))
      | (exfalso; exact g1 (by rw [show b1 = _ from e]; first | exact tcn _ _ ky | exact tgn _ ky | exact tln _ ky))
      | (exfalso; exact g1 (by rw [show b1 = _ from e.symm]; first | exact tcn _ _ kx | exact tgn _ kx | exact tln _ kx))
      | (exfalso; exact g2 (by rw [show b2 = _ from e]; first | exact tcn _ _ ky | exact tgn _ ky | exact tln _ ky))
      | (exfalso; exact g2 (by rw [show b2 = _ from e.symm]; first | exact tcn _ _ kx | exact tgn _ kx | exact tln _ kx))
      | (exfalso; exact g3 (by rw [show b3 = _ from e]; first | exact tcn _ _ ky | exact tgn _ ky | exact tln _ ky))
      | (exfalso; exact g3 (by rw [show b3 = _ from e.symm]; first | exact tcn _ _ kx | exact tgn _ kx | exact tln _ kx))
      | (exfalso; exact k.c1 _ kx _ ky e)
      | (exfalso; exact k.c1 _ ky _ kx e.symm)
      | (exfalso; exact k.c2 _ kx _ (CS.mem_pairs.mpr ky) e)
      | (exfalso; exact k.c2 _ ky _ (CS.mem_pairs.mpr kx) e.symm)
      | (exfalso; exact k.c3 _ kx _ (CS.mem_pairs.mpr ky) e)
      | (exfalso; exact k.c3 _ ky _ (CS.mem_pairs.mpr kx) e.symm)
      | (have z := k.t2.inj _ (CS.mem_pairs.mpr kx) _ (CS.mem_pairs.mpr ky) e; cases z; rfl)
      | (have z := k.t1.inj _ kx _ ky e; cases z; rfl)
      | (have z := k.t3.inj _ kx _ ky e; cases z; rfl)
end


open PySem PySem.Spec PyProof.Rows L2





section
variable {P : Program} {w : World} {K : PySem.W.Frag} {mg : Str → Option Value} {base : Heap} {A : Ad}
theorem flat_winD (w : WT) : flatD (winD w) = true := by
  obtain ⟨l, o⟩ := w
  cases o <;> rfl
def sp_l_world (K : PySem.W.Frag) : Sp := fun vs H Q _ => ∃ a xs, ∃ rs : List Row, vs = [.ref a] ∧ H a = some (.lst xs) ∧ RowsL K H xs rs ∧ RowsOk rs ∧
  ∀ (L : WL) H', Same H H' → WorldAt K H' L (rowsTS rs).cs → (∀ x, (rowsTS rs).cs.okW x → H (L.at x) = none) → Q (.ref L.b) H'
end

open PySem PySem.Spec PyProof.Rows L2





section
variable {P : Program} {w : World} {K : PySem.W.Frag} {mg : Str → Option Value} {base : Heap} {A : Ad}
/-! ### states -/
def keyStr : PyData → Str → Bool
  | .str m, n => decide (m = n)
  | _, _ => false
def lookD : List (PyData × PyData) → Str → Option PyData
  | [], _ => none
  | (k, d) :: r, n => if keyStr k n = true then some d else lookD r n
/-- the module is right in the state -/
def stB (S : CS) (dk : List (PyData × PyData)) (n : Str) : Bool := match lookD dk n with
  | some d => availB S n d
  | none => false
def firstBad (S : CS) (dk : List (PyData × PyData)) : List Str → Option Str
  | [] => none
  | n :: r => if stB S dk n = true then firstBad S dk r else some n
/-- what is wrong with a state: none, or what the error tells -/
def badS (S : CS) : PyData → Option V
  | .dict dk => match firstBad S dk S.ns with
    | some n => some (.str n)
    | none => if dk.length = S.ns.length then none else some .non
  | _ => some .non
def sp_rst (K : PySem.W.Frag) (C CI : Addr) : Sp := fun vs H Q E => ∃ L S v d, vs = [.ref (CL.p L), v] ∧ CatAt K C H L S ∧ Da K H v d ∧ S.ns.length ≤ 12 ∧ (badS S d = none → ∀ H', Same H H' → Q .non H') ∧ (∀ x, badS S d = some x → Rz H E CI [("module", x)])
end

open PySem PySem.Spec PyProof.Rows L2





section
variable {P : Program} {w : World} {K : PySem.W.Frag} {mg : Str → Option Value} {base : Heap} {A : Ad}
def sp_is_state (K : PySem.W.Frag) (C : Addr) : Sp := fun vs H Q _ => ∃ L S v d, vs = [.ref (CL.p L), v] ∧ CatAt K C H L S ∧ Da K H v d ∧ S.ns.length ≤ 12 ∧ ∀ H', Same H H' → Q (.bl (badS S d).isNone) H'
/-! ### uses, conflicts -/
def pairD (q : Str × Str) : PyData := .tuple [.str q.1, .str q.2]
def sp_all_uses (K : PySem.W.Frag) (C : Addr) : Sp := fun vs H Q _ => ∃ L S, vs = [.ref (CL.p L)] ∧ CatAt K C H L S ∧ S.pairs.length ≤ 1000 ∧ S.ns.length ≤ 12 ∧ ∀ a xs H', H a = none → Same H H' → H' a = some (.lst xs) → DaAllF false K (tp H') xs (S.pairs.map pairD) → Q (.ref a) H'
end

open PySem PySem.Spec PyProof.Rows L2





section
variable {P : Program} {w : World} {K : PySem.W.Frag} {mg : Str → Option Value} {base : Heap} {A : Ad}
structure TOk (S : TS) (B : Int) : Prop where
  us : UsOk S.ns S.us
  c16 : ∀ n ∈ S.ns, S.cnt n ≤ 16
  wl : ∀ n ∈ S.ns, ∀ u ∈ S.us n, (S.win n u).length = S.cnt n
  wr : ∀ n ∈ S.ns, ∀ u ∈ S.us n, riseL (S.win n u)
  wb : ∀ n ∈ S.ns, ∀ u ∈ S.us n, ∀ w ∈ S.win n u, bdW B w
  gn : ∀ n ∈ S.ns, ∀ i ∈ S.gone n, 0 ≤ i ∧ i < S.cnt n
  gd : ∀ n ∈ S.ns, (S.gone n).Nodup
theorem TOk.p40 {S : TS} {B : Int} (h : TOk S B) : S.cs.pairs.length ≤ 40 := by
  have z := pairs_len (ns := S.ns) (us := S.us)
  have e : S.cs.pairs = (S0 S.ns S.us).pairs := rfl
  rw [e, z]; exact h.us.u40
/-- a dict with these versions -/
def StF (H : Hp) (p : Addr) (ns : List Str) (f : Str → Int) : Prop := ∃ kvs, Rd H p (.dK kvs) ∧ ∀ n ∈ ns, valV kvs (.inr n) = some (.int (f n))
theorem StF.same {H H' : Hp} {p : Addr} {ns : List Str} {f : Str → Int} (h : StF H p ns f) (s : Same H H') : StF H' p ns f := by
  obtain ⟨kvs, r, k⟩ := h
  exact ⟨kvs, Rd.same s r, k⟩
theorem StF.get {H : Hp} {p : Addr} {ns : List Str} {f : Str → Int} (h : StF H p ns f) {n : Str} (hn : n ∈ ns) : DGet H p (.str n) (some (.int (f n))) := by
  obtain ⟨kvs, r, k⟩ := h
  exact .inl ⟨kvs, .inr n, r, rfl, (k n hn).symm⟩
/-- what a state has a conflict in -/
def TS.bad (S : TS) (f : Str → Int) (q : Str × Str) : Bool := !contW ((S.win q.1 q.2).getD (f q.1).toNat (0, none)) (f q.2)
def TS.conf (S : TS) (f : Str → Int) : List (Str × Str) := S.cs.pairs.filter (S.bad f)
def StV (S : TS) (f : Str → Int) : Prop := ∀ n ∈ S.ns, 0 ≤ f n ∧ f n < S.cnt n
def sp_fc (K : PySem.W.Frag) (C : Addr) : Sp := fun vs H Q _ => ∃ L S p f, ∃ B : Int, vs = [.ref (CL.p L), .ref p] ∧ CatAt K C H L (TS.cs S) ∧ TOk S B ∧ StF H p S.ns f ∧ StV S f ∧ ∀ a xs H', H a = none → Same H H' → H' a = some (.lst xs) → DaAllF false K (tp H') xs ((S.conf f).map pairD) → Q (.ref a) H'
end

open PySem PySem.Spec PyProof.Rows L2





section
variable {P : Program} {w : World} {K : PySem.W.Frag} {mg : Str → Option Value} {base : Heap} {A : Ad}
def stD (dk : List (PyData × PyData)) (n : Str) : Int := match lookD dk n with
  | some (.int i) => i
  | _ => 0
def sp_conf (K : PySem.W.Frag) (C CI : Addr) : Sp := fun vs H Q E => ∃ L S v d, ∃ B : Int, vs = [.ref (CL.p L), v] ∧ CatAt K C H L (TS.cs S) ∧ TOk S B ∧ Da K H v d ∧
  (∀ dk, d = .dict dk → badS S.cs d = none → ∀ a xs H', H a = none → Same H H' → H' a = some (.lst xs) → DaAllF false K (tp H') xs ((S.conf (stD dk)).map pairD) → Q (.ref a) H') ∧ (∀ x, badS S.cs d = some x → Rz H E CI [("module", x)])
def firstD (l : List (Str × Str)) : PyData := match l with
  | [] => .none
  | q :: _ => pairD q
def sp_first (K : PySem.W.Frag) (C CI : Addr) : Sp := fun vs H Q E => ∃ L S v d, ∃ B : Int, vs = [.ref (CL.p L), v] ∧ CatAt K C H L (TS.cs S) ∧ TOk S B ∧ Da K H v d ∧
  (∀ dk, d = .dict dk → badS S.cs d = none → ∀ y H', Same H H' → DaF false K (tp H') y (firstD (S.conf (stD dk))) → Q y H') ∧ (∀ x, badS S.cs d = some x → Rz H E CI [("module", x)])
def belowB (ns : List Str) (f g : Str → Int) : Bool := ns.all fun n => decide (f n ≤ g n)
def sp_below (K : PySem.W.Frag) (C CI : Addr) : Sp := fun vs H Q E => ∃ L S v1 d1 v2 d2, ∃ B : Int, vs = [.ref (CL.p L), v1, v2] ∧ CatAt K C H L (TS.cs S) ∧ TOk S B ∧ Da K H v1 d1 ∧ Da K H v2 d2 ∧
  (∀ k1 k2, d1 = .dict k1 → d2 = .dict k2 → badS S.cs d1 = none → badS S.cs d2 = none → ∀ H', Same H H' → Q (.bl (belowB S.ns (stD k1) (stD k2))) H') ∧ (∀ x, badS S.cs d1 = some x → Rz H E CI [("module", x)]) ∧ (∀ x, badS S.cs d1 = none → badS S.cs d2 = some x → Rz H E CI [("module", x)])
end

open PySem PySem.Spec PyProof.Rows L2





section
variable {P : Program} {w : World} {K : PySem.W.Frag} {mg : Str → Option Value} {base : Heap} {A : Ad}
theorem name_sh {n : Str} (h : nameB (.str n) = true) : Sh (.str n) 82 0 := by
  have z := nameB_tl.mp h
  refine Sh.str (n := 8) ⟨by rw [← tl_len]; exact z.2.1, fun c hc => az_small c (z.2.2 c hc)⟩
/-! ### what is shown -/
theorem Sh.dic {kvs : List (PyData × PyData)} {n k : Nat} (h : ∀ p ∈ kvs, Sh p.1 n k ∧ Sh p.2 n k) : Sh (.dict kvs) (kvs.length * (2 * n + 4) + 3) (k + 1) := by
  have go : ∀ {kvs : List (PyData × PyData)}, (∀ p ∈ kvs, Sh p.1 n k ∧ Sh p.2 n k) → PyData.showableKv kvs = true ∧ PyData.depthKv kvs ≤ k ∧ ((PyData.shownKv kvs).map (·.length)).sum ≤ kvs.length * (2 * n + 2) ∧ (PyData.shownKv kvs).length = kvs.length := by
    intro kvs
    induction kvs with
    | nil => intro _; exact ⟨rfl, Nat.zero_le _, by simp [PyData.shownKv], rfl⟩
    | cons p r ih =>
      intro h
      obtain ⟨a, b⟩ := p
      obtain ⟨h1, h2⟩ := h (a, b) (by simp)
      obtain ⟨i1, i2, i3, i4⟩ := ih fun q hq => h q (List.mem_cons_of_mem _ hq)
      refine ⟨by simp [PyData.showableKv, h1.ok, h2.ok, i1], ?_, ?_, by simp [PyData.shownKv, i4]⟩
      · have a1 := h1.dp
        have a2 := h2.dp
        dsimp only at a1 a2
        simp only [PyData.depthKv]; omega
      · have a1 := h1.ln
        have a2 := h2.ln
        dsimp only at a1 a2
        have e3 : (": " : Str).length = 2 := by decide +kernel
        simp only [PyData.shownKv, List.map_cons, List.sum_cons, List.length_cons, Str.length_append, e3, Nat.add_mul, Nat.one_mul]
        omega
  obtain ⟨i1, i2, i3, i4⟩ := go h
  refine ⟨by simpa [PyData.showable] using i1, by simp only [PyData.depth]; omega, ?_⟩
  have := dictText_len_le (PyData.shownKv kvs)
  simp only [PyData.shown]
  rw [i4] at this
  have e : kvs.length * (2 * n + 4) = kvs.length * (2 * n + 2) + kvs.length * 2 := by rw [← Nat.mul_add]
  omega
theorem TOk.pair {S : TS} {B : Int} (h : TOk S B) {q : Str × Str} (hq : q ∈ S.cs.pairs) : nameB (.str q.1) = true ∧ nameB (.str q.2) = true := by
  obtain ⟨a, b⟩ := q
  obtain ⟨h1, h2⟩ := CS.mem_pairs.mp hq
  exact ⟨h.us.nm _ h1, h.us.nm _ (h.us.uin _ h1 _ h2)⟩
/-! ### _law_contains -/
def sp_l_cont (K : PySem.W.Frag) : Sp := fun vs H Q _ => ∃ v w n, vs = [v, .int n] ∧ Da K H v (winD w) ∧ ∀ H', Same H H' → Q (.bl (contW w n)) H'
end

open PySem PySem.Spec PyProof.Rows L2





section
variable {P : Program} {w : World} {K : PySem.W.Frag} {mg : Str → Option Value} {base : Heap} {A : Ad}
/-! ### _law_conflicts: a dict of some modules' versions -/
def StP (H : Hp) (p : Addr) (ks : List Str) (f : Str → Int) : Prop := ∃ kvs, Rd H p (.dK kvs) ∧ ∀ n, valV kvs (.inr n) = if n ∈ ks then some (.int (f n)) else none
theorem StP.same {H H' : Hp} {p : Addr} {ks : List Str} {f : Str → Int} (h : StP H p ks f) (s : Same H H') : StP H' p ks f := by
  obtain ⟨kvs, r, k⟩ := h
  exact ⟨kvs, Rd.same s r, k⟩
theorem StP.get {H : Hp} {p : Addr} {ks : List Str} {f : Str → Int} (h : StP H p ks f) {n : Str} (hn : n ∈ ks) : DGet H p (.str n) (some (.int (f n))) := by
  obtain ⟨kvs, r, k⟩ := h
  exact .inl ⟨kvs, .inr n, r, rfl, by rw [k n, if_pos hn]⟩
def TS.badP (S : TS) (ks : List Str) (f : Str → Int) (q : Str × Str) : Bool := decide (q.1 ∈ ks) && (decide (q.2 ∈ ks) && S.bad f q)
def TS.confP (S : TS) (ks : List Str) (f : Str → Int) : List (Str × Str) := S.cs.pairs.filter (S.badP ks f)
def sp_l_conf (K : PySem.W.Frag) : Sp := fun vs H Q _ => ∃ L S p ks f, ∃ B : Int, vs = [.ref (WL.b L), .ref p] ∧ WorldAt K H L (TS.cs S) ∧ TOk S B ∧ StP H p ks f ∧ (∀ n ∈ S.ns, n ∈ ks → 0 ≤ f n ∧ f n < S.cnt n) ∧ ∀ a xs H', H a = none → Same H H' → H' a = some (.lst xs) → DaAllF false K (tp H') xs ((S.confP ks f).map pairD) → Q (.ref a) H'
end

open PySem PySem.Spec PyProof.Rows L2





/-! ### changes of typed catalogs and worlds -/
def TS.wd (S : TS) (n : Str) (i : Int) : TS := { S with gone := fun x => if x = n then S.gone x ++ [i] else S.gone x, log := S.log ++ [wdRec n i] }
def TS.pub (S : TS) (n : Str) (w : Str → WT) : TS := { S with cnt := fun x => if x = n then S.cnt n + 1 else S.cnt x, win := fun m u => if m = n then S.win m u ++ [w u] else S.win m u, log := S.log ++ [verRec n ((S.us n).map w)] }
theorem TS.pub_eqv {S : TS} {n : Str} {w : Str → WT} (und : (S.us n).Nodup) : (S.cs.pub n (((S.us n).map w).map winD)).Eqv (S.pub n w).cs := by
  have es := addCols_ns (n := n) ((S.cs.us n).zip (((S.us n).map w).map winD)) S.cs
  refine ⟨es.1.symm, es.2.1.symm, fun x hx => ?_, fun m hm u hu => ?_, fun x hx => ?_, ?_⟩
  · show (if x = n then S.cnt n + 1 else S.cnt x) = (if x = n then S.cnt n + 1 else (S.cs.addCols n _).cnt x)
    rw [es.2.2.1]; rfl
  · have hu2 : u ∈ S.us m := by
      have z : u ∈ (S.cs.addCols n _).us m := hu
      rw [es.2.1] at z; exact z
    clear hu
    show (if m = n then S.win m u ++ [w u] else S.win m u).map winD = (S.cs.addCols n _).col m u
    by_cases z : m = n
    · subst z
      rw [if_pos rfl]
      obtain ⟨i, hi, rfl⟩ := List.getElem_of_mem hu2
      rw [addCols_in (u := (S.us m)[i]) (d := winD (w (S.us m)[i])), List.map_append]
      · rfl
      · rw [zip_fst (by simp; rfl)]; exact und
      · rw [List.map_map]
        refine List.mem_of_getElem? (i := i) (List.getElem?_zip_eq_some.mpr ⟨List.getElem?_eq_getElem hi, ?_⟩)
        rw [List.getElem?_map, List.getElem?_eq_getElem hi]; rfl
    · rw [if_neg z, addCols_ne z]; rfl
  · show S.gone x = (S.cs.addCols n _).gone x
    rw [es.2.2.2.1]; rfl
  · show S.log ++ [_] = (S.cs.addCols n _).log ++ [_]
    rw [es.2.2.2.2]; rfl
theorem TOk.wd {S : TS} {B : Int} {n : Str} {i : Int} (h : TOk S B) (hn : n ∈ S.ns) (hi : availB S.cs n (.int i) = true) : TOk (S.wd n i) B := by
  obtain ⟨j, ej, nin, i0, i1⟩ := availB_int hi
  cases ej
  refine ⟨h.us, h.c16, h.wl, h.wr, h.wb, fun m hm x hx => ?_, fun m hm => ?_⟩
  · have hx : x ∈ (if m = n then S.gone m ++ [i] else S.gone m) := hx
    by_cases z : m = n
    · subst z
      rw [if_pos rfl] at hx
      rcases List.mem_append.mp hx with hx | hx
      · exact h.gn m hm x hx
      · rw [List.mem_singleton.mp hx]; exact ⟨i0, i1⟩
    · rw [if_neg z] at hx; exact h.gn m hm x hx
  · show (if m = n then S.gone m ++ [i] else S.gone m).Nodup
    by_cases z : m = n
    · subst z
      rw [if_pos rfl, List.nodup_append]
      exact ⟨h.gd m hm, by simp, fun a ha b hb e => nin (by rw [List.mem_singleton] at hb; rw [← hb, ← e]; exact ha)⟩
    · rw [if_neg z]; exact h.gd m hm
theorem TOk.mono {S : TS} {B B' : Int} (h : TOk S B) (k : B ≤ B') : TOk S B' := ⟨h.us, h.c16, h.wl, h.wr, fun n hn u hu w hw => by
  obtain ⟨a, b, c⟩ := h.wb n hn u hu w hw
  exact ⟨a, by omega, fun x e => by have := c x e; omega⟩, h.gn, h.gd⟩
theorem TOk.pub {S : TS} {B : Int} {n : Str} {w : Str → WT} (h : TOk S B) (hn : n ∈ S.ns) (c15 : S.cnt n < 16) (hw : ∀ u ∈ S.us n, bdW B (w u) ∧ ∀ l, (S.win n u).getLast? = some l → risesW l (w u) = true) : TOk (S.pub n w) B := by
  refine ⟨h.us, fun m hm => ?_, fun m hm u hu => ?_, fun m hm u hu => ?_, fun m hm u hu x hx => ?_, fun m hm x hx => ?_, h.gd⟩
  · show (if m = n then S.cnt n + 1 else S.cnt m) ≤ 16
    split
    · omega
    · exact h.c16 m hm
  · show (if m = n then S.win m u ++ [w u] else S.win m u).length = (if m = n then S.cnt n + 1 else S.cnt m)
    by_cases z : m = n
    · subst z; rw [if_pos rfl, if_pos rfl, List.length_append, h.wl m hm u hu]; rfl
    · rw [if_neg z, if_neg z]; exact h.wl m hm u hu
  · show riseL (if m = n then S.win m u ++ [w u] else S.win m u)
    by_cases z : m = n
    · subst z; rw [if_pos rfl]; exact riseL_app (h.wr m hm u hu) (hw u hu).2
    · rw [if_neg z]; exact h.wr m hm u hu
  · have hx : x ∈ (if m = n then S.win m u ++ [w u] else S.win m u) := hx
    by_cases z : m = n
    · subst z
      rw [if_pos rfl] at hx
      rcases List.mem_append.mp hx with hx | hx
      · exact h.wb m hm u hu x hx
      · rw [List.mem_singleton.mp hx]; exact (hw u hu).1
    · rw [if_neg z] at hx; exact h.wb m hm u hu x hx
  · have z := h.gn m hm x hx
    refine ⟨z.1, ?_⟩
    show x < ((if m = n then S.cnt n + 1 else S.cnt m : Nat) : Int)
    have := z.2
    by_cases e : m = n
    · subst e; rw [if_pos rfl]; omega
    · rw [if_neg e]; exact this
theorem WorldAt.addCol {K : PySem.W.Frag} {H H' : Hp} {L : WL} {S : CS} (h : WorldAt K H L S) {m u : Str} {vs : List V} {v : V} {d : PyData} (hm : m ∈ S.ns) (hu : u ∈ S.us m) (f : Off (L.tc m u) H H') (g : H (L.tc m u) = some (.lst vs)) (e : H' (L.tc m u) = some (.lst (vs ++ [v]))) (hd : DaF false K (tp H) v d) : WorldAt K H' L (S.addCol m u d) := by
  obtain ⟨vs', g', ds⟩ := h.col hm hu
  rw [g] at g'; cases g'
  have st : Same (tp H) (tp H') := Off.tp f g rfl
  refine Lay.At.set (Y' := WorldY K L (S.addCol m u d)) h (x0 := .col m u) ⟨hm, hu⟩ f e (fun x k => by cases x <;> exact k) (fun x => rfl) (fun T x o kx n h => ?_) ?_
  · cases x with
    | col a b =>
      obtain ⟨ws, e1, e2⟩ := h
      refine ⟨ws, e1, ?_⟩
      show DaAllF false K T ws (if a = m ∧ b = u then S.col a b ++ [d] else S.col a b)
      rw [if_neg (fun z => n (by rw [z.1, z.2]))]
      exact e2
    | _ => exact h
  · refine ⟨_, rfl, ?_⟩
    show DaAllF false K (tp H') (vs ++ [v]) (if m = m ∧ u = u then S.col m u ++ [d] else S.col m u)
    rw [if_pos ⟨rfl, rfl⟩]
    exact (DaAllF.same st ds).app (.cons (DaF.same st hd) .nil)
theorem avail_mem {S : CS} {n : Str} {k : Nat} (h : k ∈ S.avail n) : k < S.cnt n ∧ ¬ (k : Int) ∈ S.gone n := by
  unfold CS.avail at h
  rw [List.mem_filter, List.mem_range] at h
  exact ⟨h.1, by simpa using h.2⟩
theorem availB_mem {S : CS} {n : Str} {k : Nat} (h : k ∈ S.avail n) : availB S n (.int k) = true := by
  obtain ⟨a, b⟩ := avail_mem h
  simp [availB, b]; omega
open PySem PySem.Spec PyProof.Rows L2




section
variable {P : Program} {w : World} {K : PySem.W.Frag} {mg : Str → Option Value} {base : Heap} {A : Ad}
/-! ### clone: a table whose values are copies -/
structure TabE {α : Type} (mk : List α → (α → Addr) → HO) (el : α → HO) (H1 : Hp) (D : Addr) (xs : List α) (f : α → Addr) (H : Hp) : Prop where
  tab : H D = some (mk xs f)
  els : ∀ x ∈ xs, H1 (f x) = none ∧ f x ≠ D ∧ H (f x) = some (el x)
  inj : ∀ x ∈ xs, ∀ y ∈ xs, f x = f y → x = y
theorem TabE.same {α : Type} {mk : List α → (α → Addr) → HO} {el : α → HO} {H1 : Hp} {D : Addr} {xs : List α} {f : α → Addr} {H H2 : Hp} (q : TabE mk el H1 D xs f H) (s : Same H H2) : TabE mk el H1 D xs f H2 :=
  ⟨s _ _ q.tab, fun x hx => ⟨(q.els x hx).1, (q.els x hx).2.1, s _ _ (q.els x hx).2.2⟩, q.inj⟩
theorem TabE.add {α : Type} [DecidableEq α] {mk : List α → (α → Addr) → HO} {el : α → HO} {H1 : Hp} {D a : Addr} {x : α} {xs : List α} {f : α → Addr} {H H2 H3 : Hp} (q : TabE mk el H1 D xs f H) (nx : ¬ x ∈ xs) (s1 : Same H1 H ∨ H1 a = none) (s : Same H H2) (na : H a = none) (ea : H2 a = some (el x)) (o : Off D H2 H3)
    (e : H3 D = some (mk (xs ++ [x]) fun y => if y = x then a else f y)) : TabE mk el H1 D (xs ++ [x]) (fun y => if y = x then a else f y) H3 := by
  have nD : a ≠ D := fun z => by rw [z, q.tab] at na; cases na
  have n1 : H1 a = none := s1.elim (fun s1 => none_of s1 na) id
  have old : ∀ y ∈ xs, f y ≠ a := fun y hy z => by rw [← z, (q.els y hy).2.2] at na; cases na
  have ne : ∀ y ∈ xs, y ≠ x := fun y hy z => nx (z ▸ hy)
  refine ⟨e, fun y hy => ?_, fun y hy z hz h => ?_⟩
  · rcases List.mem_append.mp hy with hy | hy
    · rw [if_neg (ne y hy)]
      exact ⟨(q.els y hy).1, (q.els y hy).2.1, o.get (q.els y hy).2.1 (s _ _ (q.els y hy).2.2)⟩
    · rw [List.mem_singleton] at hy
      subst hy
      rw [if_pos rfl]
      exact ⟨n1, nD, o.get nD ea⟩
  · rcases List.mem_append.mp hy with hy | hy <;> rcases List.mem_append.mp hz with hz | hz
    · rw [if_neg (ne y hy), if_neg (ne z hz)] at h; exact q.inj y hy z hz h
    · rw [List.mem_singleton] at hz; rw [hz, if_neg (ne y hy), if_pos rfl] at h; exact absurd h (old y hy)
    · rw [List.mem_singleton] at hy; rw [hy, if_pos rfl, if_neg (ne z hz)] at h; exact absurd h.symm (old z hz)
    · rw [List.mem_singleton] at hy hz; rw [hy, hz]
theorem TabE.back {α : Type} {mk : List α → (α → Addr) → HO} {el : α → HO} {H0 H1 : Hp} {d D : Addr} {u : HO} {od : Obj} {xs : List α} {f : α → Addr} {H H2 : Hp} (q : TabE mk el H1 D xs f H) (o : Off d H0 H1) (e1 : H1 d = some (.frz od u)) (nD : H1 D = none) (o2 : Off d H H2) : TabE mk el H0 D xs f H2 :=
  ⟨o2.get (fun y => by rw [y, e1] at nD; cases nD) q.tab, fun x hx => ⟨none_off o e1 (q.els x hx).1, (q.els x hx).2.1, o2.get (fun y => by have := (q.els x hx).1; rw [y, e1] at this; cases this) (q.els x hx).2.2⟩, q.inj⟩
def colE (H : Hp) (L : CL) (q : Str × Str) : HO := (H (L.tc q.1 q.2)).getD (.lst [])
def gonE (H : Hp) (L : CL) (n : Str) : HO := (H (L.tw n)).getD (.dK [])
theorem tabP_at {ps : List (Str × Str)} {f : Str → Str → V} {i : Nat} (h : i < ps.length) : (tabP ps f)[i]? = some (kk (ps.getD i default), f (ps.getD i default).1 (ps.getD i default).2) := by unfold tabP; rw [List.getElem?_map, getD_at (d := default) h]; rfl
def stgD : CRo → Nat
  | .ob => 0
  | .use => 0
  | .win => 1
  | .col _ _ => 1
  | .cnt => 2
  | .wdr => 3
  | .gon _ => 3
  | .log => 4
def sp_clone (K : PySem.W.Frag) (C : Addr) : Sp := fun vs H Q _ => ∃ L S, ∃ B : Int, vs = [.ref (CL.p L)] ∧ CatAt K C H L (TS.cs S) ∧ TOk S B ∧ S.log.length ≤ 1000 ∧
  ∀ (L' : CL) H', Same H H' → L'.tu = L.tu → CatAt K C H' L' S.cs → (∀ x, S.cs.ok x → H (L'.at x) = none) → Q (.ref L'.p) H'
theorem ok_Catalog_clone (T : Txt K mg A) (G_Catalogx_initx : FnOk P w K mg base (L2.CX P w) 4 A.f_Catalogx_initx A.d_Catalogx_initx ["self", "uses"] (sp_cinit K A.c_Catalog A.c_TooMany)) : FnOk P w K mg base CX0 6 A.f_Catalog_clone A.d_Catalog_clone ["self"] (sp_clone K A.c_Catalog) := by
  refine T.F_Catalog_clone.ok sc_Catalog_clone (fun vs H Q E h => ?_) (fun cdv Ar outer s H vs Q E hr h => ?_)
  · obtain ⟨_, _, _, rfl, _⟩ := h; rfl
  · obtain ⟨L, S, B, rfl, hC, ok, lg, q⟩ := h
    refine ⟨_, (pss_cons (ps_set (i := 1) sc_Catalog_clone.nd rfl (.inl rfl) (pe_makeC T.mk_Catalog G_Catalogx_initx (hr.mono (by decide)) (by rfl) T.gX_Catalog T.b_Catalogx_initx passL (pa_cons (pe_fldC T.cl_Catalog T.na_Catalog_use_table (pv 0)) pa_nil)))
(pss_cons (ps_fldC T.cl_Catalog T.na_Catalog_window_table (pv 1) (pe_lock (pe_dcG (own := [("key", 2), ("column", 3)]) (g := (gTup K 2 (gCons (gName 2) (gCons (gName 3) gNil)))) true (Nat.lt_of_succ_lt (hu_of hr)) rfl sc_Catalog_clone.nd (pi_itemsT (pe_fldC T.cl_Catalog T.na_Catalog_window_table (pv 0))) (blkOk_by (own := [("key", 2), ("column", 3)]) (N := ["self", "found", "key", "column", "module", "known"]) (sc := defScope s_Catalog_clone) (by decide +kernel)) (fun _ _ _ _ _ => (pg_tup rfl (pgs_cons (pg_name (i := 2) sc_Catalog_clone.nd rfl (.inl rfl)) (pgs_cons (pg_name (i := 3) sc_Catalog_clone.nd rfl (.inl rfl)) pgs_nil)))) (fun _ _ _ _ _ => pts_nil) (fun _ _ _ _ _ => (pv 2)) (fun _ _ _ _ _ => (pe_callTy (call_listNK (K := K) (by rfl)) (by rfl) T.m_list (by decide +kernel) (pa_cons (pv 3) pa_nil))))))
(pss_cons (ps_fldC T.cl_Catalog T.na_Catalog_count_table (pv 1) (pe_callTy call_dictDN (by rfl) T.m_dict (by decide +kernel) (pa_cons (pe_fldC T.cl_Catalog T.na_Catalog_count_table (pv 0)) pa_nil)))
(pss_cons (ps_fldC T.cl_Catalog T.na_Catalog_withdrawn_table (pv 1) (pe_lock (pe_dcG (own := [("module", 4), ("known", 5)]) (g := (gTup K 2 (gCons (gName 4) (gCons (gName 5) gNil)))) false (Nat.lt_of_succ_lt (hu_of hr)) rfl sc_Catalog_clone.nd (pi_items (pe_fldC T.cl_Catalog T.na_Catalog_withdrawn_table (pv 0))) (blkOk_by (own := [("module", 4), ("known", 5)]) (N := ["self", "found", "key", "column", "module", "known"]) (sc := defScope s_Catalog_clone) (by decide +kernel)) (fun _ _ _ _ _ => (pg_tup rfl (pgs_cons (pg_name (i := 4) sc_Catalog_clone.nd rfl (.inl rfl)) (pgs_cons (pg_name (i := 5) sc_Catalog_clone.nd rfl (.inl rfl)) pgs_nil)))) (fun _ _ _ _ _ => pts_nil) (fun _ _ _ _ _ => (pv 4)) (fun _ _ _ _ _ => (pe_callTy call_dictDN (by rfl) T.m_dict (by decide +kernel) (pa_cons (pv 5) pa_nil))))))
(pss_cons (ps_fldC T.cl_Catalog T.na_Catalog_record (pv 1) (pe_callTy call_listN (by rfl) T.m_list (by decide +kernel) (pa_cons (pe_fldC T.cl_Catalog T.na_Catalog_record (pv 0)) pa_nil)))
(pss_one (ps_ret (pv 1)))))))), ?_⟩
    have n12 := ok.us.n12
    have ob := CatAt.ob hC
    repeat (walk_at "st")
    refine i_make fun p dx Gm np ndx nep sm em => ?_
    refine ⟨p, L.a1, dx, L.tu, S.ns, S.us, rfl, em, ⟨sm _ _ (CatAt.use hC), fun n hn => sm _ _ (CatAt.tup hC hn)⟩, ok.us.toW, fun _ _ L0 Gi eL eT oi hx hC0 => ⟨rfl, ?_⟩, fun z => absurd ok.us.n12 (Nat.not_le.mpr z), fun _ z => absurd ok.us.u40 (Nat.not_le.mpr z)⟩
    subst eL
    have s0 : Same H Gi := Off.new np sm oi
    have ob0 := CatAt.ob hC0
    have obi := s0 _ _ ob
    have win1 := s0 _ _ (CatAt.win hC)
    have pn : S.cs.pairs.length ≤ 40 := ok.p40
    have pnd : S.cs.pairs.Nodup := pairs_nodup ok.us.nd ok.us.und
    have sz : ∀ {n : Nat}, n ≤ 1000 → n < sizeLine := fun h => by rw [sizeLine_eq]; omega
    repeat (walk_at "st")
    refine i_lockE win1 trivial fun od H1 o1 e1 => ?_
    have obl := o1.get (fun z => by rw [z, win1] at obi; cases obi) obi
    repeat (walk_at "st")
    refine i_iItemsT ?_
    repeat (walk_at "st")
    refine ⟨L.a2, od, _, rfl, e1, ?_⟩
    refine c_wq wq_itemsT fun D H0 n0 sD eD => ⟨fun i G => ∃ tc, Same H1 G ∧ TabE mkP (colE H L) H1 D (S.cs.pairs.take i) tc G, ⟨fun _ => 0, sD, eD, (fun x hx => nomatch hx), (fun x hx => nomatch hx)⟩, fun i G h => h.choose_spec.1 _ _ e1, fun i x Ha Hb hi h sa hr => ?_, fun Hb h => ?_⟩
    · obtain ⟨tc, s4, t4⟩ := h
      obtain ⟨T8, k, v, bq, rfl, eT8, hk, hbq⟩ := hr
      have hi : i < S.cs.pairs.length := by rw [show (tabP S.cs.pairs _).length = S.cs.pairs.length from List.length_map _] at hi; exact hi
      rw [tabP_at hi] at hk
      cases hk
      have nin := take_new (d := default) pnd hi
      have et := take_add (d := default) hi
      have hm := getD_mem (d := default) hi
      generalize S.cs.pairs.getD i default = qq at *
      obtain ⟨m, u⟩ := qq
      obtain ⟨hm1, hu1⟩ := CS.mem_pairs.mp hm
      obtain ⟨vs, ev, dv⟩ := CatAt.col hC hm1 hu1
      have evb : Hb (L.tc m u) = some (.lst vs) := sa _ _ (s4 _ _ (o1.get (fun z => by have := s0 _ _ ev; rw [z, win1] at this; cases this) (s0 _ _ ev)))
      have ecol : colE H L (m, u) = .lst vs := by unfold colE; rw [show H (L.tc (m, u).1 (m, u).2) = some (.lst vs) from ev]; rfl
      have t4 := t4.same sa
      refine cc_yes ?_
      repeat (walk_at "st")
      refine i_new fun p7 G7 n7 s7 e7 => ?_
      have t7 := t4.same s7
      refine i_dpT (k := kk (m, u)) t7.tab (s7 _ _ hbq) (by simp only [tabP, List.length_map]; rw [List.length_take]; exact sz (by omega)) ?_
      refine i_put fun G8 o8 e8 => ?_
      rw [mkP_add nin] at e8
      have t8 := t4.add nin (.inl (s4.trans sa)) s7 n7 (by rw [ecol]; exact e7) o8 e8
      rw [← et] at t8
      exact ⟨_, Off.new n0 ((s4.trans sa).trans s7) o8, t8⟩
    · obtain ⟨tc, s4, t4⟩ := h
      rw [show (tabP S.cs.pairs _).length = S.cs.pairs.length from List.length_map _, List.take_length] at t4
      refine i_back o1 win1 s4 e1 fun G4 s4' o4 => ?_
      have q2 := t4.back o1 e1 n0 o4
      have n2 : Gi D = none := none_off o1 e1 n0
      have ap2 : D ≠ L0.p := fun z => by rw [z, ob0] at n2; cases n2
      have hp4 : G4 L0.p = some (.ins A.c_Catalog L0.dx [(("use_table" : Str), V.ref L0.a1), ("window_table", .ref L0.a2), ("count_table", .ref L0.a3), ("withdrawn_table", .ref L0.a4), ("record", .ref L0.a5)]) := s4' _ _ ob0
      have ob4 := s4' _ _ obi
      have s04 := s0.trans s4'
      have nLp : ∀ {b : Addr} {o : HO}, H b = some o → b ≠ L0.p := fun e z => by rw [z, np] at e; cases e
      repeat (walk_at "st")
      refine i_put fun G5 o5 e5 => ?_
      rw [show putF "window_table" (V.ref D) [(("use_table" : Str), V.ref L0.a1), ("window_table", .ref L0.a2), ("count_table", .ref L0.a3), ("withdrawn_table", .ref L0.a4), ("record", .ref L0.a5)] = [(("use_table" : Str), V.ref L0.a1), ("window_table", .ref D), ("count_table", .ref L0.a3), ("withdrawn_table", .ref L0.a4), ("record", .ref L0.a5)] from rfl] at e5
      have s05 : Same H G5 := Off.new np s04 o5
      have ob5 := s05 _ _ ob
      have cnt5 := s05 _ _ (CatAt.cnt hC)
      repeat (walk_at "st")
      refine i_new fun p6 G6 n6 s6 e6 => ?_
      have s06 := s05.trans s6
      have a3p : p6 ≠ L0.p := fun z => by rw [z, e5] at n6; cases n6
      have hp6 := s6 _ _ e5
      repeat (walk_at "st")
      refine i_put fun G7 o7 e7 => ?_
      rw [show putF "count_table" (V.ref p6) [(("use_table" : Str), V.ref L0.a1), ("window_table", .ref D), ("count_table", .ref L0.a3), ("withdrawn_table", .ref L0.a4), ("record", .ref L0.a5)] = [(("use_table" : Str), V.ref L0.a1), ("window_table", .ref D), ("count_table", .ref p6), ("withdrawn_table", .ref L0.a4), ("record", .ref L0.a5)] from rfl] at e7
      have s07 : Same H G7 := Off.new np s06 o7
      have ob7 := s07 _ _ ob
      have wdr7 := s07 _ _ (CatAt.wdr hC)
      repeat (walk_at "st")
      refine i_lockE wdr7 trivial fun od9 H9 o9 e9 => ?_
      have ob9 := o9.get (fun z => by rw [z, wdr7] at ob7; cases ob7) ob7
      repeat (walk_at "st")
      refine c_wq wq_items fun D3 H0' n3' sD3 eD3 => ⟨fun i G => ∃ tw, Same H9 G ∧ TabE mkS (gonE H L) H9 D3 (S.ns.take i) tw G, ⟨fun _ => 0, sD3, eD3, (fun x hx => nomatch hx), (fun x hx => nomatch hx)⟩, fun i G h => h.choose_spec.1 _ _ e9, fun i x Ha Hb hi h sa hr => ?_, fun Hb h => ?_⟩
      · obtain ⟨tw, s10, t10⟩ := h
        obtain ⟨r8, x1, x2, rfl, eT8, k1, k2⟩ := hr
        dsimp only at k1 k2
        rw [tabS_len] at hi
        have hi : i < S.ns.length := hi
        rw [tabS_at (show i < S.cs.ns.length from hi)] at k1 k2
        have k1 : some (V.str (S.ns.getD i default)) = some x1 := k1
        have k2 : some (V.ref (L.tw (S.ns.getD i default))) = some x2 := k2
        cases k1; cases k2
        have nin := take_new (d := default) ok.us.nd hi
        have et := take_add (d := default) hi
        have hm : S.ns.getD i default ∈ S.ns := getD_mem hi
        generalize S.ns.getD i default = n at *
        have eg := CatAt.gon hC (show n ∈ S.cs.ns from hm)
        have egb := sa _ _ (s10 _ _ (o9.get (fun z => by have := hC.inj (.gon n) .wdr hm trivial z; cases this) (s07 _ _ eg)))
        have egon : gonE H L n = .dK (tabI (S.cs.gone n)) := by unfold gonE; rw [eg]; rfl
        refine cc_yes ?_
        repeat (walk_at "st")
        refine i_new fun p11 G11 n11 s11 e11 => ?_
        have t11 := (t10.same sa).same s11
        refine i_dpK (k := .inr n) t11.tab (by rw [tabS_len, List.length_take]; exact sz (by omega)) ?_
        refine i_put fun G12 o12 e12 => ?_
        rw [mkS_add nin] at e12
        have t12 := (t10.same sa).add nin (.inl (s10.trans sa)) s11 n11 (by rw [egon]; exact e11) o12 e12
        rw [← et] at t12
        exact ⟨_, Off.new n3' ((s10.trans sa).trans s11) o12, t12⟩
      · obtain ⟨tw, s10, t10⟩ := h
        rw [tabS_len, show S.cs.ns = S.ns from rfl, List.take_length] at t10
        refine i_back o9 wdr7 s10 e9 fun G10 s10' o10 => ?_
        have q3 := t10.back o9 e9 n3' o10
        have n10 : G7 D3 = none := none_off o9 e9 n3'
        have a4p : D3 ≠ L0.p := fun z => by rw [z, e7] at n10; cases n10
        have hp10 := s10' _ _ e7
        repeat (walk_at "st")
        refine i_put fun G11 o11 e11 => ?_
        rw [show putF "withdrawn_table" (V.ref D3) [(("use_table" : Str), V.ref L0.a1), ("window_table", .ref D), ("count_table", .ref p6), ("withdrawn_table", .ref L0.a4), ("record", .ref L0.a5)] = [(("use_table" : Str), V.ref L0.a1), ("window_table", .ref D), ("count_table", .ref p6), ("withdrawn_table", .ref D3), ("record", .ref L0.a5)] from rfl] at e11
        have s0A : Same H G10 := s07.trans s10'
        have s0B : Same H G11 := Off.new np s0A o11
        have obB := s0B _ _ ob
        obtain ⟨ls, el, dl⟩ := CatAt.log hC
        have elB := s0B _ _ el
        repeat (walk_at "st")
        refine i_new fun p12 G12 n12 s12 e12 => ?_
        have s0C := s0B.trans s12
        have a5p : p12 ≠ L0.p := fun z => by rw [z, e11] at n12; cases n12
        have hp12 := s12 _ _ e11
        repeat (walk_at "st")
        refine i_put fun G13 o13 e13 => ?_
        rw [show putF "record" (V.ref p12) [(("use_table" : Str), V.ref L0.a1), ("window_table", .ref D), ("count_table", .ref p6), ("withdrawn_table", .ref D3), ("record", .ref L0.a5)] = [(("use_table" : Str), V.ref L0.a1), ("window_table", .ref D), ("count_table", .ref p6), ("withdrawn_table", .ref D3), ("record", .ref p12)] from rfl] at e13
        have s13 : Same H G13 := Off.new np s0C o13
        have f11 : Off L0.p G11 G13 := (Off.of_same s12).trans o13
        have f10 : Off L0.p G10 G13 := o11.trans f11
        have f7 : Off L0.p G7 G13 := (Off.of_same s10').trans f10
        have f6 : Off L0.p G6 G13 := o7.trans f7
        have f5 : Off L0.p G5 G13 := (Off.of_same s6).trans f6
        have f4 : Off L0.p G4 G13 := o5.trans f5
        have fi : Off L0.p Gi G13 := (Off.of_same s4').trans f4
        have tcp : ∀ q ∈ S.cs.pairs, tc q ≠ L0.p := fun q hq z => by have := (q2.els q hq).1; rw [z, ob0] at this; cases this
        have twp : ∀ n ∈ S.ns, tw n ≠ L0.p := fun n hn z => by have := (q3.els n hn).1; rw [z, e7] at this; cases this
        have hs : ∀ {a : Addr} {h : Hp} {o : HO}, h a = some o → h a ≠ none := fun e n => by rw [e] at n; cases n
        have use0 := CatAt.use hC0
        have a1p : L0.a1 ≠ L0.p := fun z => by rw [z, ob0] at use0; cases use0
        have nG : ∀ {a : Addr} {h : Hp}, Same H h → h a = none → H a = none := fun s n => none_of s n
        have n1H : H L0.a1 = none := none_of sm (hx .use trivial (fun z => by cases z))
        repeat (walk_at "st")
        refine q ⟨L0.p, L0.dx, L0.a1, D, p6, D3, p12, L.tu, fun m u => tc (m, u), tw⟩ G13 s13 rfl ⟨fun x kx => ?_, ?_⟩ (fun x kx => ?_)
        · cases x with
          | ob => exact ⟨_, e13, rfl⟩
          | use => exact ⟨_, fi.get a1p use0, by rw [eT]; rfl, fun n hn => tp_get (s13 _ _ (CatAt.tup hC hn)) rfl⟩
          | win => exact ⟨_, f4.get ap2 q2.tab, rfl⟩
          | cnt => exact ⟨_, f6.get a3p e6, rfl⟩
          | wdr => exact ⟨_, f10.get a4p q3.tab, rfl⟩
          | log => exact ⟨_, o13.get a5p e12, ls, rfl, dl.same (KX.Same.tp s13)⟩
          | col m u =>
            have z := CS.mem_pairs.mpr kx
            obtain ⟨vs, ev, dv⟩ := CatAt.col hC kx.1 kx.2
            have ecol : colE H L (m, u) = .lst vs := by unfold colE; rw [show H (L.tc (m, u).1 (m, u).2) = some (.lst vs) from ev]; rfl
            exact ⟨_, f4.get (tcp _ z) (q2.els _ z).2.2, vs, ecol, dv.same (KX.Same.tp s13)⟩
          | gon n =>
            have eg := CatAt.gon hC (show n ∈ S.cs.ns from kx)
            have egon : gonE H L n = .dK (tabI (S.cs.gone n)) := by unfold gonE; rw [eg]; rfl
            exact ⟨_, f10.get (twp n kx) (q3.els n kx).2.2, egon⟩
        · refine inj_stage stgD (fun k => match k with
            | 0 => H
            | 1 => Gi
            | 2 => G5
            | 3 => G7
            | 4 => G11
            | _ => G13) (fun k a h => ?_) (fun x kx => ?_) (fun x kx nz => ?_) fun x y kx ky hst e => ?_
          · match k with
            | 0 => exact off_pres (.of_same s0) ob0 a h
            | 1 => exact off_pres ((Off.of_same s4').trans o5) e5 a h
            | 2 => exact off_pres ((Off.of_same s6).trans o7) e7 a h
            | 3 => exact off_pres ((Off.of_same s10').trans o11) e11 a h
            | 4 => exact off_pres f11 e13 a h
            | _ + 5 => exact h
          · cases x with
            | ob => exact hs ob0
            | use => exact hs use0
            | win => exact hs (o5.get ap2 q2.tab)
            | cnt => exact hs (o7.get a3p e6)
            | wdr => exact hs (o11.get a4p q3.tab)
            | log => exact hs (o13.get a5p e12)
            | col m u => have z := CS.mem_pairs.mpr kx; exact hs (o5.get (tcp _ z) (q2.els _ z).2.2)
            | gon n => exact hs (o11.get (twp n kx) (q3.els n kx).2.2)
          · cases x with
            | ob => exact absurd rfl nz
            | use => exact absurd rfl nz
            | win => exact n2
            | cnt => exact n6
            | wdr => exact n10
            | log => exact n12
            | col m u => exact (q2.els _ (CS.mem_pairs.mpr kx)).1
            | gon n => exact (q3.els n kx).1
          · cases x <;> cases y <;> first | rfl | exact absurd hst (by decide) | skip
            all_goals first
              | (exfalso; exact a1p e)
              | (exfalso; exact a1p (Eq.symm e))
              | (exfalso; exact (q2.els _ (CS.mem_pairs.mpr ky)).2.1 (Eq.symm e))
              | (exfalso; exact (q2.els _ (CS.mem_pairs.mpr kx)).2.1 e)
              | (exfalso; exact (q3.els _ ky).2.1 (Eq.symm e))
              | (exfalso; exact (q3.els _ kx).2.1 e)
              | (have z := q2.inj _ (CS.mem_pairs.mpr kx) _ (CS.mem_pairs.mpr ky) e; cases z; rfl)
              | (have z := q3.inj _ kx _ ky e; cases z; rfl)
              | exact absurd hst (by simp [stgD])
        · cases x with
          | ob => exact np
          | use => exact n1H
          | win => exact none_of s0 n2
          | cnt => exact none_of s05 n6
          | wdr => exact none_of s07 n10
          | log => exact none_of s0B n12
          | col m u => exact none_of s0 (q2.els _ (CS.mem_pairs.mpr kx)).1
          | gon n => exact none_of s07 (q3.els n kx).1

end

open PySem PySem.Spec PyProof.Rows L2




section
variable {P : Program} {w : World} {K : PySem.W.Frag} {mg : Str → Option Value} {base : Heap} {A : Ad}
theorem name_strOk {n : Str} (h : nameB (.str n) = true) : PyData.strOk n = true := by
  have z := nameB_tl.mp h
  exact strOk_of (n := 8) ⟨by rw [← tl_len]; exact z.2.1, fun c hc => az_small c (z.2.2 c hc)⟩

/-! ### Catalog.__eq__ -/
def sp_eqG (K : PySem.W.Frag) (C : Addr) : Sp := fun vs H Q _ => ∃ L1 L2 S1 S2, ∃ B1 B2 : Int, ∃ e : Bool, vs = [.ref (CL.p L1), .ref (CL.p L2)] ∧ CatAt K C H L1 (TS.cs S1) ∧ CatAt K C H L2 (TS.cs S2) ∧ TOk S1 B1 ∧ TOk S2 B2 ∧ S1.ns = S2.ns ∧ S1.us = S2.us ∧ (e = true → S1 = S2) ∧ (e = false → ∃ n ∈ S2.ns, S1.cnt n ≠ S2.cnt n) ∧ ∀ H', Same H H' → Q (.bl e) H'
def useD (S : TS) : PyData := .list (S.ns.map fun n => .tuple [.str n, .tuple ((S.us n).map .str)])
theorem use_das {K : PySem.W.Frag} {h : Hp} {us : Str → List Str} {tu : Str → Addr} : ∀ {ns : List Str} {ps : List Addr}, (∀ n ∈ ns, h (tu n) = some (.tup ((us n).map V.str))) → Paired (fun (p : Addr) (q : Key × V) => h p = some (.tup [kV q.1, q.2])) ps (tabS ns fun n => .ref (tu n)) → DaAllF false K h (ps.map V.ref) (ns.map fun n => .tuple [.str n, .tuple ((us n).map .str)])
  | [], [], _, _ => .nil
  | n :: ns, p :: ps, ht, .cons e t => .cons (.tup (SqT.of e) (.cons (.str _) (.cons (.tup (SqT.of (ht n (by simp))) (da_strs _)) .nil))) (use_das (fun m hm => ht m (List.mem_cons_of_mem _ hm)) t)
theorem lay_strs : ∀ {l : List Str}, (∀ u ∈ l, PyData.strOk u = true) → PyData.canLayAll0 (l.map .str) = true
  | [], _ => rfl
  | u :: l, h => by
    have h1 := h u (by simp)
    have h2 := lay_strs (l := l) fun v hv => h v (List.mem_cons_of_mem _ hv)
    show PyData.canLayAll0 (.str u :: l.map .str) = true
    simp [PyData.canLayAll0, PyData.canLay0, h1, h2]
theorem dep_strs : ∀ {l : List Str}, PyData.depthAll (l.map .str) = 0
  | [] => rfl
  | u :: l => by
    have h2 := dep_strs (l := l)
    show PyData.depthAll (.str u :: l.map .str) = 0
    simp [PyData.depthAll, PyData.depth, h2]
theorem shaped_use {S : TS} {B : Int} (ok : TOk S B) : SeqAt.shaped (useD S) = true := shaped_list fun d hd => by
  obtain ⟨n, hn, rfl⟩ := List.mem_map.mp hd
  have h1 := name_strOk (ok.us.nm n hn)
  have h2 := lay_strs (l := S.us n) fun u hu => name_strOk (ok.us.nm u (ok.us.uin n hn u hu))
  refine ⟨?_, ?_⟩
  · show PyData.canLayAll0 [.str n, .tuple ((S.us n).map .str)] = true
    simp [PyData.canLayAll0, PyData.canLay0, h1, h2]
  · simp [PyData.depth, PyData.depthAll, dep_strs]
def rW (S1 S2 : TS) (p : List Key × V) : Bool := match p.1 with
  | [.inr m, .inr u] => PyData.eqv (.list ((S1.win m u).map winD)) (.list ((S2.win m u).map winD))
  | _ => true
def rC (S1 S2 : TS) (p : Key × V) : Bool := match p.1 with
  | .inr n => PyData.eqv (.int (S1.cnt n : Nat)) (.int (S2.cnt n : Nat))
  | _ => true
theorem eqv_int {i j : Int} (h : i ≠ j) : PyData.eqv (.int i) (.int j) = false := by simp [PyData.eqv, h]
theorem ok_Catalogx_eqx (T : Txt K mg A) : FnOk P w K mg base CX0 3 A.f_Catalogx_eqx A.d_Catalogx_eqx ["self", "other"] (sp_eqG K A.c_Catalog) := by
  refine T.F_Catalogx_eqx.ok sc_Catalogx_eqx (fun vs H Q E h => ?_) (fun cdv Ar outer s H vs Q E hr h => ?_)
  · obtain ⟨_, _, _, _, _, _, _, rfl, _⟩ := h; rfl
  · obtain ⟨L1, L2, S1, S2, B1, B2, e, rfl, hC1, hC2, ok1, ok2, eN, eU, heq, hne, q⟩ := h
    refine ⟨_, (pss_cons (ps_if (PW.pt (pw_or (pt_not (pt_val (pe_callB (C8.call_isC T.ic_Catalog) (by rfl) T.m_isinstance (by decide +kernel) (pa_cons (pv 1) (pa_cons (pe_glob (v := .ref A.c_Catalog) rfl T.gX_Catalog rfl) pa_nil))))) (pw_or1 (pt_cmpR (op_neD hr.units) (pe_listItems rfl (by rfl) T.m_list (pe_fldC T.cl_Catalog T.na_Catalog_use_table (pv 0))) (pe_listItems rfl (by rfl) T.m_list (pe_fldC T.cl_Catalog T.na_Catalog_use_table (pv 1))) (nomark _)))))
(pss_one (ps_ret pe_bl))
pss_nil)
(pss_cons (ps_if (PW.pt (pw_or (pt_cmpR (op_neT (neT_units hr)) (pe_fldC T.cl_Catalog T.na_Catalog_window_table (pv 0)) (pe_fldC T.cl_Catalog T.na_Catalog_window_table (pv 1)) (nomark _)) (pw_or1 (pt_cmpR (op_neK (neT_units hr)) (pe_fldC T.cl_Catalog T.na_Catalog_count_table (pv 0)) (pe_fldC T.cl_Catalog T.na_Catalog_count_table (pv 1)) (nomark _)))))
(pss_one (ps_ret pe_bl))
pss_nil)
(pss_one (ps_ret (pe_cmpR (op_eqV (eqV_units hr)) (pe_fldC T.cl_Catalog T.na_Catalog_withdrawn_table (pv 0)) (pe_fldC T.cl_Catalog T.na_Catalog_withdrawn_table (pv 1)) (nomark _)))))), ?_⟩
    have eud : useD S1 = useD S2 := by unfold useD; rw [eN, eU]
    have epr : S1.cs.pairs = S2.cs.pairs := by unfold CS.pairs; show (S1.ns.flatMap fun m => (S1.us m).map fun u => (m, u)) = _; rw [eN, eU]; rfl
    have ob1 := CatAt.ob hC1
    have ob2 := CatAt.ob hC2
    repeat (walk_at "st")
    refine ⟨L2.p, _, _, rfl, ob2, ?_⟩
    repeat (walk_at "st")
    refine i_ff (by rfl) ?_
    repeat (walk_at "st")
    refine i_li ?_
    repeat (walk_at "st")
    refine ⟨L1.a1, _, rfl, CatAt.use hC1, fun Z1 ps1 G1 n1 s1 e1 hp1 => ?_⟩
    have obb := s1 _ _ ob2
    repeat (walk_at "st")
    refine i_li ?_
    repeat (walk_at "st")
    refine ⟨L2.a1, _, rfl, s1 _ _ (CatAt.use hC2), fun Z2 ps2 G2 n2 s2 e2 hp2 => ?_⟩
    have s12 := s1.trans s2
    have d1 : DaF false K G2 (.ref Z1) (useD S1) := (Da.lst (SqL.of e1) (use_das (us := S1.us) (fun n hn => s1 _ _ (CatAt.tup hC1 hn)) hp1)).same s2
    have d2 : DaF false K G2 (.ref Z2) (useD S2) := Da.lst (SqL.of e2) (use_das (us := S2.us) (fun n hn => s12 _ _ (CatAt.tup hC2 hn)) hp2)
    rw [eud] at d1
    have hD1 : CatAt K A.c_Catalog G2 L1 S1.cs := Lay.At.same hC1 s12
    have hD2 : CatAt K A.c_Catalog G2 L2 S2.cs := Lay.At.same hC2 s12
    have oc1 := CatAt.ob hD1
    have oc2 := CatAt.ob hD2
    repeat (walk_at "st")
    refine i_neDsame d1 d2 (nd_all fun d hd => by obtain ⟨n, _, rfl⟩ := List.mem_map.mp hd; simp [PyData.hasDict, PyData.hasDictAll]; exact nd_all fun d hd => by obtain ⟨u, _, rfl⟩ := List.mem_map.mp hd; rfl) (shaped_use ok2) ?_
    repeat (walk_at "st")
    have ew1 := CatAt.win hD1
    have ew2 := CatAt.win hD2
    refine ⟨L1.a2, L2.a2, _, _, rW S1 S2, rfl, rfl, ew1, ew2, fun p hp => ?_, ?_⟩
    · obtain ⟨⟨m, u⟩, hq, rfl⟩ := List.mem_map.mp hp
      have hq2 : (m, u) ∈ S2.cs.pairs := by rw [← epr]; exact hq
      obtain ⟨hm, hu⟩ := CS.mem_pairs.mp hq
      obtain ⟨hm2, hu2⟩ := CS.mem_pairs.mp hq2
      obtain ⟨vs1, ev1, dv1⟩ := CatAt.col hD1 hm hu
      obtain ⟨vs2, ev2, dv2⟩ := CatAt.col hD2 hm2 hu2
      have c1 : DaF false K G2 (.ref (L1.tc m u)) (.list ((S1.win m u).map winD)) := Da.lst (SqL.of ev1) (dv1.same tp_same)
      have c2 : DaF false K G2 (.ref (L2.tc m u)) (.list ((S2.win m u).map winD)) := Da.lst (SqL.of ev2) (dv2.same tp_same)
      exact ⟨.ref (L2.tc m u), _, _, by show valV (tabP _ _) [.inr m, .inr u] = _; rw [tabP_get, if_pos hq2], c1.dp (nd_wins _), c2.dp (nd_wins _), shaped_wins _, shaped_wins _, rfl⟩
    have l2 : (tabP S1.cs.pairs fun m u => V.ref (L1.tc m u)).length = (tabP S2.cs.pairs fun m u => V.ref (L2.tc m u)).length := by unfold tabP; rw [List.length_map, List.length_map, epr]
    rw [beq_iff_eq.mpr l2, Bool.true_and]
    have alle : S1 = S2 → (tabP S1.cs.pairs fun m u => V.ref (L1.tc m u)).all (rW S1 S2) = true := fun z => by
      subst z
      rw [List.all_eq_true]
      intro p hp
      obtain ⟨⟨m, u⟩, hq, rfl⟩ := List.mem_map.mp hp
      exact SeqAt.eqv_refl _ (shaped_lay (shaped_wins _))
    cases hw : (tabP S1.cs.pairs fun m u => V.ref (L1.tc m u)).all (rW S1 S2) with
    | false =>
      cases e with
      | true => rw [alle (heq rfl)] at hw; cases hw
      | false =>
        repeat (walk_at "st")
        exact q _ s12
    | true =>
      rw [Bool.not_true]
      repeat (walk_at "st")
      have ec1 := CatAt.cnt hD1
      have ec2 := CatAt.cnt hD2
      refine ⟨L1.a3, L2.a3, _, _, rC S1 S2, rfl, rfl, ec1, ec2, fun p hp => ?_, ?_⟩
      · obtain ⟨n, hn, rfl⟩ := List.mem_map.mp hp
        have hn2 : n ∈ S2.cs.ns := by show n ∈ S2.ns; rw [← eN]; exact hn
        exact ⟨_, .int (S1.cnt n : Nat), .int (S2.cnt n : Nat), by show valV (tabS _ _) (.inr n) = _; rw [tabS_get, if_pos hn2]; rfl, (DaF.int (b := false) (K := K) (H := G2) _).dp rfl, (DaF.int (b := false) (K := K) (H := G2) _).dp rfl, rfl, rfl, rfl⟩
      have l3 : (tabS S1.cs.ns fun n => V.int (S1.cs.cnt n : Nat)).length = (tabS S2.cs.ns fun n => V.int (S2.cs.cnt n : Nat)).length := by rw [tabS_len, tabS_len]; show S1.ns.length = S2.ns.length; rw [eN]
      rw [beq_iff_eq.mpr l3, Bool.true_and]
      cases e with
      | false =>
        obtain ⟨n, hn, hc⟩ := hne rfl
        have af : (tabS S1.cs.ns fun n => V.int (S1.cs.cnt n : Nat)).all (rC S1 S2) = false := by
          rw [List.all_eq_false]
          refine ⟨(.inr n, V.int (S1.cs.cnt n : Nat)), List.mem_map.mpr ⟨n, by show n ∈ S1.ns; rw [eN]; exact hn, rfl⟩, ?_⟩
          show ¬ PyData.eqv (.int (S1.cnt n : Nat)) (.int (S2.cnt n : Nat)) = true
          rw [eqv_int (by omega)]; exact fun z => by cases z
        rw [af, Bool.not_false]
        repeat (walk_at "st")
        exact q _ s12
      | true =>
        have es := heq rfl
        subst es
        have at_ : (tabS S1.cs.ns fun n => V.int (S1.cs.cnt n : Nat)).all (rC S1 S1) = true := by
          rw [List.all_eq_true]
          intro p hp
          obtain ⟨n, hn, rfl⟩ := List.mem_map.mp hp
          exact SeqAt.eqv_refl _ rfl
        rw [at_, Bool.not_true]
        repeat (walk_at "st")
        have ed1 := CatAt.wdr hD1
        have ed2 := CatAt.wdr hD2
        refine ⟨2, by decide, .inr ⟨L1.a4, L2.a4, _, _, rfl, rfl, ed1, ed2, by rw [tabS_len, tabS_len], fun p hp => ?_⟩, ?_⟩
        · obtain ⟨n, hn, rfl⟩ := List.mem_map.mp hp
          have eg1 := CatAt.gon hD1 hn
          have eg2 := CatAt.gon hD2 hn
          refine ⟨.ref (L2.tw n), by show valV (tabS _ _) (.inr n) = _; rw [tabS_get, if_pos hn], .inr (.inr (.inr ⟨L1.tw n, L2.tw n, _, _, rfl, rfl, eg1, eg2, rfl, fun p hp => ?_⟩))⟩
          obtain ⟨k, hk, rfl⟩ := List.mem_map.mp hp
          exact ⟨.bl true, by show valV (tabI _) (.inl k) = _; rw [tabI_get, if_pos hk], .inl ⟨rfl, rfl⟩⟩
        · exact q _ s12

end

open PySem PySem.Spec PyProof.Rows L2




section
variable {P : Program} {w : World} {K : PySem.W.Frag} {mg : Str → Option Value} {base : Heap} {A : Ad}
/-! ### _law_uses of k28 -/
def posN : List Str → Str → Nat
  | [], _ => 0
  | m :: r, n => if m = n then 0 else posN r n + 1
theorem posN_at : ∀ {ns : List Str} {i : Nat}, ns.Nodup → i < ns.length → posN ns (ns.getD i default) = i
  | [], _, _, h => by simp at h
  | m :: r, 0, _, _ => if_pos rfl
  | m :: r, i + 1, nd, h => by
    rw [List.nodup_cons] at nd
    have h' : i < r.length := by simpa using h
    show (if m = r.getD i default then 0 else posN r (r.getD i default) + 1) = i + 1
    rw [if_neg (fun z => nd.1 (by rw [z]; exact getD_mem h')), posN_at nd.2 h']
/-- how many uses the module at k has, with m asked for -/
def szU (m k : Nat) : Nat := if k + 36 < m then 4 else 3
def usU (ns : List Str) (m : Nat) (n : Str) : List Str := (List.range (szU m (posN ns n))).map fun p => ns.getD ((posN ns n + 1 + p) % 12) default
theorem usU_at {ns : List Str} {m i : Nat} (nd : ns.Nodup) (h : i < ns.length) : usU ns m (ns.getD i default) = (List.range (szU m i)).map fun p => ns.getD ((i + 1 + p) % 12) default := by unfold usU; rw [posN_at nd h]
theorem szU_le (m k : Nat) : 3 ≤ szU m k ∧ szU m k ≤ 4 := by unfold szU; split <;> omega
theorem getD_inj {ns : List Str} (nd : ns.Nodup) {i j : Nat} (hi : i < ns.length) (hj : j < ns.length) (e : ns.getD i default = ns.getD j default) : i = j := by
  have a := posN_at nd hi
  rw [e, posN_at nd hj] at a
  exact a.symm
theorem mem_at {ns : List Str} {n : Str} (h : n ∈ ns) : ∃ i, i < ns.length ∧ n = ns.getD i default := by
  obtain ⟨i, hi, e⟩ := List.getElem_of_mem h
  exact ⟨i, hi, by rw [← e, List.getD_eq_getElem?_getD, List.getElem?_eq_getElem hi]; rfl⟩
theorem usW_U {ns : List Str} {m : Nat} (l : ns.length = 12) (nd : ns.Nodup) (nm : ∀ n ∈ ns, nameB (.str n) = true) : UsW ns (usU ns m) := by
  refine ⟨by omega, by omega, nm, nd, fun n hn => ?_, fun n hn u hu => ?_, fun n hn h => ?_, fun n hn => ?_⟩
  · obtain ⟨i, hi, rfl⟩ := mem_at hn
    rw [usU_at nd hi]
    have sz := szU_le m i
    refine List.pairwise_map.mpr (List.Pairwise.imp_of_mem (fun {a b} ha hb ne e => ne ?_) List.nodup_range)
    rw [List.mem_range] at ha hb
    have := getD_inj nd (i := (i + 1 + a) % 12) (j := (i + 1 + b) % 12) (by omega) (by omega) e
    omega
  · obtain ⟨p, hp, rfl⟩ := List.mem_map.mp hu
    exact getD_mem (by omega)
  · obtain ⟨i, hi, rfl⟩ := mem_at hn
    rw [usU_at nd hi] at h
    obtain ⟨p, hp, e⟩ := List.mem_map.mp h
    rw [List.mem_range] at hp
    have sz := szU_le m i
    have := getD_inj nd (i := (i + 1 + p) % 12) (j := i) (by omega) (by omega) e
    omega
  · unfold usU
    rw [List.length_map, List.length_range]
    have := szU_le m (posN ns n)
    omega
theorem usU_sum {ns : List Str} {m : Nat} (l : ns.length = 12) (nd : ns.Nodup) : (ns.map fun n => (usU ns m n).length).sum = ((List.range 12).map (szU m)).sum := by
  have z := congrArg (List.map fun n => (usU ns m n).length) (range_pick (d := default) ns)
  rw [← z, List.map_map, l]
  congr 1
  refine List.map_congr_left fun i hi => ?_
  rw [List.mem_range] at hi
  show (usU ns m (ns.getD i default)).length = _
  rw [usU_at nd (by omega), List.length_map, List.length_range]
theorem usU_40 {ns : List Str} (l : ns.length = 12) (nd : ns.Nodup) : (ns.map fun n => (usU ns 40 n).length).sum = 40 := (usU_sum l nd).trans (by decide)
theorem usU_41 {ns : List Str} (l : ns.length = 12) (nd : ns.Nodup) : (ns.map fun n => (usU ns 41 n).length).sum = 41 := (usU_sum l nd).trans (by decide)
def sp_uses28 (K : PySem.W.Frag) : Sp := fun vs H Q _ => ∃ a m, ∃ ns : List Str, vs = [.ref a, .int (m : Nat)] ∧ H a = some (.lst (strsV ns)) ∧ ns.length = 12 ∧ ns.Nodup ∧ m ≤ 100 ∧ ∀ d tu H', H d = none → Same H H' → UsAt H' d tu ns (usU ns m) → Q (.ref d) H'
theorem ok_l_uses (T : Txt K mg A) : Fg P w K mg base CX0 4 A.f_l_uses A.d_l_uses ["_law_names_here", "_law_many"] (sp_uses28 K) := by
  refine ok_g T.F_l_uses sc_l_uses (fun vs H Q E h => ?_) (fun cdv Ar outer s H vs Q E hr h => ?_)
  · obtain ⟨_, _, _, rfl, _⟩ := h; rfl
  · obtain ⟨a, m, ns, rfl, hA, l12, nd, m1, q⟩ := h
    refine ⟨_, (pss_cons (ps_set (i := 2) sc_l_uses.nd rfl (.inl rfl) pe_dnewK)
(pss_cons (ps_for PassesOwn.never rfl (pi_enum (by rfl) T.m_enumerate (pa_cons (pv 0) pa_nil)) (pg_tup rfl (pgs_cons (pg_name (i := 3) sc_l_uses.nd rfl (.inr rfl)) (pgs_cons (pg_name (i := 4) sc_l_uses.nd rfl (.inl rfl)) pgs_nil)))
(pss_cons (ps_set (i := 5) sc_l_uses.nd rfl (.inl rfl) (pe_op op_add pe_int (pe_callTy call_intB (by rfl) T.m_int (by decide +kernel) (pa_cons (pe_cmpR op_lt (pv 3) (pe_op op_sub (pv 1) pe_int) (nomark _)) pa_nil))))
(pss_one (ps_dp (hu_of hr.room) (pv 2) (pv 4) (pe_callTy call_tupL (by rfl) T.m_tuple (by decide +kernel) (pa_cons (pe_lc (own := [("_law_place", 6)]) rfl sc_l_uses.nd (pi_range1 rfl T.m_range (pa_cons (pv 5) pa_nil)) (blkOk_by (own := [("_law_place", 6)]) (N := ["_law_names_here", "_law_many", "_law_found", "_law_k", "_law_name_here", "_law_size", "_law_place"]) (sc := defScope s_l_uses) (by decide +kernel)) (fun _ _ _ _ _ => (pg_name (i := 6) sc_l_uses.nd rfl (.inl rfl))) (fun _ _ _ _ _ => pts_nil) (fun _ _ _ _ _ => (pe_ix (ix_listK (K := K) (by rfl)) (pv 0) (pe_op op_mod (pe_op op_add (pe_op op_add (pv 3) pe_int) (pv 6)) pe_int) (fun _ _ => rfl)))) pa_nil))))))
(pss_one (ps_ret (pv 2))))), ?_⟩
    repeat (walk_at "st")
    refine i_new fun p1 G1 n1 s1 e1 => ?_
    repeat (walk_at "st")
    refine f_wq (wq_enum (xs := strsV ns)) (fun i σ G => ∃ tu, Off p1 G1 G ∧ G p1 = some (mkS (ns.take i) tu) ∧ (∀ n ∈ ns.take i, H (tu n) = none ∧ G (tu n) = some (.tup (strsV (usU ns m n)))) ∧ ∃ y3 y4 y5, σ = [some (.ref a), some (.int (m : Nat)), some (.ref p1), y3, y4, y5, none]) ⟨fun _ => 0, Off.refl _ _, e1, fun n hn => (nomatch hn), _, _, _, rfl⟩ (fun i σ G h => ?_) (fun i x σ Ha Hb hi h sa hr => ?_) (fun σ G h => ?_)
    · obtain ⟨_, o, _⟩ := h
      exact SqL.of (o.get (fun z => by rw [← z, hA] at n1; cases n1) (s1 _ _ hA))
    · obtain ⟨tu, o, at1, tt, y3, y4, y5, rfl⟩ := h
      obtain ⟨T2, x1, x2, rfl, eT, k1, k2⟩ := hr
      dsimp only at k1 k2
      rw [strsV_len] at hi
      rw [strsV_at hi] at k2
      cases k1; cases k2
      have hA' := sa _ _ (o.get (fun z => by rw [← z, hA] at n1; cases n1) (s1 _ _ hA))
      have at1 := sa _ _ at1
      have eU := usU_at (m := m) nd hi
      have nin := take_new (d := default) nd hi
      have hm := getD_mem (d := default) hi
      generalize en : ns.getD i default = n at *
      repeat (walk_at "st")
      have esz : (3 : Int) + (if decide ((i : Int) < (m : Int) - 36) then 1 else 0) = ((szU m i : Nat) : Int) := by
        unfold szU
        by_cases c : i + 36 < m
        · rw [if_pos c, if_pos (decide_eq_true (by omega))]; rfl
        · rw [if_neg c, if_neg (by simp; omega)]; rfl
      rw [esz]
      repeat (walk_at "st")
      refine l_mq wk_range.q (fun p => .str (ns.getD ((i + 1 + p) % 12) default)) (by rw [rangeV_len, sizeLine_eq]; have := szU_le m i; omega) (fun _ _ => trivial) (fun p x H' S hp hr s8 hS => ?_) (fun D8 H8 n8 s8 e8 => ?_)
      · obtain ⟨rfl, _⟩ := rangeV_item' hr
        have ix : atI (strsV ns) (((i : Int) + 1 + (0 + ((p : Nat) : Int))) % 12) = some (.str (ns.getD ((i + 1 + p) % 12) default)) := by
          rw [show ((i : Int) + 1 + (0 + ((p : Nat) : Int))) % 12 = (((i + 1 + p) % 12 : Nat) : Int) from by omega]
          exact atI_nat (strsV_at (by omega))
        repeat (walk_at "st")
        exact hS _ (Same.refl _)
      · have eT : (List.range (rangeV 0 ((szU m i : Nat) : Int).toNat).length).map (fun p => V.str (ns.getD ((i + 1 + p) % 12) default)) = strsV (usU ns m n) := by
          rw [eU, rangeV_len]
          unfold strsV
          rw [List.map_map, Int.toNat_natCast]; rfl
        rw [eT] at e8
        clear eT
        repeat (walk_at "st")
        refine i_new fun p9 G9 n9 s9 e9 => ?_
        have at9 := s9 _ _ (s8 _ _ at1)
        have p91 : p9 ≠ p1 := fun z => by rw [z, s8 _ _ at1] at n9; cases n9
        have n9' : H p9 = none := none_of s1 (off_none o p91 (none_of (sa.trans s8) n9))
        repeat (walk_at "st")
        refine i_dpS at9 (by rw [tabS_len, List.length_take, sizeLine_eq]; omega) ?_
        refine i_put fun G11 o11 e11 => ?_
        rw [mkS_add nin] at e11
        have ns1 : ns.take (i + 1) = ns.take i ++ [n] := by rw [take_add (d := default) hi, en]
        refine ⟨fun y => if y = n then p9 else tu y, ?_, by rw [ns1]; exact e11, fun k hk => ?_, _, _, _, rfl⟩
        · exact fun b u nb hb => o11.get nb (s9 _ _ (s8 _ _ (sa _ _ (o _ _ nb hb))))
        · rw [ns1, List.mem_append, List.mem_singleton] at hk
          by_cases e : k = n
          · subst e
            dsimp only
            rw [if_pos rfl]
            exact ⟨n9', o11.get p91 e9⟩
          · obtain ⟨t1, t2⟩ := tt k (hk.resolve_right e)
            dsimp only
            rw [if_neg e]
            exact ⟨t1, o11.get (fun z => by have w := sa _ _ t2; rw [z, at1] at w; cases w) (s9 _ _ (s8 _ _ (sa _ _ t2)))⟩
    · obtain ⟨tu, o, at1, tt, y3, y4, y5, rfl⟩ := h
      rw [strsV_len, List.take_length] at at1 tt
      repeat (walk_at "st")
      exact q _ tu _ n1 (fun b u hb => o.get (fun z => by rw [z, n1] at hb; cases hb) (s1 _ _ hb)) ⟨at1, fun n hn => (tt n hn).2⟩

/-! ### _law_told of k28 -/
def manyD (k : Str) (l : Int) : PyData := .list [.str "many", .str k, .int l]
def fallsD (n u : Str) : PyData := .list [.str "falls", .str n, .str u]
def windsD : PyData := .list [.str "windows", .none]
def TM28 (A : Ad) : (XK → Hp → VK → Prop) → Hp → VK → Prop := fun tl H Q => ∀ (E' : XK) (Q' : VK),
  (∀ (dd : Addr) (k : Str) (l : Int) (H1 : Hp), H1 dd = some (.xd [("limit", .int l), ("kind", .str k)]) → Shw (manyD k l) → (∀ H2, Same H1 H2 → Q (.str (manyD k l).shown) H2) → E' (.ref A.c_TooMany) (some dd) H1) →
  (∀ (dd : Addr) (u n : Str) (H1 : Hp), H1 dd = some (.xd [("used", .str u), ("user", .str n)]) → Shw (fallsD n u) → (∀ H2, Same H1 H2 → Q (.str (fallsD n u).shown) H2) → E' (.ref A.c_NotRising) (some dd) H1) →
  (∀ (dd : Addr) (H1 : Hp), H1 dd = some (.xd [("position", .non)]) → Shw windsD → (∀ H2, Same H1 H2 → Q (.str windsD.shown) H2) → E' (.ref A.c_InvalidWindows) (some dd) H1) → tl E' H Q'
theorem gives_l_told {X : Cx} {A : Ad} (T : Txt X.K X.mg A) : ∀ q : Str, GivesG X ["_law_call", "_law_told_here", "e", "_law_others"] "_law_told" (defScope s_l_told) A.f_l_told (defBody s_l_told) q 8 (TM28 A) := by
  intro q cdv a f c' s H Q tl at0 hr act hc h
  have ea : a = "_law_call" := by cases at0; rfl
  subst ea
  let K : PySem.W.Frag := X.K
  refine ⟨_, (pss_cons (ps_set (i := 1) sc_l_told.nd rfl (.inl rfl) pe_non)
(pss_cons (ps_tryC rfl rfl L2.takes0 (fun W1 pn1 xe1 tk1 po1 => (pss_one (ps_set (i := 1) sc_l_told.nd rfl (.inl rfl) (pe_lst (pa_cons pe_str (pa_cons (act W1 pn1 xe1 _ _ tk1) pa_nil))))))
(.named (i := 2) sc_l_told.nd rfl rfl ⟨rfl, by decide, .inl T.gX_TooMany⟩
(fun a1 oe1 cls1 d1 pn1 hz1 hf1 => (pss_cons (ps_set (i := 3) sc_l_told.nd rfl (.inl rfl) (pe_or (pe_callB (call_isXT hz1 hf1) (by rfl) T.m_isinstance (by decide +kernel) (pa_cons (pv 2) (pa_cons (pe_tup (pa_cons (pe_glob (v := .ref A.c_GroupError) rfl T.gX_GroupError rfl) (pa_cons (pe_glob (v := .ref A.c_Missing) rfl T.gX_Missing rfl) (pa_cons (pe_glob (v := .ref A.c_Refused) rfl T.gX_Refused rfl) (pa_cons (pe_glob (v := .ref A.c_NoState) rfl T.gX_NoState rfl) pa_nil))))) pa_nil))) (pe_one (pe_not (pe_callB (call_isX hz1 hf1) (by rfl) T.m_isinstance (by decide +kernel) (pa_cons (pv 2) (pa_cons (pe_bltn (v := .ty "ArithmeticError") rfl T.m_ArithmeticError (by decide +kernel) rfl) pa_nil)))))))
(pss_one (ps_set (i := 1) sc_l_told.nd rfl (.inl rfl) (pe_ifExp (PW.pt (pw_or (pt_val (pv 3)) (pw_or1 (pt_not (pt_val (pe_callB (call_isX hz1 hf1) (by rfl) T.m_isinstance (by decide +kernel) (pa_cons (pv 2) (pa_cons (pe_glob (v := .ref A.c_LimitReached) rfl T.gX_LimitReached rfl) pa_nil)))))))) (pe_lst (pa_cons pe_str pa_nil)) (pe_lst (pa_cons pe_str (pa_cons (pe_xfN (n := "kind") hz1 hf1 (pv 2)) (pa_cons (pe_xfN (n := "limit") hz1 hf1 (pv 2)) pa_nil))))))))) (.named (i := 2) sc_l_told.nd rfl rfl ⟨rfl, by decide, .inl T.gX_NotRising⟩
(fun a1 oe1 cls1 d1 pn1 hz1 hf1 => (pss_one (ps_set (i := 1) sc_l_told.nd rfl (.inl rfl) (pe_lst (pa_cons pe_str (pa_cons (pe_xfN (n := "user") hz1 hf1 (pv 2)) (pa_cons (pe_xfN (n := "used") hz1 hf1 (pv 2)) pa_nil))))))) (.named (i := 2) sc_l_told.nd rfl rfl ⟨rfl, by decide, .inl T.gX_InvalidWindows⟩
(fun a1 oe1 cls1 d1 pn1 hz1 hf1 => (pss_one (ps_set (i := 1) sc_l_told.nd rfl (.inl rfl) (pe_lst (pa_cons pe_str (pa_cons (pe_xfN (n := "position") hz1 hf1 (pv 2)) pa_nil)))))) .nil))))
(pss_one (ps_ret (pe_callB (call_reprE T.sys (hr.mono (by decide))) (by rfl) T.m_repr (by decide +kernel) (pa_cons (pv 1) pa_nil)))))), ?_⟩
  repeat (walk_at "st")
  refine i_act rfl (by walk_at "hg") ?_
  refine h _ _ (fun dd k l H1 e hs q2 => ?_) (fun dd u n H1 e hs q2 => ?_) (fun dd H1 e hs q2 => ?_)
  · refine i_cN (T.EX_TooMany.exm T.EX_TooMany T.su_TooMany_TooMany) fun x hx => ?_
    have hdd : ∀ {G : Hp}, Same H1 G → ∀ d2, some dd = some d2 → ∃ fs, G d2 = some (.xd fs) := fun s d2 z => by cases z; exact ⟨_, s _ _ e⟩
    repeat (walk_at "st")
    refine i_new fun p3 G3 n3 s3 e3 => ?_
    have e03 := s3 _ _ e
    repeat (walk_at "st")
    refine i_isXT T.EX_TooMany T.cg e3 (bs := [false, false, false, false]) ⟨⟨_, rel_ref, T.ki_TooMany_GroupError⟩, ⟨_, rel_ref, T.ki_TooMany_Missing⟩, ⟨_, rel_ref, T.ki_TooMany_Refused⟩, ⟨_, rel_ref, T.ki_TooMany_NoState⟩, trivial⟩ (hdd s3) ?_
    repeat (walk_at "st")
    rw [if_neg (by decide)]
    repeat (walk_at "st")
    refine i_isX T.EX_TooMany T.cg rel_ty T.ki_TooMany_ArithmeticError (hdd s3) ?_
    repeat (walk_at "st")
    rw [if_neg (by decide)]
    repeat (walk_at "st")
    refine i_isX T.EX_TooMany T.cg rel_ref T.ki_TooMany_LimitReached (hdd s3) ?_
    try rw [if_neg (by decide)]
    repeat (walk_at "st")
    refine i_xfV T.EX_TooMany.xf T.nf_TooMany_kind rfl e03 rfl ?_
    repeat (walk_at "st")
    refine i_xfV T.EX_TooMany.xf T.nf_TooMany_limit rfl e03 rfl ?_
    dsimp only [endsAs]
    repeat (walk_at "st")
    intro p4 n4
    obtain ⟨G4, hG4⟩ : ∃ G4, G4 = upd G3 p4 (.lst [.str "many", .str k, .int l]) := ⟨_, rfl⟩
    rw [← hG4]
    have s4 : Same G3 G4 := hG4 ▸ same_new n4
    have e4 : G4 p4 = some (.lst [.str "many", .str k, .int l]) := hG4 ▸ upd_same
    clear hG4
    have da : DaF false K G4 (.ref p4) (manyD k l) := Da.lst (SqL.of e4) (.cons (.str _) (.cons (.str _) (.cons (.int _) .nil)))
    repeat (walk_at "st")
    exact q2 _ (s3.trans s4)
  · refine i_cX (T.EX_NotRising.exm T.EX_TooMany T.su_NotRising_TooMany) ?_
    refine i_cN (T.EX_NotRising.exm T.EX_NotRising T.su_NotRising_NotRising) fun x hx => ?_
    repeat (walk_at "st")
    refine i_xfV T.EX_NotRising.xf T.nf_NotRising_user rfl e rfl ?_
    repeat (walk_at "st")
    refine i_xfV T.EX_NotRising.xf T.nf_NotRising_used rfl e rfl ?_
    dsimp only [endsAs]
    repeat (walk_at "st")
    intro p4 n4
    obtain ⟨G4, hG4⟩ : ∃ G4, G4 = upd H1 p4 (.lst [.str "falls", .str n, .str u]) := ⟨_, rfl⟩
    rw [← hG4]
    have s4 : Same H1 G4 := hG4 ▸ same_new n4
    have e4 : G4 p4 = some (.lst [.str "falls", .str n, .str u]) := hG4 ▸ upd_same
    clear hG4
    have da : DaF false K G4 (.ref p4) (fallsD n u) := Da.lst (SqL.of e4) (.cons (.str _) (.cons (.str _) (.cons (.str _) .nil)))
    repeat (walk_at "st")
    exact q2 _ s4
  · refine i_cX (T.EX_InvalidWindows.exm T.EX_TooMany T.su_InvalidWindows_TooMany) ?_
    refine i_cX (T.EX_InvalidWindows.exm T.EX_NotRising T.su_InvalidWindows_NotRising) ?_
    refine i_cN (T.EX_InvalidWindows.exm T.EX_InvalidWindows T.su_InvalidWindows_InvalidWindows) fun x hx => ?_
    repeat (walk_at "st")
    refine i_xfV T.EX_InvalidWindows.xf T.nf_InvalidWindows_position rfl e rfl ?_
    dsimp only [endsAs]
    repeat (walk_at "st")
    intro p4 n4
    obtain ⟨G4, hG4⟩ : ∃ G4, G4 = upd H1 p4 (.lst [.str "windows", .non]) := ⟨_, rfl⟩
    rw [← hG4]
    have s4 : Same H1 G4 := hG4 ▸ same_new n4
    have e4 : G4 p4 = some (.lst [.str "windows", .non]) := hG4 ▸ upd_same
    clear hG4
    have da : DaF false K G4 (.ref p4) windsD := Da.lst (SqL.of e4) (.cons (.str _) (.cons .non .nil))
    repeat (walk_at "st")
    exact q2 _ s4

end

open PySem PySem.Spec PyProof.Rows L2




section
variable {P : Program} {w : World} {K : PySem.W.Frag} {mg : Str → Option Value} {base : Heap} {A : Ad}
/-! ### _law_filled of k28 -/
def OwnR (K : PySem.W.Frag) (C : Addr) (L : CL) (S : CS) (r : Addr) (a : Addr) : Prop := a = r ∨ (CatY K C L S).Own a
theorem ok_eq {S S' : CS} (e1 : S'.ns = S.ns) (e2 : S'.us = S.us) (x : CRo) : S'.ok x = S.ok x := by
  cases x with
  | col m u => show (_ ∧ _) = (_ ∧ _); rw [e1, e2]
  | gon n => show (_ ∈ _) = (_ ∈ _); rw [e1]
  | _ => rfl
theorem ownC_eq {K : PySem.W.Frag} {C : Addr} {L : CL} {S S' : CS} (e1 : S'.ns = S.ns) (e2 : S'.us = S.us) {a : Addr} : (CatY K C L S').Own a ↔ (CatY K C L S).Own a := by
  constructor
  · rintro ⟨x, k, e⟩; exact ⟨x, by show S.ok x; rw [← ok_eq e1 e2]; exact k, e⟩
  · rintro ⟨x, k, e⟩; exact ⟨x, by show S'.ok x; rw [ok_eq e1 e2]; exact k, e⟩

theorem paired_da {K : PySem.W.Frag} {h : Hp} : ∀ {ws : List WT} {ys : List V}, Paired (fun (w : WT) (y : V) => DaF false K h y (winD w)) ws ys → DaAllF false K h ys (ws.map winD)
  | _, _, .nil => .nil
  | _, _, .cons d t => .cons d (paired_da t)
def fallW (S : TS) (n u : Str) (w : WT) : Bool := match (S.win n u).getLast? with
  | none => false
  | some l => !risesW l w
theorem falls_eq {S : TS} {B : Int} {n : Str} {w : Str → WT} (h : TOk S B) (hn : n ∈ S.ns) (hw : ∀ u ∈ S.us n, okW (w u)) : falls S.cs n (((S.us n).map w).map winD) = (S.us n).map fun u => fallW S n u (w u) := by
  unfold falls
  refine List.ext_getElem (by rw [List.length_map, List.length_zip, List.length_map, List.length_map, List.length_map]; exact Nat.min_self _) fun i h1 h2 => ?_
  rw [List.length_map] at h2
  rw [List.getElem_map, List.getElem_zip, List.getElem_map, List.getElem_map, List.getElem_map]
  have hu : (S.us n)[i] ∈ S.us n := List.getElem_mem h2
  have k1 := hw _ hu
  show fallC S.cs n (S.us n)[i] (winD (w (S.us n)[i])) = fallW S n (S.us n)[i] (w (S.us n)[i])
  unfold fallC fallW
  show (match ((S.win n (S.us n)[i]).map winD).getLast? with | none => false | some l => fallDD l _) = _
  rw [List.getLast?_map]
  cases e : (S.win n (S.us n)[i]).getLast? with
  | none => rfl
  | some l =>
    have okl := (h.wb n hn _ hu l (List.mem_of_getLast? e)).1
    show fallDD (winD l) (winD _) = !risesW l _
    unfold fallDD
    rw [winP_D okl, winP_D k1]
def ts0 (ns : List Str) (us : Str → List Str) : TS := ⟨ns, us, fun _ => 0, fun _ _ => [], fun _ => [], []⟩
def wfar (far : Int) (k : Nat) : WT := (far + k, if 11 < (k : Int) then none else some (far + 10 + k))
def wcol (far : Int) (c : Nat) : List WT := (List.range c).map (wfar far)
theorem wfar_bd {far : Int} (h : 0 ≤ far) (k : Nat) (k16 : k < 16) : bdW (far + 30) (wfar far k) := by
  unfold wfar
  split
  · exact ⟨⟨by show 0 ≤ far + k; omega, fun x z => by cases z⟩, by show far + k ≤ _; omega, fun x z => by cases z⟩
  · refine ⟨⟨by show 0 ≤ far + k; omega, fun x z => ?_⟩, by show far + k ≤ _; omega, fun x z => ?_⟩ <;> (have z : some (far + 10 + (k : Int)) = some x := z; cases z)
    · show far + k ≤ _; omega
    · omega
theorem wfar_rises {far : Int} (k : Nat) : risesW (wfar far k) (wfar far (k + 1)) = true := by
  unfold wfar
  refine risesW_next (by omega) ?_
  by_cases c : 11 < ((k + 1 : Nat) : Int)
  · exact .inl (if_pos c)
  · exact .inr ⟨far + 10 + k, far + 10 + (k + 1 : Nat), if_neg (by omega), if_neg c, by omega⟩
theorem wfar_same {far : Int} : risesW (wfar far 15) (wfar far 15) = true := by
  unfold wfar
  exact risesW_next (by omega) (.inl (if_pos (by decide)))
theorem wcol_add {far : Int} {c : Nat} : wcol far (c + 1) = wcol far c ++ [wfar far c] := by unfold wcol; rw [List.range_succ, List.map_append]; rfl
theorem wcol_last {far : Int} {c : Nat} {l : WT} (h : (wcol far c).getLast? = some l) : ∃ d, c = d + 1 ∧ l = wfar far d := by
  cases c with
  | zero => cases h
  | succ d => rw [wcol_add, List.getLast?_concat] at h; cases h; exact ⟨d, rfl, rfl⟩
theorem wcol_at {far : Int} {c i : Nat} (h : i < c) : (wcol far c)[i]? = some (wfar far i) := by unfold wcol; rw [List.getElem?_map, List.getElem?_range h]; rfl
structure FInv (ns : List Str) (us : Str → List Str) (far : Int) (S : TS) (c : Str → Nat) (l : Nat) : Prop where
  en : S.ns = ns
  eu : S.us = us
  ok : TOk S (far + 30)
  cnt : ∀ n ∈ ns, S.cnt n = c n
  win : ∀ n ∈ ns, ∀ u ∈ us n, S.win n u = wcol far (c n)
  gone : ∀ n, S.gone n = []
  log : S.log.length ≤ l
theorem FInv.start {ns : List Str} {us : Str → List Str} {far : Int} (h : UsOk ns us) : FInv ns us far (ts0 ns us) (fun _ => 0) 0 :=
  ⟨rfl, rfl, ⟨h, fun _ _ => Nat.zero_le _, fun _ _ _ _ => rfl, fun _ _ _ _ i a b ha => by simp [ts0] at ha, fun _ _ _ _ w hw => (nomatch hw), fun _ _ i hi => (nomatch hi), fun _ _ => List.nodup_nil⟩, fun _ _ => rfl, fun _ _ _ _ => rfl, fun _ => rfl, Nat.zero_le _⟩
theorem FInv.congr {ns : List Str} {us : Str → List Str} {far : Int} {S : TS} {c d : Str → Nat} {l m : Nat} (h : FInv ns us far S c l) (e : ∀ n ∈ ns, c n = d n) (k : l ≤ m) : FInv ns us far S d m :=
  ⟨h.en, h.eu, h.ok, fun n hn => (h.cnt n hn).trans (e n hn), fun n hn u hu => by rw [h.win n hn u hu, e n hn], h.gone, Nat.le_trans h.log k⟩
theorem FInv.rises {ns : List Str} {us : Str → List Str} {far : Int} {S : TS} {c : Str → Nat} {l : Nat} (h : FInv ns us far S c l) {n u : Str} (hn : n ∈ ns) (hu : u ∈ us n) : fallW S n u (wfar far (c n)) = false := by
  unfold fallW
  rw [h.win n hn u hu]
  cases e : (wcol far (c n)).getLast? with
  | none => rfl
  | some w =>
    obtain ⟨d, e1, rfl⟩ := wcol_last e
    show (!risesW _ _) = false
    rw [e1, wfar_rises]; rfl
theorem FInv.pub {ns : List Str} {us : Str → List Str} {far : Int} {S : TS} {c : Str → Nat} {l : Nat} (h : FInv ns us far S c l) (f0 : 0 ≤ far) {n : Str} (hn : n ∈ ns) (h16 : c n < 16) : FInv ns us far (S.pub n fun _ => wfar far (c n)) (fun m => if m = n then c n + 1 else c m) (l + 1) := by
  have hc := h.cnt n hn
  refine ⟨h.en, h.eu, h.ok.pub (by rw [h.en]; exact hn) (by omega) (fun u hu => ⟨wfar_bd f0 _ h16, fun w hw => ?_⟩), fun m hm => ?_, fun m hm u hu => ?_, h.gone, ?_⟩
  · have z := h.rises hn (by rw [← h.eu]; exact hu)
    unfold fallW at z
    rw [hw] at z
    simpa using z
  · show (if m = n then S.cnt n + 1 else S.cnt m) = _
    split
    · rw [hc]
    · exact h.cnt m hm
  · show (if m = n then S.win m u ++ [wfar far (c n)] else S.win m u) = _
    by_cases e : m = n
    · subst e; rw [if_pos rfl, if_pos rfl, h.win m hm u hu, wcol_add]
    · rw [if_neg e, if_neg e]; exact h.win m hm u hu
  · show (S.log ++ [_]).length ≤ _
    rw [List.length_append]
    have := h.log
    simp; omega
theorem FInv.avail {ns : List Str} {us : Str → List Str} {far : Int} {S : TS} {c : Str → Nat} {l : Nat} (h : FInv ns us far S c l) {n : Str} (hn : n ∈ ns) : S.cs.avail n = List.range (c n) := by
  show (List.range (S.cnt n)).filter (fun k : Nat => !(S.gone n).contains (k : Int)) = _
  rw [h.gone n, h.cnt n hn]
  exact List.filter_eq_self.mpr (by simp)
theorem da_ints {K : PySem.W.Frag} {H : Hp} {a : Addr} {l : List Int} (h : H a = some (.lst (l.map V.int))) : DaF false K H (.ref a) (.list (l.map PyData.int)) := by
  refine Da.lst (SqL.of h) ?_
  clear h
  induction l with
  | nil => exact .nil
  | cons b l ih => exact .cons (.int _) ih
theorem nd_ints (l : List Int) : PyData.hasDict (.list (l.map PyData.int)) = false := nd_all fun d hd => by
  obtain ⟨c, _, rfl⟩ := List.mem_map.mp hd; rfl
theorem shaped_ints (l : List Int) : SeqAt.shaped (.list (l.map PyData.int)) = true := shaped_list fun d hd => by
  obtain ⟨c, _, rfl⟩ := List.mem_map.mp hd
  exact ⟨rfl, by simp [PyData.depth]⟩
theorem wins_get28 {l : List WT} {i : Nat} {d : PyData} (h : (l.map winD)[i]? = some d) : ∃ w, l[i]? = some w ∧ d = winD w := by
  rw [List.getElem?_map] at h
  cases e : l[i]? with
  | none => rw [e] at h; cases h
  | some w => rw [e] at h; cases h; exact ⟨w, rfl, rfl⟩
def sp_filled28 (K : PySem.W.Frag) (C : Addr) : Sp := fun vs H Q _ => ∃ r L ns us, vs = [.ref r, .ref (CL.p L)] ∧ CatAt K C H L (ts0 ns us).cs ∧ UsOk ns us ∧ Rok H r ∧ ¬ (CatY K C L (ts0 ns us).cs).Own r ∧
  ∀ far S H', 0 ≤ far → FInv ns us far S (fun _ => 16) 200 → CatAt K C H' L S.cs → Fr (OwnR K C L (ts0 ns us).cs r) H H' → Rok H' r → Q (.bl true) H'
theorem ok_l_filled (T : Txt K mg A) (G_l_choice : Fg P w K mg base CX0 2 A.f_l_choice A.d_l_choice ["_law_rng_here", "_law_options"] sp_l_choice) (G_l_shuffled : Fg P w K mg base CX0 2 A.f_l_shuffled A.d_l_shuffled ["_law_rng_here", "_law_values"] (sp_l_shuffled K)) (G_Catalog_modules : FnOk P w K mg base CX0 1 A.f_Catalog_modules A.d_Catalog_modules ["self"] (sp_modules K A.c_Catalog)) (G_Catalog_uses : FnOk P w K mg base (L2.CX P w) 4 A.f_Catalog_uses A.d_Catalog_uses ["self", "module"] (spM K A.c_Catalog A.c_UnknownModule fun S n H Q => retL (strsV (S.us n)) H Q)) (G_Catalog_publish : FnOk P w K mg base (L2.CX P w) 6 A.f_Catalog_publish A.d_Catalog_publish ["self", "module", "windows"] (sp_publish K A.c_Catalog A.c_UnknownModule A.c_InvalidWindows A.c_NotRising A.c_TooMany)) (G_Catalog_available : FnOk P w K mg base (L2.CX P w) 4 A.f_Catalog_available A.d_Catalog_available ["self", "module"] (spM K A.c_Catalog A.c_UnknownModule fun S n H Q => S.cnt n < 1000 ∧ retL ((S.avail n).map fun k : Nat => V.int k) H Q)) (G_Catalog_versions : FnOk P w K mg base (L2.CX P w) 4 A.f_Catalog_versions A.d_Catalog_versions ["self", "module"] (spM K A.c_Catalog A.c_UnknownModule fun S n H Q => Q (.int (S.cnt n : Nat)) H)) (G_Catalog_window : FnOk P w K mg base (L2.CX P w) 4 A.f_Catalog_window A.d_Catalog_window ["self", "user", "used", "version"] (sp_window K A.c_Catalog A.c_UnknownModule A.c_UnknownUse A.c_UnknownVersion)) : Fg P w K mg base CX0 8 A.f_l_filled A.d_l_filled ["_law_rng_here", "_law_catalog"] (sp_filled28 K A.c_Catalog) := by
  refine ok_g T.F_l_filled sc_l_filled (fun vs H Q E h => ?_) (fun cdv Ar outer s H vs Q E hr h => ?_)
  · obtain ⟨_, _, _, _, rfl, _⟩ := h; rfl
  · obtain ⟨r, L, ns, us, rfl, hC, okU, hR, rC, q⟩ := h
    refine ⟨_, (pss_cons (ps_set (i := 2) sc_l_filled.nd rfl (.inr rfl) (pe_call G_l_choice (hr.mono (by decide)) (by rfl) T.g_l_choice T.F_l_choice.kp T.b_l_choice .nil pass0 (pa_cons (pv 0) (pa_cons (pe_litL (LitAll.cons Lit.int (LitAll.cons (Lit.pow Lit.int Lit.int (by decide) (by decide) (by decide)) (LitAll.cons (Lit.pow Lit.int Lit.int (by decide) (by decide) (by decide)) LitAll.nil))) (by decide)) pa_nil))))
(pss_cons (ps_for PassesOwn.never rfl (pi_range1 rfl T.m_range (pa_cons pe_int pa_nil)) (pg_name (i := 3) sc_l_filled.nd rfl (.inr rfl))
(pss_one (ps_for PassesOwn.never rfl (pi_list (pe_call G_l_shuffled (hr.mono (by decide)) (by rfl) T.g_l_shuffled T.F_l_shuffled.kp T.b_l_shuffled .nil pass0 (pa_cons (pv 0) (pa_cons (pe_methC0 T.cl_Catalog T.mt_Catalog_modules G_Catalog_modules (hr.room.mono (by decide)) T.b_Catalog_modules pass0 (pv 1)) pa_nil)))) (pg_name (i := 4) sc_l_filled.nd rfl (.inl rfl))
(pss_cons (ps_setLc (i := 6) (own := [("_law_used", 5)]) rfl sc_l_filled.nd rfl rfl (sw_true rfl rfl rfl (by decide +kernel)) (pi_list (pe_methC T.cl_Catalog T.mt_Catalog_uses G_Catalog_uses (hr.room.mono (by decide)) T.b_Catalog_uses passL (pv 1) (pa_cons (pv 4) pa_nil))) (blkOk_by (own := [("_law_used", 5)]) (N := ["_law_rng_here", "_law_catalog", "_law_far", "_law_k", "_law_name_here", "_law_used", "_law_some", "_law_told_here"]) (sc := defScope s_l_filled) (by decide +kernel)) (fun _ _ _ _ _ => (pg_name (i := 5) sc_l_filled.nd rfl (.inl rfl))) (fun _ _ _ _ _ => pts_nil) (fun _ _ _ _ _ => (pe_tup (pa_cons (pe_op op_add (pv 2) (pv 3)) (pa_cons (pe_ifExp (pt_cmpR op_gt (pv 3) pe_int (nomark _)) pe_non (pe_op op_add (pe_op op_add (pv 2) pe_int) (pv 3))) pa_nil)))))
(pss_one (ps_if (pt_cmpR op_ne (pe_methC T.cl_Catalog T.mt_Catalog_publish G_Catalog_publish (hr.room.mono (by decide)) T.b_Catalog_publish passL (pv 1) (pa_cons (pv 4) (pa_cons (pv 6) pa_nil))) (pv 3) (nomark _))
(pss_one (ps_ret pe_bl))
pss_nil))))))
(pss_cons (ps_for PassesOwn.never rfl (pi_list (pe_methC0 T.cl_Catalog T.mt_Catalog_modules G_Catalog_modules (hr.room.mono (by decide)) T.b_Catalog_modules pass0 (pv 1))) (pg_name (i := 4) sc_l_filled.nd rfl (.inl rfl))
(pss_cons (ps_if (PW.pt (pw_or (pt_cmpR (op_neD hr.room.units) (pe_methC T.cl_Catalog T.mt_Catalog_available G_Catalog_available (hr.room.mono (by decide)) T.b_Catalog_available passL (pv 1) (pa_cons (pv 4) pa_nil)) (pe_listRg rfl (by rfl) T.m_list (prg_1 (by rfl) T.m_range pe_int)) (nomark _)) (pw_or1 (pt_cmpR op_ne (pe_methC T.cl_Catalog T.mt_Catalog_versions G_Catalog_versions (hr.room.mono (by decide)) T.b_Catalog_versions passL (pv 1) (pa_cons (pv 4) pa_nil)) pe_int (nomark _)))))
(pss_one (ps_ret pe_bl))
pss_nil)
(pss_one (ps_for PassesOwn.never rfl (pi_list (pe_methC T.cl_Catalog T.mt_Catalog_uses G_Catalog_uses (hr.room.mono (by decide)) T.b_Catalog_uses passL (pv 1) (pa_cons (pv 4) pa_nil))) (pg_name (i := 5) sc_l_filled.nd rfl (.inl rfl))
(pss_cons (ps_set (i := 7) sc_l_filled.nd rfl (.inl rfl) (pe_lst (pa_cons (pe_methC T.cl_Catalog T.mt_Catalog_window G_Catalog_window (hr.room.mono (by decide)) T.b_Catalog_window passL (pv 1) (pa_cons (pv 4) (pa_cons (pv 5) (pa_cons pe_int pa_nil)))) (pa_cons (pe_methC T.cl_Catalog T.mt_Catalog_window G_Catalog_window (hr.room.mono (by decide)) T.b_Catalog_window passL (pv 1) (pa_cons (pv 4) (pa_cons (pv 5) (pa_cons pe_int pa_nil)))) pa_nil))))
(pss_one (ps_if (pt_cmpR (op_neD hr.room.units) (pv 7) (pe_lst (pa_cons (pe_tup (pa_cons (pe_op op_add (pv 2) pe_int) (pa_cons (pe_op op_add (pv 2) pe_int) pa_nil))) (pa_cons (pe_tup (pa_cons (pe_op op_add (pv 2) pe_int) (pa_cons pe_non pa_nil))) pa_nil))) (nomark _))
(pss_one (ps_ret pe_bl))
pss_nil)))))))
(pss_one (ps_ret pe_bl))))), ?_⟩
    obtain ⟨ra, rb, er, _⟩ := id hR
    repeat (walk_at "st")
    refine i_litL fun p1 xs1 G1 n1 z1 s1 e1 d1 => ?_
    have R1 := hR.same s1
    have p1r : p1 ≠ r := Rok.ne hR n1
    have l1 : xs1.length = 3 := d1.len
    repeat (walk_at "st")
    refine ⟨r, p1, xs1, rfl, e1, p1r, by omega, by omega, R1, fun v G2 hv R2 o2 => ?_⟩
    have kv : ∃ i : Int, v = .int i ∧ 0 ≤ i := by
      obtain ⟨d, hd, k⟩ := d1.mem v hv
      simp only [List.mem_cons, List.not_mem_nil, or_false] at hd
      rcases hd with rfl | rfl | rfl <;> (cases k; exact ⟨_, rfl, by decide⟩)
    obtain ⟨far, rfl, f0⟩ := kv
    have hC2 : CatAt K A.c_Catalog G2 L (ts0 ns us).cs := Lay.At.off (Lay.At.same hC s1) o2 (s1 _ _ er) rfl rC
    have f02 : Fr (OwnR K A.c_Catalog L (ts0 ns us).cs r) H G2 := (Fr.of_same s1).trans (Fr.of_off o2 (.inl rfl))
    clear hv d1 e1 o2 s1 hC
    repeat (walk_at "st")
    refine f_wk wk_range (fun k σ G => ∃ S, FInv ns us far S (fun _ => k) (12 * k) ∧ CatAt K A.c_Catalog G L S.cs ∧ Fr (OwnR K A.c_Catalog L (ts0 ns us).cs r) H G ∧ Rok G r ∧ ∃ y3 y4 y6 y7, σ = [some (.ref r), some (.ref L.p), some (.int far), y3, y4, none, y6, y7]) ⟨ts0 ns us, FInv.start okU, hC2, f02, R2, _, _, _, _, rfl⟩ (fun _ _ _ _ => trivial) (fun k x σ Ha hx h => ?_) (fun σ G h => ?_)
    · obtain ⟨S, inv, hCa, fa, Ra, y3, y4, y6, y7, rfl⟩ := h
      obtain ⟨rfl, hk⟩ := rangeV_item' hx
      have hk : k < 16 := hk
      have oba := CatAt.ob hCa
      have own1 : ∀ {S' : TS}, S'.ns = ns → S'.us = us → ∀ b, (CatY K A.c_Catalog L S'.cs).Own b ↔ (CatY K A.c_Catalog L (ts0 ns us).cs).Own b := fun e1 e2 b => ownC_eq e1 e2
      have rCa : ¬ (CatY K A.c_Catalog L S.cs).Own r := fun z => rC ((own1 inv.en inv.eu _).mp z)
      generalize hkv : (0 + ((k : Nat) : Int)) = kv at *
      have hkv' : kv = (k : Int) := by omega
      repeat (walk_at "st")
      refine ⟨L, S.cs, rfl, hCa, fun p3 G3 n3 s3 e3 => ?_⟩
      have e3 : G3 p3 = some (.lst (strsV S.ns)) := e3
      rw [inv.en] at e3
      have hC3 : CatAt K A.c_Catalog G3 L S.cs := Lay.At.same hCa s3
      have R3 := Ra.same s3
      have n12 := okU.n12
      repeat (walk_at "st")
      refine ⟨r, p3, _, rfl, e3, Rok.ne Ra n3, by rw [strsV_len]; omega, R3, fun p4 ys G4 n4 p4r o4 R4 e4 perm => ?_⟩
      obtain ⟨zs, rfl, zp⟩ := perm_strs perm
      obtain ⟨ra3, rb3, er3, _⟩ := id R3
      have hC4 : CatAt K A.c_Catalog G4 L S.cs := Lay.At.off hC3 o4 er3 rfl rCa
      have f4 : Fr (OwnR K A.c_Catalog L (ts0 ns us).cs r) H G4 := fa.trans ((Fr.of_same s3).trans (Fr.of_off o4 (.inl rfl)))
      have p4C : ¬ (CatY K A.c_Catalog L (ts0 ns us).cs).Own p4 := fun z => Lay.At.fresh hC3 n4 ((own1 inv.en inv.eu _).mpr z)
      have p4D : ¬ OwnR K A.c_Catalog L (ts0 ns us).cs r p4 := fun z => z.elim p4r p4C
      have znd : zs.Nodup := zp.nodup_iff.mpr okU.nd
      have zl : zs.length = ns.length := zp.length_eq
      clear hC3 hCa fa Ra s3 o4 perm R3
      repeat (walk_at "st")
      refine f_wq wk_list.q (fun j σ G => ∃ S, FInv ns us far S (fun m => if m ∈ zs.take j then k + 1 else k) (12 * k + j) ∧ CatAt K A.c_Catalog G L S.cs ∧ Fr (OwnR K A.c_Catalog L (ts0 ns us).cs r) G4 G ∧ Rok G r ∧ ∃ y4 y6, σ = [some (.ref r), some (.ref L.p), some (.int far), some (.int kv), y4, none, y6, y7]) ⟨S, inv.congr (fun _ _ => by simp) (Nat.le_refl _), hC4, Fr.refl _ _, R4, _, _, rfl⟩ (fun i σ G h => by obtain ⟨_, _, _, f, _⟩ := h; exact SqL.of (f _ _ p4D e4)) (fun j x σ Hb0 Hb hj h sb hr => ?_) (fun σ G h => ?_)
      · obtain ⟨S, inv, hCb, fb, Rb, y4, y6, rfl⟩ := h
        rw [strsV_len] at hj
        rw [strsV_at hj] at hr
        cases hr
        have nin := take_new (d := default) znd hj
        have hz := getD_mem (d := default) hj
        have ztk : zs.take (j + 1) = zs.take j ++ [zs.getD j default] := take_add (d := default) hj
        generalize zs.getD j default = n at *
        have hn : n ∈ ns := zp.mem_iff.mp hz
        have hnS : n ∈ S.ns := by rw [inv.en]; exact hn
        have cn : S.cnt n = k := by rw [inv.cnt n hn]; exact if_neg nin
        have hCb : CatAt K A.c_Catalog Hb L S.cs := Lay.At.same hCb sb
        have fb := fb.trans (Fr.of_same (D := OwnR K A.c_Catalog L (ts0 ns us).cs r) sb)
        have Rb := Rb.same sb
        have obb := CatAt.ob hCb
        have nmod : ∀ z, modB S.cs (.str n) = false → z := fun z h => by rw [modB_str, decide_eq_true (show n ∈ S.cs.ns from hnS)] at h; cases h
        have ul : (us n).length ≤ 40 := okU.few hn
        repeat (walk_at "st")
        refine ⟨L, S.cs, .str n, .str n, rfl, hCb, .str n, fun m em hm => ?_, nmod _⟩
        cases em
        intro p7 G7 n7 s7 e7
        have e7 : G7 p7 = some (.lst (strsV (S.us n))) := e7
        rw [inv.eu] at e7
        repeat (walk_at "st")
        refine l_tp wk_list.q (fun _ => wfar far k) (fun h w y => DaF false K h y (winD w)) (fun a y h h' s d => d.same s) (by rw [strsV_len, sizeLine_eq]; omega) (fun H' s => SqL.of (s _ _ e7)) (fun i x H' SS hi hr s8 hS => ?_) (fun D8 G8 zs8 n8 s8 e8 p8 => ?_)
        · rw [strsV_len] at hi
          rw [strsV_at hi] at hr
          cases hr
          repeat (walk_at "st")
          refine i_ite (fun c => ?_) (fun c => ?_)
          · repeat (walk_at "st")
            refine i_new fun p9 G9 n9 s9 e9 => ?_
            refine hS _ _ ?_ s9
            have ew : wfar far k = (far + kv, none) := by unfold wfar; rw [if_pos (by have := of_decide_eq_true c; omega), hkv']
            rw [ew]
            exact .tup (SqT.of (tp_get e9 rfl)) (.cons (.int _) (.cons .non .nil))
          · repeat (walk_at "st")
            refine i_new fun p9 G9 n9 s9 e9 => ?_
            refine hS _ _ ?_ s9
            have ew : wfar far k = (far + kv, some (far + 10 + kv)) := by unfold wfar; rw [if_neg (by have := of_decide_eq_false c; omega), hkv']
            rw [ew]
            exact .tup (SqT.of (tp_get e9 rfl)) (.cons (.int _) (.cons (.int _) .nil))
        · have eL : (List.range (strsV (us n)).length).map (fun _ => wfar far k) = (S.us n).map fun _ => wfar far k := by
            rw [strsV_len, inv.eu]
            refine List.ext_getElem (by simp) fun i h1 h2 => by simp
          rw [eL] at p8
          clear eL
          have d8 : DaAllF false K G8 zs8 (((S.us n).map fun _ => wfar far k).map winD) := (paired_da p8).same tp_same
          have hC8 : CatAt K A.c_Catalog G8 L S.cs := Lay.At.same hCb (s7.trans s8)
          have ob8 := CatAt.ob hC8
          have wl8 : ((((S.us n).map fun _ => wfar far k).map winD)).length = (S.us n).length := by rw [List.length_map, List.length_map]
          have wg8 : ∀ d ∈ (((S.us n).map fun _ => wfar far k).map winD), winB d = true := fun d hd => by
            obtain ⟨w, hw, rfl⟩ := List.mem_map.mp hd
            obtain ⟨_, _, rfl⟩ := List.mem_map.mp hw
            exact winB_ok (wfar_bd f0 k hk).1
          have bn : badN (.list (((S.us n).map fun _ => wfar far k).map winD)) ((S.us n).length : Nat) = none := by
            show (if ((((S.us n).map fun _ => wfar far k).map winD).length : Int) = _ then _ else _) = _
            rw [wl8, if_pos rfl]
            exact badV_none wg8
          have fe := falls_eq (w := fun _ => wfar far k) inv.ok hnS fun u hu => (wfar_bd f0 k hk).1
          have nf : ∀ b ∈ falls S.cs n (((S.us n).map fun _ => wfar far k).map winD), b = false := fun b hb => by
            rw [fe] at hb
            obtain ⟨u, hu, rfl⟩ := List.mem_map.mp hb
            have z := inv.rises hn (by rw [← inv.eu]; exact hu)
            rw [if_neg nin] at z
            exact z
          repeat (walk_at "st")
          refine ⟨L, S.cs, .str n, .ref D8, .str n, .list (((S.us n).map fun _ => wfar far k).map winD), rfl, hC8, .str n, Da.lst (SqL.of e8) d8, by show S.ns.length ≤ 12; rw [inv.en]; exact n12, nmod _, fun m em hm => ?_⟩
          cases em
          refine ⟨fun o eo => ?_, fun ws ews hlen hw => ⟨D8, zs8, rfl, e8, Lay.At.fresh (Lay.At.same hCb s7) n8, ?_⟩⟩
          · rw [show (S.cs.us n).length = (S.us n).length from rfl, bn] at eo; cases eo
          cases ews
          refine ⟨DaAllF.da d8, by show S.cnt n ≤ 16; omega, by show (S.us n).length ≤ 40; rw [inv.eu]; exact ul, by show S.log.length < 1000; have := inv.log; omega, fun u hu => ⟨?_, fun d hd => ?_⟩, fun hf hlt G9 hC9 f9 => ?_, fun hf h16 => ?_, fun i u hf hb hu => ?_⟩
          · show ((S.win n u).map winD).length ≤ 500
            rw [List.length_map, inv.ok.wl n hnS u hu]; omega
          · obtain ⟨x, hx, rfl⟩ := List.mem_map.mp (show d ∈ (S.win n u).map winD from hd)
            exact winB_ok (inv.ok.wb n hnS u hu x hx).1
          · have ec : ((S.cs.cnt n : Nat) : Int) = kv := by rw [show S.cs.cnt n = S.cnt n from rfl, cn]; omega
            rw [ec]
            have hC9 : CatAt K A.c_Catalog G9 L (S.pub n fun _ => wfar far k).cs := CatAt.eqv hC9 (TS.pub_eqv (w := fun _ => wfar far k) (inv.ok.us.und n hnS))
            have inv2 := inv.pub f0 hn (by rw [if_neg nin]; exact hk)
            rw [if_neg nin] at inv2
            repeat (walk_at "st")
            have rCb : ¬ (CatY K A.c_Catalog L S.cs).Own r := fun z => rC ((own1 inv.en inv.eu _).mp z)
            refine ⟨S.pub n fun _ => wfar far k, inv2.congr (fun m hm => ?_) (by omega), hC9, fb.trans ((Fr.of_same (s7.trans s8)).trans (f9.mono fun b z => Or.inr ((own1 inv.en inv.eu _).mp z))), ?_, _, _, rfl⟩
            · rw [ztk]
              by_cases e : m = n
              · subst e; simp
              · rw [if_neg e]
                simp [e]
            · obtain ⟨a, b, e, z⟩ := Rb.same (s7.trans s8)
              exact ⟨a, b, f9 _ _ rCb e, z⟩
          · have h16 : S.cnt n = 16 := h16
            omega
          · have z := nf true (List.mem_of_getElem? hf)
            cases z
      · obtain ⟨S, inv, hCb, fb, Rb, y4, y6, rfl⟩ := h
        repeat (walk_at "st")
        rw [strsV_len, List.take_length] at inv
        exact ⟨S, inv.congr (fun m hm => if_pos (zp.mem_iff.mpr hm)) (by omega), hCb, f4.trans fb, Rb, _, _, _, _, rfl⟩
    · obtain ⟨S, inv, hCa, fa, Ra, y3, y4, y6, y7, rfl⟩ := h
      have inv : FInv ns us far S (fun _ => 16) 192 := inv
      have oba := CatAt.ob hCa
      repeat (walk_at "st")
      refine ⟨L, S.cs, rfl, hCa, fun p3 G3 n3 s3 e3 => ?_⟩
      have e3 : G3 p3 = some (.lst (strsV S.ns)) := e3
      rw [inv.en] at e3
      have n12 := okU.n12
      repeat (walk_at "st")
      refine f_wq wk_list.q (fun j σ G => Same G3 G ∧ ∃ y4 y5 y7, σ = [some (.ref r), some (.ref L.p), some (.int far), y3, y4, y5, y6, y7]) ⟨Same.refl _, _, _, _, rfl⟩ (fun i σ G h => SqL.of (h.1 _ _ e3)) (fun j x σ Hb0 Hb hj h sb hr => ?_) (fun σ Gz h => ?_)
      · obtain ⟨sc, y4, y5, y7, rfl⟩ := h
        rw [strsV_len] at hj
        rw [strsV_at hj] at hr
        cases hr
        have hn := getD_mem (d := default) hj
        generalize ns.getD j default = n at *
        have hnS : n ∈ S.ns := by rw [inv.en]; exact hn
        have scb := sc.trans sb
        have hCb : CatAt K A.c_Catalog Hb L S.cs := Lay.At.same hCa (s3.trans scb)
        have obb := CatAt.ob hCb
        have cn : S.cnt n = 16 := inv.cnt n hn
        have nmod : ∀ z, modB S.cs (.str n) = false → z := fun z h => by rw [modB_str, decide_eq_true (show n ∈ S.cs.ns from hnS)] at h; cases h
        repeat (walk_at "st")
        refine ⟨L, S.cs, .str n, .str n, rfl, hCb, .str n, fun m em hm => ⟨by cases em; show S.cnt n < 1000; omega, ?_⟩, nmod _⟩
        cases em
        intro p5 G5 n5 s5 e5
        have e5 : G5 p5 = some (.lst ((S.cs.avail n).map fun k : Nat => V.int k)) := e5
        rw [inv.avail hn] at e5
        repeat (walk_at "st")
        refine i_lstRg (i_rg1 ?_)
        repeat (walk_at "st")
        refine i_new fun p6 G6 n6 s6 e6 => ?_
        have x16 : (List.range 16).map (fun k : Nat => V.int k) = ((List.range 16).map fun k : Nat => (k : Int)).map V.int := by rw [List.map_map]; rfl
        have r16 : rgV 0 16 = ((List.range 16).map fun k : Nat => (k : Int)).map V.int := by rw [← x16]; decide
        rw [x16] at e5
        rw [r16] at e6
        refine i_neDsame (da_ints (s6 _ _ e5)) (da_ints e6) (nd_ints _) (shaped_ints _) ?_
        repeat (walk_at "st")
        have s56 := s5.trans s6
        have hC6 : CatAt K A.c_Catalog G6 L S.cs := Lay.At.same hCb s56
        have ob6 := CatAt.ob hC6
        refine ⟨L, S.cs, .str n, .str n, rfl, hC6, .str n, fun m em hm => ?_, nmod _⟩
        cases em
        rw [show S.cs.cnt n = 16 from cn]
        repeat (walk_at "st")
        have d16 : (!decide (V.int ((16 : Nat) : Int) = V.int 16)) = false := by decide
        rw [d16]
        rw [if_neg (by decide)]
        repeat (walk_at "st")
        refine ⟨L, S.cs, .str n, .str n, rfl, hC6, .str n, fun m em hm => ?_, nmod _⟩
        cases em
        intro p7 G7 n7 s7 e7
        have e7 : G7 p7 = some (.lst (strsV (S.us n))) := e7
        rw [inv.eu] at e7
        have s67 := scb.trans (s56.trans s7)
        repeat (walk_at "st")
        refine f_wq wk_list.q (fun j σ G => Same G7 G ∧ ∃ y5 y7, σ = [some (.ref r), some (.ref L.p), some (.int far), y3, some (.str n), y5, y6, y7]) ⟨Same.refl _, _, _, rfl⟩ (fun i σ G h => SqL.of (h.1 _ _ e7)) (fun j x σ Hc0 Hc hj h sb hr => ?_) (fun σ Gz h => ?_)
        · obtain ⟨sd, y5, y7, rfl⟩ := h
          rw [strsV_len] at hj
          rw [strsV_at hj] at hr
          cases hr
          have hu := getD_mem (d := default) hj
          generalize (us n).getD j default = u at *
          have huS : u ∈ S.us n := by rw [inv.eu]; exact hu
          have sdb := sd.trans sb
          have hCc : CatAt K A.c_Catalog Hc L S.cs := Lay.At.same hCb ((s56.trans s7).trans sdb)
          have obc := CatAt.ob hCc
          have wn := inv.win n hn u hu
          have lens : ∀ n ∈ S.cs.ns, ∀ u ∈ S.cs.us n, (S.cs.col n u).length = S.cs.cnt n := fun n hn u hu => by
            show ((S.win n u).map winD).length = S.cnt n
            rw [List.length_map]; exact inv.ok.wl n hn u hu
          repeat (walk_at "st")
          refine ⟨L, S.cs, .str n, .str n, u, .int 11, .int 11, rfl, hCc, .str n, .int _, lens, fun m i dl em hm _ ei hi hdl y8 G8 s8 k8 => ?_, nmod _, (fun m em hm hnu => by cases em; exact (hnu huS).elim), fun m em hm _ hne => by cases em; exact (hne 11 (by show _ < S.cnt n; omega) rfl).elim⟩
          cases em
          have ei : i = 11 := by injection ei with e; omega
          subst ei
          obtain ⟨l, hl, rfl⟩ := wins_get28 (show ((S.win n u).map winD)[11]? = some dl from hdl)
          rw [wn, wcol_at (by decide)] at hl
          cases hl
          have hC8 : CatAt K A.c_Catalog G8 L S.cs := Lay.At.same hCc s8
          have ob8 := CatAt.ob hC8
          repeat (walk_at "st")
          refine ⟨L, S.cs, .str n, .str n, u, .int 15, .int 15, rfl, hC8, .str n, .int _, lens, fun m i dl em hm _ ei hi hdl y9 G9 s9 k9 => ?_, nmod _, (fun m em hm hnu => by cases em; exact (hnu huS).elim), fun m em hm _ hne => by cases em; exact (hne 15 (by show _ < S.cnt n; omega) rfl).elim⟩
          cases em
          have ei : i = 15 := by injection ei with e; omega
          subst ei
          obtain ⟨l, hl, rfl⟩ := wins_get28 (show ((S.win n u).map winD)[15]? = some dl from hdl)
          rw [wn, wcol_at (by decide)] at hl
          cases hl
          repeat (walk_at "st")
          refine i_new fun p10 G10 n10 s10 e10 => ?_
          have w11 : wfar far 11 = (far + 11, some (far + 21)) := by
            unfold wfar
            rw [if_neg (by decide)]
            exact Prod.ext rfl (congrArg some (by omega))
          have w15 : wfar far 15 = (far + 15, none) := by
            unfold wfar
            rw [if_pos (by decide)]
            rfl
          rw [w11] at k8
          rw [w15] at k9
          have k8 : DaF false K G10 y8 (winD (far + 11, some (far + 21))) := (k8.same tp_same).same (s9.trans s10)
          have k9 : DaF false K G10 y9 (winD (far + 15, none)) := (k9.same tp_same).same s10
          repeat (walk_at "st")
          refine i_new fun p11 G11 n11 s11 e11 => ?_
          repeat (walk_at "st")
          refine i_new fun p12 G12 n12 s12 e12 => ?_
          repeat (walk_at "st")
          refine i_new fun p13 G13 n13 s13 e13 => ?_
          have dl : DaF false K G13 (.ref p10) (.list ([(far + 11, some (far + 21)), (far + 15, none)].map winD)) := Da.lst (SqL.of ((s11.trans (s12.trans s13)) _ _ e10)) (.cons (k8.same (s11.trans (s12.trans s13))) (.cons (k9.same (s11.trans (s12.trans s13))) .nil))
          have dr : DaF false K G13 (.ref p13) (.list ([(far + 11, some (far + 21)), (far + 15, none)].map winD)) := Da.lst (SqL.of e13) (.cons (.tup (SqT.of ((s12.trans s13) _ _ e11)) (.cons (.int _) (.cons (.int _) .nil))) (.cons (.tup (SqT.of (s13 _ _ e12)) (.cons (.int _) (.cons .non .nil))) .nil))
          refine i_neDsame dl dr (nd_wins _) (shaped_wins _) ?_
          repeat (walk_at "st")
          exact ⟨sdb.trans (s8.trans (s9.trans (s10.trans (s11.trans (s12.trans s13))))), _, _, rfl⟩
        · obtain ⟨sd, y5, y7, rfl⟩ := h
          repeat (walk_at "st")
          exact ⟨scb.trans ((s56.trans s7).trans sd), _, _, _, rfl⟩
      · obtain ⟨sc, y4, y5, y7, rfl⟩ := h
        repeat (walk_at "st")
        exact q far S Gz f0 (inv.congr (fun _ _ => rfl) (by omega)) (Lay.At.same hCa (s3.trans sc)) (fa.trans (Fr.of_same (s3.trans sc))) (Ra.same (s3.trans sc))

end

open PySem PySem.Spec PyProof.Rows L2




section
variable {P : Program} {w : World} {K : PySem.W.Frag} {mg : Str → Option Value} {base : Heap} {A : Ad}
/-! ### publish behind sixteen versions -/
section
variable {C CM CW CN CT : Addr} {G : Hp} {L : CL} {S : TS} {B far : Int} {n : Str} {a : Addr} {xs : List V} {Q : VK} {E : XK}
theorem pub_gen {w : Str → WT} (hC : CatAt K C G L S.cs) (ok : TOk S B) (hn : n ∈ S.ns) (c16 : S.cnt n = 16) (lg : S.log.length < 1000) (e : G a = some (.lst xs)) (fr : ¬ (CatY K C L S.cs).Own a) (hw : ∀ u ∈ S.us n, okW (w u)) (d : DaAllF false K G xs (((S.us n).map w).map winD))
    (q1 : (∀ u ∈ S.us n, fallW S n u (w u) = false) → Rz G E CT [("limit", .int 16), ("kind", .str "versions")])
    (q2 : ∀ (i : Nat) u, (S.us n)[i]? = some u → fallW S n u (w u) = true → (∀ (j : Nat) v, j < i → (S.us n)[j]? = some v → fallW S n v (w v) = false) → Rz G E CN [("used", .str u), ("user", .str n)]) :
    sp_publish K C CM CW CN CT [.ref L.p, .str n, .ref a] G Q E := by
  have nmod : ∀ z, modB S.cs (.str n) = false → z := fun z h => by rw [modB_str, decide_eq_true (show n ∈ S.cs.ns from hn)] at h; cases h
  have wl8 : ((((S.us n).map w).map winD)).length = (S.us n).length := by rw [List.length_map, List.length_map]
  have wg8 : ∀ d ∈ (((S.us n).map w).map winD), winB d = true := fun d hd => by
    obtain ⟨x, hx, rfl⟩ := List.mem_map.mp hd
    obtain ⟨u, hu, rfl⟩ := List.mem_map.mp hx
    exact winB_ok (hw u hu)
  have bn : badN (.list (((S.us n).map w).map winD)) ((S.us n).length : Nat) = none := by
    show (if ((((S.us n).map w).map winD).length : Int) = _ then _ else _) = _
    rw [wl8, if_pos rfl]
    exact badV_none wg8
  have fe := falls_eq (w := w) ok hn hw
  refine ⟨L, S.cs, .str n, .ref a, .str n, .list (((S.us n).map w).map winD), rfl, hC, .str n, Da.lst (SqL.of e) d, ok.us.n12, nmod _, fun m em hm => ?_⟩
  cases em
  refine ⟨fun o eo => ?_, fun ws ews hlen _ => ⟨a, xs, rfl, e, fr, ?_⟩⟩
  · rw [show (S.cs.us n).length = (S.us n).length from rfl, bn] at eo; cases eo
  cases ews
  refine ⟨DaAllF.da d, by show S.cnt n ≤ 16; omega, ok.us.few hn, lg, fun u hu => ⟨?_, fun d hd => ?_⟩, fun hf hlt => ?_, fun hf h16 => q1 fun u hu => ?_, fun i u hf hb hu => q2 i u hu ?_ fun j v hj hv => ?_⟩
  · show ((S.win n u).map winD).length ≤ 500
    rw [List.length_map, ok.wl n hn u hu]; omega
  · obtain ⟨x, hx, rfl⟩ := List.mem_map.mp (show d ∈ (S.win n u).map winD from hd)
    exact winB_ok (ok.wb n hn u hu x hx).1
  · have hlt : S.cnt n < 16 := hlt
    omega
  · rw [fe] at hf
    exact hf _ (List.mem_map.mpr ⟨u, hu, rfl⟩)
  · rw [fe, List.getElem?_map, show (S.us n)[i]? = some u from hu] at hf
    exact Option.some.inj hf
  · rw [fe] at hb
    have z := hb j hj
    rw [List.getElem?_map, hv] at z
    exact Option.some.inj z
theorem wfar_ok {far : Int} (f0 : 0 ≤ far) : okW (wfar far 15) := (wfar_bd f0 15 (by decide)).1
theorem fall15 {u : Str} (hw : S.win n u = wcol far 16) : fallW S n u (wfar far 15) = false := by
  unfold fallW
  rw [hw, wcol_add, List.getLast?_concat]
  show (!risesW (wfar far 15) (wfar far 15)) = false
  rw [wfar_same]; rfl
theorem fall00 {u : Str} (f0 : 0 ≤ far) (hw : S.win n u = wcol far 16) : fallW S n u (0, some 0) = true := by
  unfold fallW
  rw [hw, wcol_add, List.getLast?_concat]
  show (!risesW (wfar far 15) (0, some 0)) = true
  unfold wfar risesW
  rw [if_pos (by decide)]
  simp
theorem pub_many (hC : CatAt K C G L S.cs) (ok : TOk S B) (hn : n ∈ S.ns) (c16 : S.cnt n = 16) (lg : S.log.length < 1000) (hw : ∀ u ∈ S.us n, S.win n u = wcol far 16) (f0 : 0 ≤ far) (e : G a = some (.lst xs)) (fr : ¬ (CatY K C L S.cs).Own a) (d : DaAllF false K G xs (((S.us n).map fun _ => wfar far 15).map winD))
    (q : Rz G E CT [("limit", .int 16), ("kind", .str "versions")]) : sp_publish K C CM CW CN CT [.ref L.p, .str n, .ref a] G Q E :=
  pub_gen (w := fun _ => wfar far 15) hC ok hn c16 lg e fr (fun _ _ => wfar_ok f0) d (fun _ => q) fun i u hu hf _ => by rw [fall15 (hw u (List.mem_of_getElem? hu))] at hf; cases hf
theorem map_init {us : List Str} {l : Str} (nd : us.Nodup) (hl : us.getLast? = some l) (w z : WT) : ((us.map fun u => if u = l then z else w).map winD) = ((us.map fun _ => w).map winD).dropLast ++ [winD z] := by
  obtain ⟨r, rfl⟩ : ∃ r, us = r ++ [l] := ⟨us.dropLast, by rw [List.getLast?_eq_some_iff] at hl; obtain ⟨r, e⟩ := hl; rw [e, List.dropLast_concat]⟩
  rw [List.nodup_append] at nd
  have ne : ∀ u ∈ r, u ≠ l := fun u hu z => nd.2.2 u hu l (by simp) z
  rw [List.map_append, List.map_append, List.map_append, List.map_append]
  rw [show (r.map fun u => if u = l then z else w) = r.map fun _ => w from List.map_congr_left fun u hu => if_neg (ne u hu)]
  rw [show ([l].map fun u => if u = l then z else w) = [z] from by simp]
  rw [show (([l].map fun _ => w).map winD) = [winD w] from rfl, List.dropLast_concat]
  rfl
theorem pub_falls {l : Str} (hC : CatAt K C G L S.cs) (ok : TOk S B) (hn : n ∈ S.ns) (c16 : S.cnt n = 16) (lg : S.log.length < 1000) (hw : ∀ u ∈ S.us n, S.win n u = wcol far 16) (f0 : 0 ≤ far) (e : G a = some (.lst xs)) (fr : ¬ (CatY K C L S.cs).Own a) (hl : (S.us n).getLast? = some l) (d : DaAllF false K G xs ((((S.us n).map fun _ => wfar far 15).map winD).dropLast ++ [winD (0, some 0)]))
    (q : Rz G E CN [("used", .str l), ("user", .str n)]) : sp_publish K C CM CW CN CT [.ref L.p, .str n, .ref a] G Q E := by
  have nd := ok.us.und n hn
  have lm : l ∈ S.us n := List.mem_of_getLast? hl
  refine pub_gen (w := fun u => if u = l then (0, some 0) else wfar far 15) hC ok hn c16 lg e fr (fun u hu => ?_) (by rw [map_init nd hl]; exact d) (fun h => ?_) fun i u hu hf hb => ?_
  · split
    · exact ⟨by decide, fun h z => by cases z; decide⟩
    · exact wfar_ok f0
  · have z := h l lm
    rw [if_pos rfl, fall00 f0 (hw l lm)] at z
    cases z
  · by_cases e : u = l
    · rw [e]; exact q
    · rw [if_neg e, fall15 (hw u (List.mem_of_getElem? hu))] at hf; cases hf
theorem pub_short {ws : List WT} (hC : CatAt K C G L S.cs) (n12 : S.ns.length ≤ 12) (hn : n ∈ S.ns) (e : G a = some (.lst xs)) (d : DaAllF false K G xs (ws.map winD)) (hl : ws.length ≠ (S.us n).length) (q : Rz G E CW [("position", .non)]) : sp_publish K C CM CW CN CT [.ref L.p, .str n, .ref a] G Q E := by
  have nmod : ∀ z, modB S.cs (.str n) = false → z := fun z h => by rw [modB_str, decide_eq_true (show n ∈ S.cs.ns from hn)] at h; cases h
  refine ⟨L, S.cs, .str n, .ref a, .str n, .list (ws.map winD), rfl, hC, .str n, Da.lst (SqL.of e) d, n12, nmod _, fun m em hm => ?_⟩
  cases em
  refine ⟨fun o eo => ?_, fun wz ews hlen _ => ?_⟩
  · have bn : badN (.list (ws.map winD)) ((S.cs.us n).length : Nat) = some .non := by
      show (if ((ws.map winD).length : Int) = ((S.us n).length : Nat) then _ else _) = _
      rw [List.length_map, if_neg (by omega)]
    rw [bn] at eo
    cases eo
    exact q
  · cases ews
    rw [List.length_map] at hlen
    exact (hl hlen).elim
end

end

open PySem PySem.Spec PyProof.Rows L2




section
variable {P : Program} {w : World} {K : PySem.W.Frag} {mg : Str → Option Value} {base : Heap} {A : Ad}
theorem extN_tp {H H' : Hp} (x : LamX.ExtN H H') : LamX.ExtN (tp H) (tp H') := fun b o e n => tp_get (x b o (tp_same _ _ e) n) (tp_mut e)
/-- a layout without tables stays over a lambda's laying -/
theorem Lay.At.extN {R : Type} {Y : Lay R} {H H' : Hp} (h : Y.At H) (x : LamX.ExtN H H') (nt : ∀ T r o, Y.is T r o → ∀ ps, o ≠ .tbl ps) (mono : ∀ r o, Y.is (tp H) r o → Y.is (tp H') r o) : Y.At H' := ⟨fun r k => by
  obtain ⟨o, g, i⟩ := h.get r k
  exact ⟨o, x _ _ g (nt _ _ _ i), mono r o i⟩, h.inj⟩
theorem WorldAt.extN {K : PySem.W.Frag} {H H' : Hp} {L : WL} {S : CS} (h : WorldAt K H L S) (x : LamX.ExtN H H') : WorldAt K H' L S := Lay.At.extN h x (fun T r o i ps e => by
  subst e
  cases r with
  | col m u => obtain ⟨vs, e, _⟩ := i; cases e
  | _ => cases (show _ = _ from i)) fun r o i => by
  cases r with
  | col m u => obtain ⟨vs, e, d⟩ := i; exact ⟨vs, e, DaAllF.same (extN_ntH (extN_tp x)) d.nt⟩
  | _ => exact i
theorem CatAt.extN {K : PySem.W.Frag} {C : Addr} {H H' : Hp} {L : CL} {S : CS} (h : CatAt K C H L S) (x : LamX.ExtN H H') : CatAt K C H' L S := Lay.At.extN h x (fun T r o i ps e => by
  subst e
  cases r with
  | col m u => obtain ⟨vs, e, _⟩ := i; cases e
  | log => obtain ⟨vs, e, _⟩ := i; cases e
  | use => cases i.1
  | _ => cases (show _ = _ from i)) fun r o i => by
  cases r with
  | col m u => obtain ⟨vs, e, d⟩ := i; exact ⟨vs, e, DaAllF.same (extN_ntH (extN_tp x)) d.nt⟩
  | log => obtain ⟨vs, e, d⟩ := i; exact ⟨vs, e, DaAllF.same (extN_ntH (extN_tp x)) d.nt⟩
  | use => exact ⟨i.1, fun n hn => extN_tp x _ _ (i.2 n hn) (fun ps z => by cases z)⟩
  | _ => exact i

/-- all but the tables and what stands at r is as it was -/
def XOff (r : Addr) (H H' : Hp) : Prop := ∀ b o, b ≠ r → H b = some o → noTbl o = true → H' b = some o
theorem XOff.thenO {r : Addr} {H G G' : Hp} (o : Off r G G') (x : XOff r H G) : XOff r H G' := fun b u n h k => o b u n (x b u n h k)
theorem XOff.thenX {r : Addr} {H G G' : Hp} (y : LamX.ExtN G G') (x : XOff r H G) : XOff r H G' := fun b u n h k => extN_get y (x b u n h k) k
theorem XOff.trans {r : Addr} {H G G' : Hp} (x : XOff r H G) (y : XOff r G G') : XOff r H G' := fun b u n h k => y b u n (x b u n h k) k
theorem XOff.ext {r : Addr} {H G : Hp} (x : XOff r H G) (n : H r = none) : LamX.ExtN H G := fun b u h k => by
  refine x b u (ne_of_none h n) h ?_
  cases u with
  | tbl ps => exact (k ps rfl).elim
  | _ => rfl
theorem tabs_rng {T : List (Addr × Str)} {G G' : Hp} {r : Addr} (t : LamX.Tabs T G) (h : Rok G r) (o : Off r G G') : LamX.Tabs T G' := by
  obtain ⟨a, b, e, _⟩ := h
  exact tabs_off t e o
theorem Same.off {r : Addr} {H H' : Hp} (s : Same H H') : Off r H H' := Off.of_same s
/-- nothing but a table stands there -/
def Fre (H : Hp) (D : Addr) : Prop := ∀ o, H D = some o → noTbl o = false
theorem Fre.of {H H0 : Hp} {D : Addr} (x : LamX.ExtN H H0) (n : H0 D = none) : Fre H D := fun o e => by
  cases z : noTbl o with
  | false => rfl
  | true => have := extN_get x e z; rw [n] at this; cases this
theorem Fre.ne {H : Hp} {D p : Addr} {o : HO} (f : Fre H D) (e : H p = some o) (n : noTbl o = true := by rfl) : p ≠ D := fun z => by
  subst z
  have := f _ e
  rw [n] at this; cases this
theorem Fre.off {H G G' : Hp} {D : Addr} (f : Fre H D) (x : LamX.ExtN H G) (o : Off D G G') : LamX.ExtN H G' := fun b u h k => by
  have n : noTbl u = true := by
    cases u with
    | tbl ps => exact (k ps rfl).elim
    | _ => rfl
  exact o b u (f.ne h n) (x b u h k)
theorem Fre.back {H H0 : Hp} {D : Addr} (x : LamX.ExtN H H0) (f : Fre H0 D) : Fre H D := fun o e => by
  cases z : noTbl o with
  | false => rfl
  | true => have := f _ (extN_get x e z); rw [z] at this; cases this
theorem tabs_off2 {T : List (Addr × Str)} {G G' : Hp} {p : Addr} {u : HO} (t : LamX.Tabs T G) (e : G p = some u) (mu : mutO u = true) (o : Off p G G') : LamX.Tabs T G' := fun q hq => by
  obtain ⟨ps, h1, h2, h3⟩ := t q hq
  refine ⟨ps, o _ _ (fun z => by rw [z, e] at h1; cases h1; cases mu) h1, h2, fun pos cv hc => ?_⟩
  obtain ⟨c, e1, e2⟩ := h3 pos cv hc
  exact ⟨c, e1, o _ _ (fun z => by rw [z, e] at e2; cases e2; cases mu) e2⟩

/-! ### _law_right of k28 -/
theorem XOff.fr {r : Addr} {D : Addr → Prop} {H G G' : Hp} (o : XOff r H G) (f : Fr D G G') (d : ∀ a, D a → a = r ∨ H a = none) : XOff r H G' :=
  fun b x n e k => f b x (fun z => (d b z).elim n fun y => by rw [y] at e; cases e) (o b x n e k)
theorem tabs_fr {T : List (Addr × Str)} {G G' : Hp} {D : Addr → Prop} (t : LamX.Tabs T G) (m : Mv D G) (f : Fr D G G') : LamX.Tabs T G' := fun q hq => by
  obtain ⟨ps, h1, h2, h3⟩ := t q hq
  have key : ∀ {b : Addr} {u : HO}, G b = some u → mutO u = false → G' b = some u := fun {b u} e z => f _ _ (fun d => by
    obtain ⟨o, e2, m2⟩ := m b d
    rw [e] at e2; cases e2; rw [z] at m2; cases m2) e
  refine ⟨ps, key h1 rfl, h2, fun pos cv hc => ?_⟩
  obtain ⟨c, e1, e2⟩ := h3 pos cv hc
  exact ⟨c, e1, key e2 rfl⟩
theorem cutV_init {xs : List V} : cutV xs none (some (-1)) = xs.dropLast := by
  unfold cutV HT.sIx
  dsimp only
  rw [List.drop_zero, Nat.sub_zero, List.dropLast_eq_take]
  congr 1
  split <;> omega
theorem da_snoc {b : Bool} {K : PySem.W.Frag} {H : Hp} : ∀ {vs : List V} {ds : List PyData} {v : V} {d : PyData}, DaAllF b K H vs ds → DaF b K H v d → DaAllF b K H (vs ++ [v]) (ds ++ [d])
  | _, _, _, _, .nil, h => .cons h .nil
  | _, _, _, _, .cons a t, h => .cons a (da_snoc t h)
theorem da_dropLast {b : Bool} {K : PySem.W.Frag} {H : Hp} : ∀ {vs : List V} {ds : List PyData}, DaAllF b K H vs ds → DaAllF b K H vs.dropLast ds.dropLast
  | _, _, .nil => .nil
  | _, _, .cons a .nil => .nil
  | _, _, .cons a (.cons b t) => .cons a (da_dropLast (.cons b t))
theorem da_ext {b : Bool} {K : PySem.W.Frag} {H H' : Hp} {vs : List V} {ds : List PyData} (d : DaAllF b K H vs ds) (x : LamX.ExtN H H') : DaAllF b K H' vs ds := DaAllF.same (extN_ntH x) d.nt
theorem falls_shw {n u : Str} (h : nameB (.str n) = true) (k : nameB (.str u) = true) : Shw (fallsD n u) :=
  (Sh.lst (ds := [.str "falls", .str n, .str u]) (n := 82) (k := 0) fun d hd => by
    simp only [List.mem_cons, List.not_mem_nil, or_false] at hd
    rcases hd with rfl | rfl | rfl
    · exact ⟨by decide +kernel, by decide +kernel, by decide +kernel⟩
    · exact name_sh h
    · exact name_sh k).shw (by show 3 * (82 + 2) + 2 ≤ 16777216; decide) (by decide)
theorem atI_strs {l : List Str} {u : Str} (h : l.getLast? = some u) : atI (strsV l) (-1) = some (.str u) := by
  obtain ⟨r, rfl⟩ : ∃ r, l = r ++ [u] := by rw [List.getLast?_eq_some_iff] at h; exact h
  unfold strsV
  rw [List.map_append]
  exact atI_last _ _
theorem paired_tab {h : Hp} : ∀ {ms : List Str} {ys : List V}, ms.Nodup → Paired (fun (n : Str) (y : V) => ∃ b c, y = .ref b ∧ h b = some (.tup [.str n, .ref c]) ∧ h c = some (.tup [])) ms ys →
    ∃ (ps : List Addr) (tu : Str → Addr), ys = ps.map V.ref ∧ Paired (fun p (kv : Key × V) => h p = some (.tup [kV kv.1, kv.2])) ps (tabS ms fun n => .ref (tu n)) ∧ ∀ n ∈ ms, h (tu n) = some (.tup [])
  | _, _, _, .nil => ⟨[], fun _ => 0, rfl, .nil, fun _ h => nomatch h⟩
  | m :: ms, _, nd, .cons ⟨b, c, e, h1, h2⟩ t => by
    rw [List.nodup_cons] at nd
    obtain ⟨ps, tu, rfl, k1, k2⟩ := paired_tab nd.2 t
    subst e
    refine ⟨b :: ps, fun n => if n = m then c else tu n, rfl, ?_, fun n hn => ?_⟩
    · refine .cons (by show h b = some (.tup [.str m, .ref (if m = m then c else tu m)]); rw [if_pos rfl]; exact h1) ?_
      have z : (ms.map fun n => ((Sum.inr n : Key), V.ref (if n = m then c else tu n))) = tabS ms fun n => .ref (tu n) := List.map_congr_left fun n hn => by
        rw [if_neg (show ¬ n = m from fun e => nd.1 (by rw [← e]; exact hn))]
      show Paired _ ps (ms.map fun n => ((Sum.inr n : Key), V.ref (if n = m then c else tu n)))
      rw [z]; exact k1
    · dsimp only
      split
      · exact h2
      · next z => exact k2 n ((List.mem_cons.mp hn).resolve_left z)
theorem mergeK_tab {g : Str → V} : ∀ {zs pre : List Str}, (pre ++ zs).Nodup → mergeK (tabS pre g) (tabS zs g) = tabS (pre ++ zs) g
  | [], pre, _ => by rw [List.append_nil]; rfl
  | z :: zs, pre, nd => by
    have nin : ¬ z ∈ pre := fun h => by
      rw [List.nodup_append] at nd
      exact nd.2.2 z h z (by simp) rfl
    show mergeK (putK (tabS pre g) (.inr z) (g z)) (tabS zs g) = _
    rw [tabS_add nin, mergeK_tab (by rw [List.append_assoc]; exact nd), List.append_assoc]
    rfl
def sp_rightT (A : Ad) : Sp := fun vs H Q _ => ∃ r, vs = [.ref r] ∧ Rok H r ∧ LamX.Tabs (TT A) H ∧ ∀ H', XOff r H H' → LamX.Tabs (TT A) H' → Q (.bl true) H'
theorem ok_l_right (T : Txt K mg A) (TB : TBs base mg A) (G_l_names : Fg P w K mg base CX0 3 A.f_l_names A.d_l_names ["_law_rng_here", "_law_many", "_law_used"] (sp_l_names K)) (G_l_uses : Fg P w K mg base CX0 4 A.f_l_uses A.d_l_uses ["_law_names_here", "_law_many"] (sp_uses28 K)) (G_Catalogx_initx : FnOk P w K mg base (L2.CX P w) 4 A.f_Catalogx_initx A.d_Catalogx_initx ["self", "uses"] (sp_cinit K A.c_Catalog A.c_TooMany)) (G_Catalogx_lenx : FnOk P w K mg base CX0 1 A.f_Catalogx_lenx A.d_Catalogx_lenx ["self"] (sp_len K A.c_Catalog)) (G_Catalog_uses : FnOk P w K mg base (L2.CX P w) 4 A.f_Catalog_uses A.d_Catalog_uses ["self", "module"] (spM K A.c_Catalog A.c_UnknownModule fun S n H Q => retL (strsV (S.us n)) H Q)) (G_l_filled : Fg P w K mg base CX0 8 A.f_l_filled A.d_l_filled ["_law_rng_here", "_law_catalog"] (sp_filled28 K A.c_Catalog)) (G_l_choice : Fg P w K mg base CX0 2 A.f_l_choice A.d_l_choice ["_law_rng_here", "_law_options"] sp_l_choice) (G_Catalog_clone : FnOk P w K mg base CX0 6 A.f_Catalog_clone A.d_Catalog_clone ["self"] (sp_clone K A.c_Catalog)) (G_Catalog_window : FnOk P w K mg base (L2.CX P w) 4 A.f_Catalog_window A.d_Catalog_window ["self", "user", "used", "version"] (sp_window K A.c_Catalog A.c_UnknownModule A.c_UnknownUse A.c_UnknownVersion)) (G_Catalog_publish : FnOk P w K mg base (L2.CX P w) 6 A.f_Catalog_publish A.d_Catalog_publish ["self", "module", "windows"] (sp_publish K A.c_Catalog A.c_UnknownModule A.c_InvalidWindows A.c_NotRising A.c_TooMany)) (G_Catalogx_eqx : FnOk P w K mg base CX0 3 A.f_Catalogx_eqx A.d_Catalogx_eqx ["self", "other"] (sp_eqG K A.c_Catalog)) (G_Catalog_withdraw : FnOk P w K mg base (L2.CX P w) 5 A.f_Catalog_withdraw A.d_Catalog_withdraw ["self", "module", "version"] (sp_withdraw K A.c_Catalog A.c_UnknownModule A.c_UnknownVersion)) : Fg P w K mg base CX0 10 A.f_l_right A.d_l_right ["_law_rng_here"] (sp_rightT A) := by
  refine ok_gC T.C_l_right sc_l_right (fun vs H Q E h => ?_) (fun Ar outer s H vs Q E hr h => ?_)
  · obtain ⟨_, rfl, _⟩ := h; rfl
  · obtain ⟨r, rfl, hR, tabs, q⟩ := h
    refine ⟨_, (pss_cons (ps_set (i := 7) sc_l_right.nd rfl (.inr rfl) (pe_call G_l_names (hr.mono (by decide)) (by rfl) T.g_l_names T.F_l_names.kp T.b_l_names .nil pass0 (pa_cons (pv 0) (pa_cons pe_int (pa_cons (pe_lst pa_nil) pa_nil)))))
(pss_cons (ps_set (i := 3) sc_l_right.nd rfl (.inr rfl) (pe_makeC T.mk_Catalog G_Catalogx_initx (hr.room.mono (by decide)) (by rfl) T.gX_Catalog T.b_Catalogx_initx passL (pa_cons (pe_call G_l_uses (hr.mono (by decide)) (by rfl) T.g_l_uses T.F_l_uses.kp T.b_l_uses .nil pass0 (pa_cons (pe_slice (sl_listK (K := K) (by rfl)) (pv 7) po_none (po_some pe_int)) (pa_cons pe_int pa_nil))) pa_nil)))
(pss_cons (ps_if (PW.pt (pw_or (pt_cmpR op_ne (pe_callB (call_lenO T.mt_Catalogx_lenx.at_ T.mt_Catalogx_lenx.fn G_Catalogx_lenx (hr.room.mono (by decide)) T.b_Catalogx_lenx pass0) (by rfl) T.m_len (by decide +kernel) (pa_cons (pv 3) pa_nil)) pe_int (nomark _)) (pw_or1 (pt_cmpR op_ne (pe_callB (cr_sum rfl) (by rfl) T.m_sum (by decide +kernel) (pa_cons (pe_lc (own := [("_law_name_here", 1)]) rfl sc_l_right.nd (pi_list (pe_slice (sl_listK (K := K) (by rfl)) (pv 7) po_none (po_some pe_int))) (blkOk_by (own := [("_law_name_here", 1)]) (N := ["_law_rng_here", "_law_name_here", "_law_kept", "_law_catalog", "_law_falling", "_law_good", "_law_more", "_law_names_here", "_law_used", "_law_one"]) (sc := defScope s_l_right) (by decide +kernel)) (fun _ _ _ _ _ => (pg_name (i := 1) sc_l_right.nd rfl (.inl rfl))) (fun _ _ _ _ _ => pts_nil) (fun _ _ _ _ _ => (pe_callB (call_lenNK (K := K) (by rfl)) (by rfl) T.m_len (by decide +kernel) (pa_cons (pe_methC T.cl_Catalog T.mt_Catalog_uses G_Catalog_uses (hr.room.mono (by decide)) T.b_Catalog_uses passL (pv 3) (pa_cons (pv 1) pa_nil)) pa_nil)))) pa_nil)) pe_int (nomark _)))))
(pss_one (ps_ret pe_bl))
pss_nil)
(pss_cons (ps_if (pt_not (pt_val (pe_call G_l_filled (hr.mono (by decide)) (by rfl) T.g_l_filled T.F_l_filled.kp T.b_l_filled .nil pass0 (pa_cons (pv 0) (pa_cons (pv 3) pa_nil)))))
(pss_one (ps_ret pe_bl))
pss_nil)
(pss_cons (ps_asg (pe_tup (pa_cons (pe_call G_l_choice (hr.mono (by decide)) (by rfl) T.g_l_choice T.F_l_choice.kp T.b_l_choice .nil pass0 (pa_cons (pv 0) (pa_cons (pe_slice (sl_listK (K := K) (by rfl)) (pv 7) po_none (po_some pe_int)) pa_nil))) (pa_cons (pe_methC0 T.cl_Catalog T.mt_Catalog_clone G_Catalog_clone (hr.room.mono (by decide)) T.b_Catalog_clone pass0 (pv 3)) pa_nil))) (pg_tup rfl (pgs_cons (pg_name (i := 1) sc_l_right.nd rfl (.inr rfl)) (pgs_cons (pg_name (i := 2) sc_l_right.nd rfl (.inl rfl)) pgs_nil))))
(pss_cons (ps_asg (pe_lc (own := [("_law_used", 8)]) rfl sc_l_right.nd (pi_list (pe_methC T.cl_Catalog T.mt_Catalog_uses G_Catalog_uses (hr.room.mono (by decide)) T.b_Catalog_uses passL (pv 3) (pa_cons (pv 1) pa_nil))) (blkOk_by (own := [("_law_used", 8)]) (N := ["_law_rng_here", "_law_name_here", "_law_kept", "_law_catalog", "_law_falling", "_law_good", "_law_more", "_law_names_here", "_law_used", "_law_one"]) (sc := defScope s_l_right) (by decide +kernel)) (fun _ _ _ _ _ => (pg_name (i := 8) sc_l_right.nd rfl (.inl rfl))) (fun _ _ _ _ _ => pts_nil) (fun _ _ _ _ _ => (pe_methC T.cl_Catalog T.mt_Catalog_window G_Catalog_window (hr.room.mono (by decide)) T.b_Catalog_window passL (pv 3) (pa_cons (pv 1) (pa_cons (pv 8) (pa_cons pe_int pa_nil)))))) (pg_name (i := 5) sc_l_right.nd rfl (.inr rfl)))
(pss_cons (ps_set (i := 4) sc_l_right.nd rfl (.inr rfl) (pe_op op_cat (pe_slice (sl_listK (K := K) (by rfl)) (pv 5) po_none (po_some (pe_un un_neg pe_int))) (pe_lst (pa_cons (Lit.pe (Lit.tup (LitAll.cons Lit.int (LitAll.cons Lit.int LitAll.nil)) (by decide))) pa_nil))))
(pss_cons (ps_if (pt_cmpR op_ne (pe_lamG (T := TT A) T.F_l_told (by rfl) T.g_l_told T.b_l_told sc_l_told rfl (.inl rfl) (gives_l_told T _) TB.p_l_right rfl (.head _) (one_l_right T) (hr.mono (by decide)) (LamX.lamS_by (show LamX.lamSB (defScope s_l_right) _ = true by decide +kernel)) rfl (fun _ _ _ _ _ => rfl) (fun _ _ _ _ _ _ _ hr => (pe_methC T.cl_Catalog T.mt_Catalog_publish G_Catalog_publish (hr.room.mono (by decide)) T.b_Catalog_publish passLam (pv 3) (pa_cons (pv 1) (pa_cons (pv 5) pa_nil))))) (pe_callB (call_reprE T.sys (hr.mono (by decide))) (by rfl) T.m_repr (by decide +kernel) (pa_cons (Lit.pe (Lit.lst (LitAll.cons Lit.str (LitAll.cons Lit.str (LitAll.cons Lit.int LitAll.nil))) (by decide))) pa_nil)) (nomark _))
(pss_one (ps_ret pe_bl))
pss_nil)
(pss_cons (ps_if (pt_cmpR op_ne (pe_lamG (T := TT A) T.F_l_told (by rfl) T.g_l_told T.b_l_told sc_l_told rfl (.inl rfl) (gives_l_told T _) TB.p_l_right rfl (.head _) (one_l_right T) (hr.mono (by decide)) (LamX.lamS_by (show LamX.lamSB (defScope s_l_right) _ = true by decide +kernel)) rfl (fun _ _ _ _ _ => rfl) (fun _ _ _ _ _ _ _ hr => (pe_methC T.cl_Catalog T.mt_Catalog_publish G_Catalog_publish (hr.room.mono (by decide)) T.b_Catalog_publish passLam (pv 3) (pa_cons (pv 1) (pa_cons (pv 4) pa_nil))))) (pe_callB (call_reprE T.sys (hr.mono (by decide))) (by rfl) T.m_repr (by decide +kernel) (pa_cons (pe_lst (pa_cons pe_str (pa_cons (pv 1) (pa_cons (pe_ix ix_list (pe_methC T.cl_Catalog T.mt_Catalog_uses G_Catalog_uses (hr.room.mono (by decide)) T.b_Catalog_uses passL (pv 3) (pa_cons (pv 1) pa_nil)) (pe_un un_neg pe_int) (fun _ _ => rfl)) pa_nil)))) pa_nil)) (nomark _))
(pss_one (ps_ret pe_bl))
pss_nil)
(pss_cons (ps_if (PW.pt (pw_or (pt_cmpR op_ne (pe_lamG (T := TT A) T.F_l_told (by rfl) T.g_l_told T.b_l_told sc_l_told rfl (.inl rfl) (gives_l_told T _) TB.p_l_right rfl (.head _) (one_l_right T) (hr.mono (by decide)) (LamX.lamS_by (show LamX.lamSB (defScope s_l_right) _ = true by decide +kernel)) rfl (fun _ _ _ _ _ => rfl) (fun _ _ _ _ _ _ _ hr => (pe_methC T.cl_Catalog T.mt_Catalog_publish G_Catalog_publish (hr.room.mono (by decide)) T.b_Catalog_publish passLam (pv 3) (pa_cons (pv 1) (pa_cons (pe_slice (sl_listK (K := K) (by rfl)) (pv 5) po_none (po_some (pe_un un_neg pe_int))) pa_nil))))) (pe_callB (call_reprE T.sys (hr.mono (by decide))) (by rfl) T.m_repr (by decide +kernel) (pa_cons (Lit.pe (Lit.lst (LitAll.cons Lit.str (LitAll.cons Lit.non LitAll.nil)) (by decide))) pa_nil)) (nomark _)) (pw_or1 (pt_cmpR (op_neO T.neq_Catalog T.ic_Catalog T.mt_Catalogx_eqx.at_ T.mt_Catalogx_eqx.fn G_Catalogx_eqx (hr.room.mono (by decide)) T.b_Catalogx_eqx pass0) (pv 3) (pv 2) (nomark _)))))
(pss_one (ps_ret pe_bl))
pss_nil)
(pss_cons (ps_set (i := 6) sc_l_right.nd rfl (.inr rfl) (pe_callTy (call_dictPN rfl) (by rfl) T.m_dict (by decide +kernel) (pa_cons (pe_lc (own := [("_law_one", 9)]) rfl sc_l_right.nd (pi_list (pv 7)) (blkOk_by (own := [("_law_one", 9)]) (N := ["_law_rng_here", "_law_name_here", "_law_kept", "_law_catalog", "_law_falling", "_law_good", "_law_more", "_law_names_here", "_law_used", "_law_one"]) (sc := defScope s_l_right) (by decide +kernel)) (fun _ _ _ _ _ => (pg_name (i := 9) sc_l_right.nd rfl (.inl rfl))) (fun _ _ _ _ _ => pts_nil) (fun _ _ _ _ _ => (pe_tup (pa_cons (pv 9) (pa_cons (pe_tup pa_nil) pa_nil))))) pa_nil)))
(pss_cons (ps_if (pt_cmpR op_ne (pe_lamG (T := TT A) T.F_l_told (by rfl) T.g_l_told T.b_l_told sc_l_told rfl (.inl rfl) (gives_l_told T _) TB.p_l_right rfl (.head _) (one_l_right T) (hr.mono (by decide)) (LamX.lamS_by (show LamX.lamSB (defScope s_l_right) _ = true by decide +kernel)) rfl (fun _ _ _ _ _ => rfl) (fun _ _ _ _ _ _ _ hr => (pe_makeC T.mk_Catalog G_Catalogx_initx (hr.room.mono (by decide)) (by rfl) T.gX_Catalog T.b_Catalogx_initx passLam (pa_cons (pv 6) pa_nil)))) (pe_callB (call_reprE T.sys (hr.mono (by decide))) (by rfl) T.m_repr (by decide +kernel) (pa_cons (Lit.pe (Lit.lst (LitAll.cons Lit.str (LitAll.cons Lit.str (LitAll.cons Lit.int LitAll.nil))) (by decide))) pa_nil)) (nomark _))
(pss_one (ps_ret pe_bl))
pss_nil)
(pss_cons (ps_if (pt_cmpR op_ne (pe_lamG (T := TT A) T.F_l_told (by rfl) T.g_l_told T.b_l_told sc_l_told rfl (.inl rfl) (gives_l_told T _) TB.p_l_right rfl (.head _) (one_l_right T) (hr.mono (by decide)) (LamX.lamS_by (show LamX.lamSB (defScope s_l_right) _ = true by decide +kernel)) rfl (fun _ _ _ _ _ => rfl) (fun _ _ _ _ _ _ _ hr => (pe_makeC T.mk_Catalog G_Catalogx_initx (hr.room.mono (by decide)) (by rfl) T.gX_Catalog T.b_Catalogx_initx passLam (pa_cons (pe_call G_l_uses (hr.mono (by decide)) (by rfl) T.g_l_uses T.F_l_uses.kp T.b_l_uses .nil pass0 (pa_cons (pe_slice (sl_listK (K := K) (by rfl)) (pv 7) po_none (po_some pe_int)) (pa_cons pe_int pa_nil))) pa_nil)))) (pe_callB (call_reprE T.sys (hr.mono (by decide))) (by rfl) T.m_repr (by decide +kernel) (pa_cons (Lit.pe (Lit.lst (LitAll.cons Lit.str (LitAll.cons Lit.str (LitAll.cons Lit.int LitAll.nil))) (by decide))) pa_nil)) (nomark _))
(pss_one (ps_ret pe_bl))
pss_nil)
(pss_cons (ps_expr (pe_methC T.cl_Catalog T.mt_Catalog_withdraw G_Catalog_withdraw (hr.room.mono (by decide)) T.b_Catalog_withdraw passL (pv 3) (pa_cons (pv 1) (pa_cons pe_int pa_nil))))
(pss_one (ps_ret (pe_cmpR op_eq (pe_lamG (T := TT A) T.F_l_told (by rfl) T.g_l_told T.b_l_told sc_l_told rfl (.inl rfl) (gives_l_told T _) TB.p_l_right rfl (.head _) (one_l_right T) (hr.mono (by decide)) (LamX.lamS_by (show LamX.lamSB (defScope s_l_right) _ = true by decide +kernel)) rfl (fun _ _ _ _ _ => rfl) (fun _ _ _ _ _ _ _ hr => (pe_methC T.cl_Catalog T.mt_Catalog_publish G_Catalog_publish (hr.room.mono (by decide)) T.b_Catalog_publish passLam (pv 3) (pa_cons (pv 1) (pa_cons (pv 5) pa_nil))))) (pe_callB (call_reprE T.sys (hr.mono (by decide))) (by rfl) T.m_repr (by decide +kernel) (pa_cons (Lit.pe (Lit.lst (LitAll.cons Lit.str (LitAll.cons Lit.str (LitAll.cons Lit.int LitAll.nil))) (by decide))) pa_nil)) (nomark _)))))))))))))))))), ?_⟩
    repeat (walk_at "st")
    refine i_new fun p1 G1 n1 s1 e1 => ?_
    have R1 := hR.same s1
    repeat (walk_at "st")
    refine ⟨r, p1, [], 13, rfl, e1, Rok.ne hR n1, by decide, by decide, by decide, R1, fun p ms G2 n2 pr o2 r2 e2 ml mnd mok => ?_⟩
    have ml : ms.length = 13 := ml
    have mnm : ∀ n ∈ ms, nameB (.str n) = true := fun n hn => (mok n hn).1
    have o02 : Off r H G2 := (Off.of_same s1).trans o2
    have t2 := tabs_rng tabs hR o02
    clear n1 s1 e1 o2 mok R1
    repeat (walk_at "st")
    refine i_new fun p3 G3 n3 s3 e3 => ?_
    rw [cutV_to (by decide), show (strsV ms).take (12 : Int).toNat = strsV (ms.take 12) from by unfold strsV; rw [List.map_take]; rfl] at e3
    have l12 : (ms.take 12).length = 12 := by rw [List.length_take, ml]; rfl
    have nd12 : (ms.take 12).Nodup := mnd.sublist (List.take_sublist _ _)
    have nm12 : ∀ n ∈ ms.take 12, nameB (.str n) = true := fun n hn => mnm n (List.mem_of_mem_take hn)
    repeat (walk_at "st")
    generalize hns : ms.take 12 = ns at *
    refine ⟨p3, 40, ns, rfl, e3, l12, nd12, by decide, fun d tu G4 n4 s4 hU => ?_⟩
    have okW : UsW ns (usU ns 40) := usW_U l12 nd12 nm12
    have u40 := usU_40 l12 nd12
    have okU : UsOk ns (usU ns 40) := okW.ok (by omega) (by omega)
    have us34 : ∀ n ∈ ns, 0 < (usU ns 40 n).length := fun n hn => by
      unfold usU
      rw [List.length_map, List.length_range]
      have := (szU_le 40 (posN ns n)).1
      omega
    generalize usU ns 40 = us at *
    have e4 := s4 _ _ (s3 _ _ e2)
    have o04 : Off r H G4 := o02.trans (.of_same (s3.trans s4))
    have r4 := r2.same (s3.trans s4)
    have t4 := tabs_same (s3.trans s4) t2
    clear e2 o02 r2 t2 s3 s4 n3 e3 n4
    repeat (walk_at "st")
    refine i_make fun a dx Gm na ndx nea sm em => ?_
    refine ⟨a, d, dx, tu, ns, us, rfl, em, ⟨sm _ _ hU.tab, fun n hn => sm _ _ (hU.tup n hn)⟩, okW, fun _ _ L Gi eL eT oi hx hC => ⟨rfl, ?_⟩, fun z => absurd z (by omega), fun _ z => absurd z (by omega)⟩
    have hC : CatAt K A.c_Catalog Gi L (ts0 ns us).cs := hC
    have ra : r ≠ a := (Rok.ne r4 na).symm
    have Ri : Rok Gi r := (r4.same sm).off oi ra
    have ep : Gi p = some (.lst (strsV ms)) := oi.get (fun z => by rw [← z, e4] at na; cases na) (sm _ _ e4)
    have ti : LamX.Tabs (TT A) Gi := tabs_off2 (tabs_same sm t4) em rfl oi
    have own0 : ∀ b, (CatY K A.c_Catalog L (ts0 ns us).cs).Own b → G4 b = none := fun b ⟨x, kx, ex⟩ => by
      by_cases hob : x = .ob
      · subst hob
        have : L.p = b := ex
        rw [← this, eL]; exact na
      · have w := hx x kx hob
        rw [show L.at x = b from ex] at w
        exact none_of sm w
    have rC : ¬ (CatY K A.c_Catalog L (ts0 ns us).cs).Own r := fun z => by
      obtain ⟨_, _, e, _⟩ := id r4
      rw [own0 r z] at e; cases e
    have pC : ¬ (CatY K A.c_Catalog L (ts0 ns us).cs).Own p := fun z => by rw [own0 p z] at e4; cases e4
    have ownH : ∀ b, OwnR K A.c_Catalog L (ts0 ns us).cs r b → b = r ∨ H b = none := fun b z => z.imp id fun y => by
      by_cases e : b = r
      · exact (rC (e ▸ y)).elim
      · exact off_none o04 e (own0 b y)
    have xi : XOff r H Gi := fun b u nb hb _ => oi.get (fun z => by rw [← z, o04 b u nb hb] at na; cases na) (sm _ _ (o04 b u nb hb))
    have eLp : a = L.p := eL.symm
    subst eLp
    clear hx oi sm em nea ndx hU own0 na e4 o04 r4 t4
    have ob := CatAt.ob hC
    repeat (walk_at "st")
    refine i_rLenO ob ⟨L, (ts0 ns us).cs, rfl, hC, _, rfl, by omega, by show ((ns.length : Nat) : Int) < 2 ^ 63; omega, ?_⟩
    rw [show (ts0 ns us).cs.ns.length = 12 from l12]
    repeat (walk_at "st")
    rw [show (!decide (V.int ((12 : Nat) : Int) = V.int 12)) = false from by decide, if_neg (by decide)]
    repeat (walk_at "st")
    refine i_new fun p5 G5 n5 s5 e5 => ?_
    rw [cutV_to (by decide), show (strsV ms).take (12 : Int).toNat = strsV (ms.take 12) from by unfold strsV; rw [List.map_take]; rfl, hns] at e5
    repeat (walk_at "st")
    refine l_mq wk_list.q (fun i => .int ((us (ns.getD i default)).length : Nat)) (by rw [strsV_len, sizeLine_eq]; omega) (fun H' s => SqL.of (s _ _ e5)) (fun i x H' S hi hr s6 hS => ?_) (fun D6 G6 n6 s6 e6 => ?_)
    · rw [strsV_len] at hi
      rw [strsV_at hi] at hr
      cases hr
      have hn := getD_mem (d := default) hi
      generalize ns.getD i default = n at *
      have hC6 : CatAt K A.c_Catalog H' L (ts0 ns us).cs := Lay.At.same hC (s5.trans s6)
      have ob6 := CatAt.ob hC6
      have nmod : ∀ z, modB (ts0 ns us).cs (.str n) = false → z := fun z h => by rw [modB_str, decide_eq_true (show n ∈ (ts0 ns us).cs.ns from hn)] at h; cases h
      repeat (walk_at "st")
      refine ⟨L, (ts0 ns us).cs, .str n, .str n, rfl, hC6, .str n, fun m em hm => ?_, nmod _⟩
      cases em
      intro p7 G7 n7 s7 e7
      have e7 : G7 p7 = some (.lst (strsV (us n))) := e7
      repeat (walk_at "st")
      rw [strsV_len]
      exact hS _ s7
    · have ex : G6 D6 = some (.lst (((ns.map fun n => (us n).length).map fun k : Nat => (k : Int)).map V.int)) := by
        have z : (List.range ns.length).map (fun i => V.int ((us (ns.getD i default)).length : Nat)) = ns.map fun n => V.int ((us n).length : Nat) := by
          have w := congrArg (List.map fun n => V.int ((us n).length : Nat)) (range_pick (d := default) ns)
          rw [List.map_map] at w
          exact w
        rw [e6, strsV_len, z, List.map_map, List.map_map]; rfl
      repeat (walk_at "st")
      refine i_rSum (SqL.of ex) ?_
      rw [sum_cast, u40]
      repeat (walk_at "st")
      rw [show (!decide (V.int ((40 : Nat) : Int) = V.int 40)) = false from by decide, if_neg (by decide)]
      repeat (walk_at "st")
      have s06 : Same Gi G6 := s5.trans s6
      have hC6 : CatAt K A.c_Catalog G6 L (ts0 ns us).cs := Lay.At.same hC s06
      have R6 := Ri.same s06
      have mv6 : Mv (OwnR K A.c_Catalog L (ts0 ns us).cs r) G6 := fun b z => z.elim (fun e => by subst e; obtain ⟨x, y, e, _⟩ := R6; exact ⟨_, e, rfl⟩) fun y => Lay.At.mv hC6 b y
      have t6 := tabs_same s06 ti
      have x6 : XOff r H G6 := xi.thenO (.of_same s06)
      have ep6 := s06 _ _ ep
      have pD : ¬ OwnR K A.c_Catalog L (ts0 ns us).cs r p := fun z => z.elim pr pC
      clear e6 ex n6 e5 n5 s5 s6 s06 ep xi ti Ri hC ob
      refine ⟨r, L, ns, us, rfl, hC6, okU, R6, rC, fun far S Gf f0 inv hCf ff Rf => ?_⟩
      have tf : LamX.Tabs (TT A) Gf := tabs_fr t6 mv6 ff
      have xf : XOff r H Gf := x6.fr ff ownH
      have epf := ff _ _ pD ep6
      have own1 : ∀ {S' : TS}, S'.ns = ns → S'.us = us → ∀ b, (CatY K A.c_Catalog L S'.cs).Own b ↔ (CatY K A.c_Catalog L (ts0 ns us).cs).Own b := fun e1 e2 b => ownC_eq e1 e2
      have rCS : ¬ (CatY K A.c_Catalog L S.cs).Own r := fun z => rC ((own1 inv.en inv.eu _).mp z)
      clear hC6 R6 mv6 t6 x6 ep6 ff
      refine ⟨true, rfl, ?_⟩
      rw [Bool.not_true, if_neg (by decide)]
      repeat (walk_at "st")
      refine i_new fun p7 G7 n7 s7 e7 => ?_
      rw [cutV_to (by decide), show (strsV ms).take (12 : Int).toNat = strsV (ms.take 12) from by unfold strsV; rw [List.map_take]; rfl, hns] at e7
      have R7 := Rf.same s7
      obtain ⟨ra7, rb7, er7, _⟩ := id R7
      repeat (walk_at "st")
      refine ⟨r, p7, _, rfl, e7, Rok.ne Rf n7, by rw [strsV_len]; omega, by rw [strsV_len]; omega, R7, fun v G8 hv r8 o8 => ?_⟩
      obtain ⟨n, hn, rfl⟩ := List.mem_map.mp hv
      have hn : n ∈ ns := hn
      have hnS : n ∈ S.ns := by rw [inv.en]; exact hn
      have hC8 : CatAt K A.c_Catalog G8 L S.cs := Lay.At.off (Lay.At.same hCf s7) o8 er7 rfl rCS
      have t8 := tabs_rng (tabs_same s7 tf) R7 o8
      have x8 : XOff r H G8 := (xf.thenO (.of_same s7)).thenO o8
      have ep8 := o8.get pr (s7 _ _ epf)
      have ob8 := CatAt.ob hC8
      have cn : S.cnt n = 16 := inv.cnt n hn
      have nmod : ∀ z, modB S.cs (.str n) = false → z := fun z h => by rw [modB_str, decide_eq_true (show n ∈ S.cs.ns from hnS)] at h; cases h
      have ul : (us n).length ≤ 40 := okU.few hn
      have upos := us34 n hn
      clear hCf tf xf epf s7 o8 e7 n7 R7 er7 hv Rf
      repeat (walk_at "st")
      refine ⟨L, S, far + 30, rfl, hC8, inv.ok, by have := inv.log; omega, fun L' G18 s18 eT hC' own' => ?_⟩
      repeat (walk_at "st")
      refine i_new fun p9 G9 n9 s9 e9 => ?_
      have s89 := s18.trans s9
      have hC' : CatAt K A.c_Catalog G9 L' S.cs := Lay.At.same hC' s9
      have hC9 : CatAt K A.c_Catalog G9 L S.cs := Lay.At.same hC8 s89
      clear s18 s9 n9
      have ob9 := CatAt.ob hC9
      repeat (walk_at "st")
      refine ⟨L, S.cs, .str n, .str n, rfl, hC9, .str n, fun m em hm => ?_, nmod _⟩
      cases em
      intro p10 G10 n10 s10 e10
      have e10 : G10 p10 = some (.lst (strsV (S.us n))) := e10
      rw [inv.eu] at e10
      have lens : ∀ n ∈ S.cs.ns, ∀ u ∈ S.cs.us n, (S.cs.col n u).length = S.cs.cnt n := fun n hn u hu => by
        show ((S.win n u).map winD).length = S.cnt n
        rw [List.length_map]; exact inv.ok.wl n hn u hu
      repeat (walk_at "st")
      refine l_tp wk_list.q (fun _ => wfar far 15) (fun h w y => DaF false K h y (winD w)) (fun a y h h' s d => d.same s) (by rw [strsV_len, sizeLine_eq]; omega) (fun H' s => SqL.of (s _ _ e10)) (fun i x H' SS hi hr s11 hS => ?_) (fun D11 G11 zs n11 s11 e11 p11 => ?_)
      · rw [strsV_len] at hi
        rw [strsV_at hi] at hr
        cases hr
        have hu := getD_mem (d := default) hi
        generalize (us n).getD i default = u at *
        have huS : u ∈ S.us n := by rw [inv.eu]; exact hu
        have hC11 : CatAt K A.c_Catalog H' L S.cs := Lay.At.same hC9 (s10.trans s11)
        have ob11 := CatAt.ob hC11
        repeat (walk_at "st")
        refine ⟨L, S.cs, .str n, .str n, u, .int 15, .int 15, rfl, hC11, .str n, .int _, lens, fun m i dl em hm _ ei hi hdl y9 G9 s9 k9 => ?_, nmod _, (fun m em hm hnu => by cases em; exact (hnu huS).elim), fun m em hm _ hne => by cases em; exact (hne 15 (by show _ < S.cnt n; omega) rfl).elim⟩
        cases em
        have ei : i = 15 := by injection ei with e; omega
        subst ei
        obtain ⟨l, hl, rfl⟩ := wins_get28 (show ((S.win n u).map winD)[15]? = some dl from hdl)
        rw [inv.win n hn u hu, wcol_at (by decide)] at hl
        cases hl
        exact hS _ _ k9 s9
      · have eL : (List.range (strsV (us n)).length).map (fun _ => wfar far 15) = (us n).map fun _ => wfar far 15 := by
          rw [strsV_len]
          refine List.ext_getElem (by simp) fun i h1 h2 => by simp
        rw [eL] at p11
        clear eL
        have d11 : DaAllF false K G11 zs (((us n).map fun _ => wfar far 15).map winD) := (paired_da p11).same tp_same
        have s811 := s89.trans (s10.trans s11)
        repeat (walk_at "st")
        refine i_new fun p12 G12 n12 s12 e12 => ?_
        rw [cutV_init] at e12
        repeat (walk_at "st")
        refine i_lit fun v13 G13 s13 d13 => ?_
        repeat (walk_at "st")
        refine i_new fun p14 G14 n14 s14 e14 => ?_
        refine i_rCat (s14 _ _ (s13 _ _ e12)) e14 (by rw [List.length_dropLast, sizeLine_eq]; have := d11.len; rw [List.length_map, List.length_map] at this; simp; omega) ?_
        refine i_new fun p15 G15 n15 s15 e15 => ?_
        have s1115 := s12.trans (s13.trans (s14.trans s15))
        have zl : zs.length = (us n).length := by rw [d11.len, List.length_map, List.length_map]
        have dz : DaAllF false K G15 zs (((us n).map fun _ => wfar far 15).map winD) := d11.same s1115
        have d0 : DaF false K G15 v13 (winD (0, some 0)) := DaF.da (((d13.same newP_same).same (s14.trans s15)))
        have df : DaAllF false K G15 (zs.dropLast ++ [v13]) ((((us n).map fun _ => wfar far 15).map winD).dropLast ++ [winD (0, some 0)]) := da_snoc (da_dropLast dz) d0
        have e11' := s1115 _ _ e11
        have hC15 : CatAt K A.c_Catalog G15 L S.cs := Lay.At.same hC8 (s811.trans s1115)
        have hD15 : CatAt K A.c_Catalog G15 L' S.cs := Lay.At.same hC' ((s10.trans s11).trans s1115)
        have t15 := tabs_same (s811.trans s1115) t8
        have x15 : XOff r H G15 := x8.thenO (.of_same (s811.trans s1115))
        have r15 := r8.same (s811.trans s1115)
        have ep15 := (s811.trans s1115) _ _ ep8
        have f11 : ¬ (CatY K A.c_Catalog L S.cs).Own D11 := Lay.At.fresh (Lay.At.same hC9 s10) n11
        have f15 : ¬ (CatY K A.c_Catalog L S.cs).Own p15 := Lay.At.fresh (Lay.At.same hC9 ((s10.trans s11).trans (s12.trans (s13.trans s14)))) n15
        clear d13 e12 s12 s13 s14 s15 s1115 s811 s89 s10 s11 e10 n10 hC9 hC8 hC' t8 x8 r8 ep8 d11 e11 n12 n14 e14 p11 n11 n15 ob8 ob9 own' eT
        have ob15 := CatAt.ob hC15
        repeat (walk_at "st")
        refine i_lamG t15 fun G16 x16 t16 E' Q' hm hf hw => ?_
        have hC16 := CatAt.extN hC15 x16
        have ob16 := CatAt.ob hC16
        dsimp only
        repeat (walk_at "st")
        refine pub_many hC16 inv.ok hnS cn (by have := inv.log; omega) (fun u hu => inv.win n hn u (by rw [← inv.eu]; exact hu)) f0 (extN_get x16 e11') f11 (by rw [inv.eu]; exact da_ext dz x16) fun c H2 hc s2 ec => hm c "versions" 16 H2 ec ⟨by decide +kernel, by decide +kernel, by decide +kernel⟩ fun H3 s3 => ?_
        clear hm hf hw
        repeat (walk_at "st")
        refine i_lit fun v4 G4 s4 d4 => ?_
        have d4 : DaF false K G4 v4 (manyD "versions" 16) := DaF.da (d4.same newP_same)
        have xA : LamX.ExtN G15 G4 := extN_thenS (s2.trans (s3.trans s4)) x16
        have tA := tabs_same (s2.trans (s3.trans s4)) t16
        clear x16 t16 s2 s3 s4 hc ec hC16 ob16
        repeat (walk_at "st")
        refine i_lamG tA fun G16 x16 t16 E' Q' hm hf hw => ?_
        have hC16 := CatAt.extN hC15 (extN_thenE x16 xA)
        have ob16 := CatAt.ob hC16
        dsimp only
        repeat (walk_at "st")
        obtain ⟨lu, hlu⟩ : ∃ lu, (us n).getLast? = some lu := by
          cases e : (us n).getLast? with
          | none => rw [List.getLast?_eq_none_iff] at e; rw [e] at upos; cases upos
          | some l => exact ⟨l, rfl⟩
        have nlu := okU.nm _ (okU.uin n hn lu (List.mem_of_getLast? hlu))
        refine pub_falls (l := lu) hC16 inv.ok hnS cn (by have := inv.log; omega) (fun u hu => inv.win n hn u (by rw [← inv.eu]; exact hu)) f0 (extN_get (extN_thenE x16 xA) e15) f15 (by rw [inv.eu]; exact hlu) (by rw [inv.eu]; exact da_ext df (extN_thenE x16 xA)) fun c H2 hc s2 ec => hf c lu n H2 ec (falls_shw (okU.nm n hn) nlu) fun H3 s3 => ?_
        clear hm hf hw
        have xB : LamX.ExtN G15 H3 := extN_thenS (s2.trans s3) (extN_thenE x16 xA)
        have tB := tabs_same (s2.trans s3) t16
        clear x16 t16 s2 s3 hc ec hC16 ob16 xA tA d4
        have hC16 := CatAt.extN hC15 xB
        have ob16 := CatAt.ob hC16
        repeat (walk_at "st")
        refine ⟨L, S.cs, .str n, .str n, rfl, hC16, .str n, fun m em hm => ?_, nmod _⟩
        cases em
        intro p17 G17 n17 s17 e17
        have e17 : G17 p17 = some (.lst (strsV (S.us n))) := e17
        rw [inv.eu] at e17
        repeat (walk_at "st")
        refine i_rIxL (SqL.of e17) (atI_strs hlu) ?_
        repeat (walk_at "st")
        refine i_new fun p18 G18 n18 s18 e18 => ?_
        have d18 : DaF false K G18 (.ref p18) (fallsD n lu) := Da.lst (SqL.of e18) (.cons (.str _) (.cons (.str _) (.cons (.str _) .nil)))
        have shf := falls_shw (okU.nm n hn) nlu
        repeat (walk_at "st")
        have xC : LamX.ExtN G15 G18 := extN_thenS (s17.trans s18) xB
        have tC := tabs_same (s17.trans s18) tB
        clear xB tB s17 s18 e17 e18 n17 n18 hC16 ob16 d18 shf
        refine i_lamG tC fun G16 x16 t16 E' Q' hm hf hw => ?_
        have hC16 := CatAt.extN hC15 (extN_thenE x16 xC)
        have ob16 := CatAt.ob hC16
        have e16 := extN_get (extN_thenE x16 xC) e11'
        dsimp only
        repeat (walk_at "st")
        refine i_new fun p19 G19 n19 s19 e19 => ?_
        rw [cutV_init] at e19
        repeat (walk_at "st")
        refine pub_short (ws := ((us n).map fun _ => wfar far 15).dropLast) (Lay.At.same hC16 s19) (by rw [inv.en]; exact okU.n12) hnS e19 (by rw [List.map_dropLast]; exact da_dropLast ((da_ext dz (extN_thenE x16 xC)).same s19)) (by rw [List.length_dropLast, List.length_map, inv.eu]; omega) fun c H2 hc s2 ec => hw c H2 ec ⟨by decide +kernel, by decide +kernel, by decide +kernel⟩ fun H3 s3 => ?_
        clear hm hf hw
        repeat (walk_at "st")
        refine i_lit fun v20 G20 s20 d20 => ?_
        have d20 : DaF false K G20 v20 windsD := DaF.da (d20.same newP_same)
        have xD : LamX.ExtN G15 G20 := extN_thenS (s19.trans (s2.trans (s3.trans s20))) (extN_thenE x16 xC)
        have tD := tabs_same (s19.trans (s2.trans (s3.trans s20))) t16
        clear x16 t16 s19 s2 s3 s20 hc ec hC16 ob16 xC tC e16 e19 n19
        have hC16 := CatAt.extN hC15 xD
        have hD16 := CatAt.extN hD15 xD
        have ob16 := CatAt.ob hC16
        have obD := CatAt.ob hD16
        repeat (walk_at "st")
        refine ⟨L.p, L'.p, _, _, _, _, rfl, rfl, ob16, obD, ⟨L, L', S, S, _, _, true, rfl, hC16, hD16, inv.ok, inv.ok, rfl, rfl, fun _ => rfl, (fun z => by cases z), fun G21 s21 => ⟨true, rfl, ?_⟩⟩⟩
        repeat (walk_at "st")
        have xE : LamX.ExtN G15 G21 := extN_thenS s21 xD
        have tE := tabs_same s21 tD
        have hC21 := Lay.At.same hC16 s21
        have ep21 := extN_get xE ep15
        clear d20 xD tD s21 hC16 hD16 ob16 obD
        rw [Bool.not_true, if_neg (by decide)]
        repeat (walk_at "st")
        refine l_tp wk_list.q (fun i => ms.getD i default) (fun h n y => ∃ b c, y = .ref b ∧ h b = some (.tup [.str n, .ref c]) ∧ h c = some (.tup [])) (fun n y h h' s ⟨b, c, e, h1, h2⟩ => ⟨b, c, e, s _ _ h1, s _ _ h2⟩) (by rw [strsV_len, sizeLine_eq]; omega) (fun H' s => SqL.of (s _ _ ep21)) (fun i x H' SS hi hr s22 hS => ?_) (fun D22 G22 ys n22 s22 e22 p22 => ?_)
        · rw [strsV_len] at hi
          rw [strsV_at hi] at hr
          cases hr
          generalize ms.getD i default = m at *
          repeat (walk_at "st")
          refine i_new fun p23 G23 n23 s23 e23 => ?_
          repeat (walk_at "st")
          refine i_new fun p24 G24 n24 s24 e24 => ?_
          repeat (walk_at "st")
          exact hS _ _ ⟨p24, p23, rfl, tp_get e24 rfl, tp_get (s24 _ _ e23) rfl⟩ (s23.trans s24)
        · rw [strsV_len, range_pick] at p22
          obtain ⟨ps, tm, rfl, pp, ht⟩ := paired_tab mnd p22
          have pp' : Paired (fun p (kv : Key × V) => SqT K G22 p [kV kv.1, kv.2]) ps (tabS ms fun n => .ref (tm n)) := Paired.mapP pp fun a b k => SqT.of (tp_same _ _ k)
          repeat (walk_at "st")
          refine i_dictP (SqL.of e22) pp' ?_
          refine i_new fun p25 G25 n25 s25 e25 => ?_
          have e25' : G25 p25 = some (.dK (tabS ms fun n => .ref (tm n))) := e25.trans (congrArg (fun z => some (HO.dK z)) (mergeK_tab (pre := []) (by rw [List.nil_append]; exact mnd)))
          repeat (walk_at "st")
          have s2125 := s22.trans s25
          have xF : LamX.ExtN G15 G25 := extN_thenS s2125 xE
          have tF := tabs_same s2125 tE
          have tups : ∀ n ∈ ms, G25 (tm n) = some (.tup (strsV [])) := fun n hn => s25 _ _ (tp_same _ _ (ht n hn))
          clear xE tE hC21 ep21 s22 s25 s2125 e25 p22 pp pp' ht n22 e22 n25
          refine i_lamG tF fun G16 x16 t16 E' Q' hm hf hw => ?_
          have xG := extN_thenE x16 xF
          have e16 := extN_get x16 e25'
          have tu16 : ∀ n ∈ ms, G16 (tm n) = some (.tup (strsV [])) := fun n hn => extN_get x16 (tups n hn)
          clear xF tF x16 tups e25'
          dsimp only
          repeat (walk_at "st")
          refine i_make fun a dx Gm na ndx nea sm em => ?_
          refine ⟨a, p25, dx, tm, ms, fun _ => [], rfl, em, ⟨sm _ _ e16, fun n hn => sm _ _ (tu16 n hn)⟩, ⟨by omega, by omega, mnm, mnd, fun _ _ => .nil, (fun _ _ _ h => nomatch h), (fun _ _ h => nomatch h), fun _ _ => Nat.zero_le _⟩, (fun z => absurd z (by omega)), (fun _ c H2 hc s2 ec => hm c "modules" 12 H2 ec ⟨by decide +kernel, by decide +kernel, by decide +kernel⟩ fun H3 s3 => ?_), fun z => absurd z (by omega)⟩
          clear hm hf hw
          repeat (walk_at "st")
          refine i_lit fun v26 G26 s26 d26 => ?_
          have d26 : DaF false K G26 v26 (manyD "modules" 12) := DaF.da (d26.same newP_same)
          have s1626 := sm.trans (s2.trans (s3.trans s26))
          have xH : LamX.ExtN G15 G26 := extN_thenS s1626 xG
          have tH := tabs_same s1626 t16
          have ep26 := extN_get xH ep15
          clear t16 xG sm s2 s3 s26 s1626 hc ec em na ndx nea e16 tu16
          repeat (walk_at "st")
          refine i_lamG tH fun G16 x16 t16 E' Q' hm hf hw => ?_
          have xI := extN_thenE x16 xH
          have ep16 := extN_get x16 ep26
          clear xH tH x16 ep26 d26
          dsimp only
          repeat (walk_at "st")
          refine i_new fun p27 G27 n27 s27 e27 => ?_
          rw [cutV_to (by decide), show (strsV ms).take (12 : Int).toNat = strsV (ms.take 12) from by unfold strsV; rw [List.map_take]; rfl, hns] at e27
          repeat (walk_at "st")
          refine ⟨p27, 41, ns, rfl, e27, l12, nd12, by decide, fun d tu G28 n28 s28 hU => ?_⟩
          repeat (walk_at "st")
          have okV : UsW ns (usU ns 41) := usW_U l12 nd12 nm12
          have u41 := usU_41 l12 nd12
          refine i_make fun a dx Gm na ndx nea sm em => ?_
          refine ⟨a, d, dx, tu, ns, usU ns 41, rfl, em, ⟨sm _ _ hU.tab, fun n hn => sm _ _ (hU.tup n hn)⟩, okV, (fun _ z => absurd z (by omega)), (fun z => absurd z (by omega)), fun _ _ c H2 hc s2 ec => hm c "uses" 40 H2 ec ⟨by decide +kernel, by decide +kernel, by decide +kernel⟩ fun H3 s3 => ?_⟩
          clear hm hf hw
          repeat (walk_at "st")
          refine i_lit fun v29 G29 s29 d29 => ?_
          have d29 : DaF false K G29 v29 (manyD "uses" 40) := DaF.da (d29.same newP_same)
          have s1629 := s27.trans (s28.trans (sm.trans (s2.trans (s3.trans s29))))
          have xJ : LamX.ExtN G15 G29 := extN_thenS s1629 xI
          have tJ := tabs_same s1629 t16
          clear t16 xI s27 s28 sm s2 s3 s29 s1629 hc ec em na ndx nea hU n27 e27 n28 ep16
          have hC29 := CatAt.extN hC15 xJ
          have ob29 := CatAt.ob hC29
          have e29' := extN_get xJ e11'
          have x29 : XOff r H G29 := x15.thenX xJ
          have dz29 := da_ext dz xJ
          have ownS : ∀ b, (CatY K A.c_Catalog L S.cs).Own b → b = r ∨ H b = none := fun b z => ownH b (.inr ((own1 inv.en inv.eu b).mp z))
          have av0 : availB S.cs n (.int 0) = true := by
            have : S.cs.avail n = List.range 16 := inv.avail hn
            exact availB_mem (k := 0) (by rw [this]; decide)
          repeat (walk_at "st")
          refine ⟨L, S.cs, .str n, .str n, .int 0, .int 0, rfl, hC29, .str n, .int _, (fun m em => by cases em; show (S.gone n).length < 1000; rw [inv.gone]; decide), (by have := inv.log; show S.log.length < 1000; omega), (fun m i em hm ei hav G30 hC30 f30 => ?_), nmod _, fun m em hm hav => by cases em; rw [av0] at hav; cases hav⟩
          cases em
          have ei : i = 0 := by injection ei with e; omega
          subst ei
          have hC30 : CatAt K A.c_Catalog G30 L (S.wd n 0).cs := hC30
          have ok30 := TOk.wd inv.ok hnS av0
          have x30 := x29.fr f30 ownS
          have t30 := tabs_fr tJ (Lay.At.mv hC29) f30
          have e30 := f30 _ _ f11 e29'
          have dz30 : DaAllF false K G30 zs (((us n).map fun _ => wfar far 15).map winD) := ((dz29.tp (by rw [flatDs_all]; refine List.all_eq_true.mpr fun d hd => ?_; obtain ⟨w, _, rfl⟩ := List.mem_map.mp hd; exact flat_winD w)).same (Fr.tp f30 (Lay.At.mv hC29))).same tp_same
          clear hC29 ob29 e29' x29 dz29 tJ xJ d29 ownS f30
          refine i_ret ?_
          repeat (walk_at "st")
          refine i_lamG t30 fun G16 x16 t16 E' Q' hm hf hw => ?_
          have hC16 := CatAt.extN hC30 x16
          have ob16 := CatAt.ob hC16
          dsimp only
          repeat (walk_at "st")
          refine pub_many (S := S.wd n 0) hC16 ok30 hnS cn (by have := inv.log; show (S.log ++ [_]).length < 1000; rw [List.length_append]; show S.log.length + 1 < 1000; omega) (fun u hu => inv.win n hn u (by rw [← inv.eu]; exact hu)) f0 (extN_get x16 e30) f11 (by show DaAllF false K G16 zs (((S.us n).map fun _ => wfar far 15).map winD); rw [inv.eu]; exact da_ext dz30 x16) fun c H2 hc s2 ec => hm c "versions" 16 H2 ec ⟨by decide +kernel, by decide +kernel, by decide +kernel⟩ fun H3 s3 => ?_
          clear hm hf hw
          repeat (walk_at "st")
          refine i_lit fun v31 G31 s31 d31 => ?_
          have d31 : DaF false K G31 v31 (manyD "versions" 16) := DaF.da (d31.same newP_same)
          repeat (walk_at "st")
          have xq := (x30.thenX x16).thenO (.of_same (s2.trans (s3.trans s31)))
          have tq := tabs_same (s2.trans (s3.trans s31)) t16
          exact q _ xq tq

end

open PySem PySem.Spec PyProof.Rows L2




section
variable {P : Program} {w : World} {K : PySem.W.Frag} {mg : Str → Option Value} {base : Heap} {A : Ad}
def sp_law (K : PySem.W.Frag) (A : Ad) : Sp := fun vs H Q _ => ∃ (s : Addr) (ns : List Int), vs = [.ref s] ∧ SqL K H s (ns.map V.int) ∧ ns.length ≤ 63 ∧ LamX.Tabs (TT A) H ∧ ∀ H', Q (.bl true) H'
theorem ok_law0 (T : Txt K mg A) (TB : TBs base mg A) (G_l_rng : Fg P w K mg base CX0 1 A.f_l_rng A.d_l_rng ["_law_script", "_law_k"] (sp_l_rng K)) (G_l_right : Fg P w K mg base CX0 10 A.f_l_right A.d_l_right ["_law_rng_here"] (sp_rightT A)) : Fg P w K mg base CX0 11 A.f_law A.d_law ["_law_script"] (sp_law K A) := by
  refine ok_g T.F_law sc_law (fun vs H Q E h => ?_) (fun cdv Ar outer s H vs Q E hr h => ?_)
  · obtain ⟨_, _, rfl, _⟩ := h; rfl
  · obtain ⟨sc, ns, rfl, hS0, hl, tabs, q⟩ := h
    refine ⟨_, (pss_cons (ps_if (pt_cmpR op_ne (pe_callB (call_reprE T.sys (hr.mono (by decide))) (by rfl) T.m_repr (by decide +kernel) (pa_cons (pe_lst (pa_cons (pe_glob (v := .int (12)) rfl T.c_MOST_MODULES ⟨_, rfl⟩) (pa_cons (pe_glob (v := .int (16)) rfl T.c_MOST_VERSIONS ⟨_, rfl⟩) (pa_cons (pe_glob (v := .int (40)) rfl T.c_MOST_USES ⟨_, rfl⟩) pa_nil)))) pa_nil)) pe_str (nomark _))
(pss_one (ps_ret pe_bl))
pss_nil)
(pss_one (ps_ret (pe_callB (cr_all rfl) (by rfl) T.m_all (by decide +kernel) (pa_cons (pe_lc (own := [("_law_k", 1)]) rfl sc_law.nd (pi_range1 rfl T.m_range (pa_cons (pe_callB (call_max2 rfl) (by rfl) T.m_max (by decide +kernel) (pa_cons pe_int (pa_cons (pe_callB (call_min2 rfl) (by rfl) T.m_min (by decide +kernel) (pa_cons (pe_callB call_lenN (by rfl) T.m_len (by decide +kernel) (pa_cons (pv 0) pa_nil)) (pa_cons pe_int pa_nil))) pa_nil))) pa_nil)) (blkOk_by (own := [("_law_k", 1)]) (N := ["_law_script", "_law_k"]) (sc := defScope s_law) (by decide +kernel)) (fun _ _ _ _ _ => (pg_name (i := 1) sc_law.nd rfl (.inl rfl))) (fun _ _ _ _ _ => pts_nil) (fun _ _ _ _ _ => (pe_call G_l_right (hr.mono (by decide)) (by rfl) T.g_l_right T.F_l_right.kp T.b_l_right .nil pass0 (pa_cons (pe_call G_l_rng (hr.mono (by decide)) (by rfl) T.g_l_rng T.F_l_rng.kp T.b_l_rng .nil pass0 (pa_cons (pv 0) (pa_cons (pv 1) pa_nil))) pa_nil)))) pa_nil))))), ?_⟩
    have hz : ns.length ≤ sizeLine := Nat.le_trans hl (by decide)
    repeat (walk_at "st")
    refine i_new fun p9 G9 n9 s9 e9 => ?_
    have d9 : DaF false K G9 (.ref p9) (.list [.int 12, .int 16, .int 40]) := Da.lst (SqL.of e9) (.cons (.int _) (.cons (.int _) (.cons (.int _) .nil)))
    have sh9 : (PyData.list [.int 12, .int 16, .int 40]).shown = "[12, 16, 40]" := by decide +kernel
    repeat (walk_at "st")
    rw [sh9]
    rw [decide_eq_true (rfl : V.str "[12, 16, 40]" = V.str "[12, 16, 40]"), Bool.not_true, if_neg (by decide)]
    have hS9 := Same.seq s9 hS0
    have tabs9 := tabs_same s9 tabs
    clear d9 e9 sh9
    repeat (walk_at "st")
    refine l_wq wk_range.q fun D H0 n0 s0 e0 => ⟨fun i ys G => LamX.ExtN G9 G ∧ LamX.Tabs (TT A) G ∧ G D = some (.lst ys) ∧ ys = (List.replicate i true).map V.bl, ⟨extN_ofS s0, tabs_same s0 tabs9, e0, rfl⟩, fun _ _ _ _ => trivial, fun i ys x Ha Hb hi h sa hr => ?_, fun ys G h => ?_⟩
    · obtain ⟨xG, tG, eG, ey⟩ := h
      obtain ⟨rfl, hk⟩ := rangeV_item' hr
      have xb : LamX.ExtN G9 Hb := extN_thenS sa xG
      have tb := tabs_same sa tG
      have eb := sa _ _ eG
      have hS' : SqL K Hb sc (ns.map V.int) := (sqL_nt hS9).imp (fun r => Rd.same (extN_ntH xb) r) id
      refine lc_yes ?_
      repeat (walk_at "st")
      refine ⟨_, _, _, rfl, hS', by omega, by (revert hk; split <;> split <;> omega), hl, fun r G1 n1 r1 s1 => ?_⟩
      repeat (walk_at "st")
      refine ⟨r, rfl, r1, tabs_same s1 tb, fun G2 x2 t2 => ?_⟩
      have xb2 : LamX.ExtN Hb G2 := fun b u h k => XOff.ext (fun b u n h k => x2 b u n (s1 _ _ h) k) n1 b u h k
      have e2 := extN_get xb2 eb
      refine i_lcEl e2 (by subst ey; rw [List.length_map, List.length_replicate]; revert hi; rw [rangeV_len, sizeLine_eq]; (split <;> split <;> omega)) fun G3 o3 e3 => ⟨Fre.off (fun o e => by rw [n0] at e; cases e) (extN_thenE xb2 xb) o3, tabs_off2 t2 e2 rfl o3, e3, ?_⟩
      rw [ey, List.replicate_succ', List.map_append]; rfl
    · obtain ⟨xG, tG, eG, ey⟩ := h
      rw [ey] at eG
      repeat (walk_at "st")
      rw [show (List.replicate _ true).all id = true from by rw [List.all_eq_true]; exact fun x hx => (List.eq_of_mem_replicate hx)]
      exact q _
end

open PySem PySem.Spec PyProof.Rows L2




section
variable {P : Program} {w : World} {K : PySem.W.Frag} {mg : Str → Option Value} {base : Heap} {A : Ad}
theorem ok_law (T : Txt K mg A) (TB : TBs base mg A) : Fg P w K mg base CX0 11 A.f_law A.d_law ["_law_script"] (sp_law K A) := by
  have G_l_rng := ok_l_rng (P := P) (w := w) (base := base) T
  have G_l_draw := ok_l_draw (P := P) (w := w) (base := base) T
  have G_l_name := ok_l_name (P := P) (w := w) (base := base) T G_l_draw
  have G_l_names := ok_l_names (P := P) (w := w) (base := base) T G_l_name
  have G_l_uses := ok_l_uses (P := P) (w := w) (base := base) T
  have G_is_name := ok_is_name (P := P) (w := w) (base := base) T
  have G_is_row_of_names := ok_is_row_of_names (P := P) (w := w) (base := base) T G_is_name
  have G_InvalidUsesx_initx := ok_InvalidUsesx_initx (P := P) (w := w) (base := base) T
  have G_InvalidNamex_initx := ok_InvalidNamex_initx (P := P) (w := w) (base := base) T
  have G_UnknownModulex_initx := ok_UnknownModulex_initx (P := P) (w := w) (base := base) T
  have G_TooManyx_initx := ok_TooManyx_initx (P := P) (w := w) (base := base) T
  have G_check_uses := ok_check_uses (P := P) (w := w) (base := base) T G_is_name G_is_row_of_names G_InvalidUsesx_initx G_InvalidNamex_initx G_UnknownModulex_initx G_TooManyx_initx
  have G_Catalogx_initx := ok_Catalogx_initx (P := P) (w := w) (base := base) T G_check_uses
  have G_Catalogx_lenx := ok_Catalogx_lenx (P := P) (w := w) (base := base) T
  have G_require_module := ok_require_module (P := P) (w := w) (base := base) T G_UnknownModulex_initx
  have G_Catalog_uses := ok_Catalog_uses (P := P) (w := w) (base := base) T G_require_module
  have G_l_choice := ok_l_choice (P := P) (w := w) (base := base) T G_l_draw
  have G_l_shuffled := ok_l_shuffled (P := P) (w := w) (base := base) T G_l_draw
  have G_Catalog_modules := ok_Catalog_modules (P := P) (w := w) (base := base) T
  have G_is_integer := ok_is_integer (P := P) (w := w) (base := base) T
  have G_is_version := ok_is_version (P := P) (w := w) (base := base) T G_is_integer
  have G_is_window := ok_is_window (P := P) (w := w) (base := base) T G_is_version
  have G_InvalidWindowsx_initx := ok_InvalidWindowsx_initx (P := P) (w := w) (base := base) T
  have G_check_new_windows := ok_check_new_windows (P := P) (w := w) (base := base) T G_is_window G_InvalidWindowsx_initx
  have G_InvalidWindowx_initx := ok_InvalidWindowx_initx (P := P) (w := w) (base := base) T
  have G_require_window := ok_require_window (P := P) (w := w) (base := base) T G_is_window G_InvalidWindowx_initx
  have G_reaches := ok_reaches (P := P) (w := w) (base := base) T
  have G_rises := ok_rises (P := P) (w := w) (base := base) T G_require_window G_reaches
  have G_NotRisingx_initx := ok_NotRisingx_initx (P := P) (w := w) (base := base) T
  have G_Catalog_publish := ok_Catalog_publish (P := P) (w := w) (base := base) T G_require_module G_check_new_windows G_rises G_NotRisingx_initx G_TooManyx_initx
  have G_Catalog_available := ok_Catalog_available (P := P) (w := w) (base := base) T G_require_module
  have G_Catalog_versions := ok_Catalog_versions (P := P) (w := w) (base := base) T G_require_module
  have G_UnknownUsex_initx := ok_UnknownUsex_initx (P := P) (w := w) (base := base) T
  have G_UnknownVersionx_initx := ok_UnknownVersionx_initx (P := P) (w := w) (base := base) T
  have G_Catalog_window := ok_Catalog_window (P := P) (w := w) (base := base) T G_require_module G_is_version G_UnknownUsex_initx G_UnknownVersionx_initx
  have G_l_filled := ok_l_filled (P := P) (w := w) (base := base) T G_l_choice G_l_shuffled G_Catalog_modules G_Catalog_uses G_Catalog_publish G_Catalog_available G_Catalog_versions G_Catalog_window
  have G_Catalog_clone := ok_Catalog_clone (P := P) (w := w) (base := base) T G_Catalogx_initx
  have G_Catalogx_eqx := ok_Catalogx_eqx (P := P) (w := w) (base := base) T
  have G_Catalog_is_available := ok_Catalog_is_available (P := P) (w := w) (base := base) T G_require_module G_is_version
  have G_Catalog_withdraw := ok_Catalog_withdraw (P := P) (w := w) (base := base) T G_Catalog_is_available G_UnknownVersionx_initx
  have G_l_right := ok_l_right (P := P) (w := w) (base := base) T TB G_l_names G_l_uses G_Catalogx_initx G_Catalogx_lenx G_Catalog_uses G_l_filled G_l_choice G_Catalog_clone G_Catalog_window G_Catalog_publish G_Catalogx_eqx G_Catalog_withdraw
  exact ok_law0 T TB G_l_rng G_l_right
theorem sp_law_of {K : PySem.W.Frag} {A : Ad} {H : Hp} {a : Addr} {ns : List Int} (hl : ns.length ≤ 63) (_ : ∀ z ∈ ns, Builtin.Int.intBits z ≤ 1048576) (hS : SqL K H a (ns.map V.int)) (t : LamX.Tabs (TT A) H) : sp_law K A [.ref a] H (fun v _ => v = .bl true) fun _ _ _ => False := ⟨a, ns, rfl, hS, hl, t, fun _ => rfl⟩
theorem facts {l : PySem.W.OpenLaw} {w : World} {K : PySem.W.Frag} {h : Heap} {mg : Str → Option Value} {fa : Addr} (G : h.Ns mainGlobals mg) (hfa : mg "law" = some (.ref fa)) (c : SaysH faL fnL tbL K h) : LawT l w K CX0 11 63 "_law_script" mg fa h := by
  obtain ⟨A, T, tb, bi⟩ := txtH G c
  have e := hfa.symm.trans T.g_law
  cases e
  refine ⟨_, csH A, sp_law K A, tb, bi, fun H a ns hl hb hT hS => sp_law_of hl hb hS (tabs_nil fun p hp => ?_), fun base _ _ hB => ok_law T ⟨hB _ (.head _)⟩⟩
  simp only [TT, List.mem_cons, List.not_mem_nil, or_false] at hp
  rcases hp with rfl
  · exact hT (A.cc_l_right, A.p_l_right) (.head _)
end
end KX
theorem PySem.Challenge.cw_groupsteps_k28_greatest_catalogs_holds : PySem.Challenge.rw_groupsteps_k28_greatest_catalogs.Holds := by
  exact KX.topH fun G hfa c => KX.facts G hfa c

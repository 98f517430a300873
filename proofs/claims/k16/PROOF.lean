import PyProof.Rows.All
import Wide.All
import OpenK.AllK
import Wide.FinOn
import HandS.ForMost
import HandS.Defaults
import HandS.Head0
import HandS.Head1
import HandS.Head2
import HandS.HeadHook1
import HandS.HeadHook2
import KE.KExcInit
import KE.KIsAll
import KE.KNestM
import HandS.IsInst
import HandS.WideBits
import HandS.Wide
import HandS.Flow
import HandS.RaiseMore
import HandS.EndBits
import HandS.ForExc
import HandS.ExcInit
import HandS.ExcIs
import HandS.ExcField
import HandS.TryMany
import KE.KExcIs
import KE.KExcLine
import KE.RegKIsAll
import HandS.FStr
import HandS.Style
import HandS.Codes
import KE.KRevSl
import KE.GoesEnum
import KE.KDictZip
import HandS.Walk
import HandS.ExcValue
import HandS.TryOnly
import HandS.Lambda
import HandS.WordsExc
import KE.KLam
import HandS.TupAny
import HandS.RevTup
import PySem.Challenge.RW_groupsteps_k16_wrong_windows_and_texts
set_option Elab.async false
set_option linter.all false
set_option maxRecDepth 100000
set_option maxHeartbeats 4000000
namespace KX
open PySem PySem.Spec PyProof.Rows L2
/-! ### what the run of the head is asked: truth values over the part that the names reach -/
abbrev tailOf (B : String) : List Value := [.type B, .type "Exception", .type "BaseException", .type "object"]
def tabOf (K : PySem.W.Frag) (c : Addr) : Addr := match K.lookup c with
  | some ⟨_, _, .fields vs, _⟩ => (match (vs[11]? : Option Value) with | some (.ref P) => P | _ => 0)
  | _ => 0
abbrev tabO : Obj := { cls := .none, data := .fields #[] }
def exB (K : PySem.W.Frag) (C : Addr) (n : String) (tl : List Value) : Bool := PySem.W.excInitIn K C tl n && (PySem.W.excOver K C tl && (PySem.W.hasDictIn K C && (PySem.W.keepIn K (.ref C) &&
  (PySem.W.findIn K (.ref C) "__setattr__" == some (some (.builtin "object.__setattr__")) && (PySem.W.subIn K (.ref C) (.type "BaseException") == some true && (PySem.W.typeIn K (.ref C) == some (.type "type") &&
  (PySem.W.findIn K (.ref C) "__getattribute__" == some (some (.builtin "BaseException.__getattribute__")) && (PySem.W.findIn K (.ref C) "__getattr__" == some none &&
  (PySem.W.findIn K (.ref C) "__class__" == some (some (.builtin "object.__class__")) && PySem.W.mroIn K C (.type "object") == some true)))))))))
def fdB (K : PySem.W.Frag) (C : Addr) (fs : List Str) : Bool := fs.all fun f => PySem.W.takerIn K C f == some none && PySem.W.findIn K (.ref C) f == some none
def suB (K : PySem.W.Frag) (C : Addr) (l : List (Value × Bool)) : Bool := l.all fun p => PySem.W.subIn K (.ref C) p.1 == some p.2
def kiB (K : PySem.W.Frag) (C : Addr) (l : List (Value × Bool)) : Bool := l.all fun p => PySem.W.kitOne K (.ref C) p.1 == some p.2
/-- a row of truth values, told by a number -/
def bits : Nat → Nat → List Bool
  | 0, _ => []
  | n + 1, m => (m % 2 == 1) :: bits n (m / 2)
def rowL (L : List Value) (m : Nat) : List (Value × Bool) := L.zip (bits L.length m)
def tyB (K : PySem.W.Frag) (f : Addr) : Bool := PySem.W.typeIn K (.ref f) == some (.type "function")
def sysB : PySem.W.Frag → Bool := fun K => match K.lookup sysModules with
  | some o => !(o.cls == Value.type "list")
  | none => false
def emptyB : Obj → Bool
  | ⟨.none, none, .fields vs, sl⟩ => vs.isEmpty && sl.isEmpty
  | _ => false
def frH (g : Addr → Option Obj) (as : List Addr) : PySem.W.Frag := (He.frG g as).filter fun p => !emptyB p.2
/-- the code object of the def at f -/
def codeAt (K : PySem.W.Frag) (f : Addr) : Addr := match K.lookup f with
  | some ⟨_, _, .func fd, _⟩ => (match fd.code with | .ref c => c | _ => 0)
  | _ => 0
abbrev Fc := PySem.W.Frag → Bool
/-- the code object of a def that makes lambdas, its table -/
def mkT (K : PySem.W.Frag) (p : Str × Option Str) : Addr × Addr := (codeAt K (He.fAd K p), tabOf K (codeAt K (He.fAd K p)))
def tbB (g : Addr → Option Obj) (K : PySem.W.Frag) (p : Str × Option Str) : Bool := PySem.W.codeHdIn K (mkT K p).1 (mkT K p).2 && ((K.lookup (mkT K p).2).isNone && (match g (mkT K p).2 with
  | some o => emptyB o
  | none => false))
def obsH (n : Nat) (fa : List Fc) (fn : List He.DefD) (tb : List (Str × Option Str)) (g : Addr → Option Obj) : He.AlD :=
  let K := frH g (sysModules :: cStatics :: He.asD g n)
  ((fa.all fun f => f K) && ((fn.all fun d => d.ok K) && tb.all fun p => tbB g K p), fn.map fun d => He.fnW K d.at_)
/-- what the Hook looks at, but the facts -/
def defsH (n : Nat) (fn : List He.DefD) (tb : List (Str × Option Str)) (g : Addr → Option Obj) : He.AlD :=
  let K := frH g (sysModules :: cStatics :: He.asD g n)
  ((fn.all fun d => d.ok K) && tb.all fun p => tbB g K p, fn.map fun d => He.fnW K d.at_)
def gloB (x : Str) (f : PySem.W.Frag → Addr) : Fc := fun K => PySem.W.nsIn K mainGlobals x == some (some (.ref (f K)))
def freeB (x : Str) : Fc := fun K => PySem.W.nsIn K mainGlobals x == some none
def tokOf (K : PySem.W.Frag) (x : Str) : Tok := match PySem.W.nsIn K mainGlobals x with
  | some (some (.int _ t)) => t
  | some (some (.str _ t)) => t
  | _ => default
def intB (x : Str) (i : Int) : Fc := fun K => PySem.W.nsIn K mainGlobals x == some (some (.int i (tokOf K x)))
def strB (x z : Str) : Fc := fun K => PySem.W.nsIn K mainGlobals x == some (some (.str z (tokOf K x)))
def metB (C : Str) (m : Str) : Fc := fun K => PySem.W.findIn K (.ref (He.ga K C)) m == some (some (.ref (He.fAd K (C, some m))))
def ibB (K : PySem.W.Frag) (C : Addr) (i : String) : Bool := PySem.W.specialIn K (.ref C) "__getattribute__" == some (some (.builtin "type.__getattribute__")) && (PySem.W.readsIn K C (.type "type") && (match PySem.W.findCls K (.ref C) (.type "type") "__init__" with
  | some (.val (.builtin s)) => s == i
  | _ => false))
def cgB : Fc := fun K => PySem.W.specialIn K (.builtin "object.__class__") "__get__" == some (some (.builtin "getset_descriptor.__get__")) && PySem.W.takesIn K (.builtin "object.__class__") == some true
end KX

namespace KX
open PySem PySem.Spec PyProof.Rows L2

def topS (i : Nat) : Stmt := PySem.Challenge.pw_groupsteps_k16_wrong_windows_and_texts.main.body.getD i (.Pass ⟨0, 0, 0, 0⟩)
abbrev s_InvalidVersionx_initx : Stmt := inClass (topS 2) 0
abbrev s_InvalidWindowx_initx : Stmt := inClass (topS 3) 0
abbrev s_InvalidWindowsx_initx : Stmt := inClass (topS 4) 0
abbrev s_InvalidTextx_initx : Stmt := inClass (topS 5) 0
abbrev s_is_integer : Stmt := topS 9
abbrev s_is_version : Stmt := topS 10
abbrev s_require_version : Stmt := topS 11
abbrev s_parse_number : Stmt := topS 12
abbrev s_is_window : Stmt := topS 15
abbrev s_require_window : Stmt := topS 16
abbrev s_require_windows : Stmt := topS 17
abbrev s_reaches : Stmt := topS 18
abbrev s_contains : Stmt := topS 19
abbrev s_rises : Stmt := topS 20
abbrev s_first_falling : Stmt := topS 21
abbrev s_least_reaching : Stmt := topS 22
abbrev s_format_window : Stmt := topS 23
abbrev s_window_in : Stmt := topS 24
abbrev s_parse_window : Stmt := topS 25
abbrev s_l_rng : Stmt := topS 27
abbrev s_l_draw : Stmt := topS 28
abbrev s_l_choice : Stmt := topS 29
abbrev s_l_is_count : Stmt := topS 30
abbrev s_l_is_window : Stmt := topS 31
abbrev s_l_odd : Stmt := topS 32
abbrev s_l_told : Stmt := topS 33
abbrev s_l_singles_right : Stmt := topS 34
abbrev s_l_top : Stmt := topS 35
abbrev s_l_lists_right : Stmt := topS 36
abbrev s_l_number : Stmt := topS 37
abbrev s_l_read : Stmt := topS 38
abbrev s_l_texts_right : Stmt := topS 39
abbrev s_law : Stmt := topS 40
def fnL0 : List He.DefD := [⟨("InvalidVersion", some "__init__"), "__init__", "InvalidVersion.__init__", defArgs s_InvalidVersionx_initx, defBody s_InvalidVersionx_initx, defScope s_InvalidVersionx_initx, [], []⟩,
  ⟨("InvalidWindow", some "__init__"), "__init__", "InvalidWindow.__init__", defArgs s_InvalidWindowx_initx, defBody s_InvalidWindowx_initx, defScope s_InvalidWindowx_initx, [], []⟩,
  ⟨("InvalidWindows", some "__init__"), "__init__", "InvalidWindows.__init__", defArgs s_InvalidWindowsx_initx, defBody s_InvalidWindowsx_initx, defScope s_InvalidWindowsx_initx, [], []⟩,
  ⟨("InvalidText", some "__init__"), "__init__", "InvalidText.__init__", defArgs s_InvalidTextx_initx, defBody s_InvalidTextx_initx, defScope s_InvalidTextx_initx, [], []⟩,
  ⟨("is_integer", none), "is_integer", "is_integer", defArgs s_is_integer, defBody s_is_integer, defScope s_is_integer, [], []⟩,
  ⟨("is_version", none), "is_version", "is_version", defArgs s_is_version, defBody s_is_version, defScope s_is_version, [], []⟩,
  ⟨("require_version", none), "require_version", "require_version", defArgs s_require_version, defBody s_require_version, defScope s_require_version, [], []⟩,
  ⟨("parse_number", none), "parse_number", "parse_number", defArgs s_parse_number, defBody s_parse_number, defScope s_parse_number, [], []⟩,
  ⟨("is_window", none), "is_window", "is_window", defArgs s_is_window, defBody s_is_window, defScope s_is_window, [], []⟩,
  ⟨("require_window", none), "require_window", "require_window", defArgs s_require_window, defBody s_require_window, defScope s_require_window, [], []⟩,
  ⟨("require_windows", none), "require_windows", "require_windows", defArgs s_require_windows, defBody s_require_windows, defScope s_require_windows, [], []⟩,
  ⟨("reaches", none), "reaches", "reaches", defArgs s_reaches, defBody s_reaches, defScope s_reaches, [], []⟩,
  ⟨("contains", none), "contains", "contains", defArgs s_contains, defBody s_contains, defScope s_contains, [], []⟩,
  ⟨("rises", none), "rises", "rises", defArgs s_rises, defBody s_rises, defScope s_rises, [], []⟩,
  ⟨("first_falling", none), "first_falling", "first_falling", defArgs s_first_falling, defBody s_first_falling, defScope s_first_falling, [], []⟩,
  ⟨("least_reaching", none), "least_reaching", "least_reaching", defArgs s_least_reaching, defBody s_least_reaching, defScope s_least_reaching, [], []⟩,
  ⟨("format_window", none), "format_window", "format_window", defArgs s_format_window, defBody s_format_window, defScope s_format_window, [], []⟩,
  ⟨("window_in", none), "window_in", "window_in", defArgs s_window_in, defBody s_window_in, defScope s_window_in, [], []⟩,
  ⟨("parse_window", none), "parse_window", "parse_window", defArgs s_parse_window, defBody s_parse_window, defScope s_parse_window, [], []⟩,
  ⟨("_law_rng", none), "_law_rng", "_law_rng", defArgs s_l_rng, defBody s_l_rng, defScope s_l_rng, [], []⟩]
def fnL1 : List He.DefD := [⟨("_law_draw", none), "_law_draw", "_law_draw", defArgs s_l_draw, defBody s_l_draw, defScope s_l_draw, [], []⟩,
  ⟨("_law_choice", none), "_law_choice", "_law_choice", defArgs s_l_choice, defBody s_l_choice, defScope s_l_choice, [], []⟩,
  ⟨("_law_is_count", none), "_law_is_count", "_law_is_count", defArgs s_l_is_count, defBody s_l_is_count, defScope s_l_is_count, [], []⟩,
  ⟨("_law_is_window", none), "_law_is_window", "_law_is_window", defArgs s_l_is_window, defBody s_l_is_window, defScope s_l_is_window, [], []⟩,
  ⟨("_law_odd", none), "_law_odd", "_law_odd", defArgs s_l_odd, defBody s_l_odd, defScope s_l_odd, [], []⟩,
  ⟨("_law_told", none), "_law_told", "_law_told", defArgs s_l_told, defBody s_l_told, defScope s_l_told, [], []⟩,
  ⟨("_law_singles_right", none), "_law_singles_right", "_law_singles_right", defArgs s_l_singles_right, defBody s_l_singles_right, defScope s_l_singles_right, [], []⟩,
  ⟨("_law_top", none), "_law_top", "_law_top", defArgs s_l_top, defBody s_l_top, defScope s_l_top, [], []⟩,
  ⟨("_law_lists_right", none), "_law_lists_right", "_law_lists_right", defArgs s_l_lists_right, defBody s_l_lists_right, defScope s_l_lists_right, [], []⟩,
  ⟨("_law_number", none), "_law_number", "_law_number", defArgs s_l_number, defBody s_l_number, defScope s_l_number, [], []⟩,
  ⟨("_law_read", none), "_law_read", "_law_read", defArgs s_l_read, defBody s_l_read, defScope s_l_read, [], []⟩,
  ⟨("_law_texts_right", none), "_law_texts_right", "_law_texts_right", defArgs s_l_texts_right, defBody s_l_texts_right, defScope s_l_texts_right, [], []⟩,
  ⟨("law", none), "law", "law", defArgs s_law, defBody s_law, defScope s_law, [], []⟩]
def fnL : List He.DefD := fnL0 ++ (fnL1)
def tbL : List (Str × Option Str) := [("_law_singles_right", none), ("_law_lists_right", none), ("_law_texts_right", none)]
def exL (K : PySem.W.Frag) : List Value := [.ref (He.ga K "InvalidWindow"), .ref (He.ga K "InvalidWindows"), .ref (He.ga K "InvalidVersion"), .ref (He.ga K "InvalidText"), .ref (He.ga K "GroupError")]
def kiLH (K : PySem.W.Frag) : List Value := []
def faL0 : List Fc := [metB "InvalidVersion" "__init__",
  metB "InvalidWindow" "__init__",
  metB "InvalidWindows" "__init__",
  metB "InvalidText" "__init__",
  gloB "is_integer" (fun K => He.fAd K ("is_integer", none)),
  gloB "is_version" (fun K => He.fAd K ("is_version", none)),
  gloB "require_version" (fun K => He.fAd K ("require_version", none)),
  gloB "parse_number" (fun K => He.fAd K ("parse_number", none)),
  gloB "is_window" (fun K => He.fAd K ("is_window", none)),
  gloB "require_window" (fun K => He.fAd K ("require_window", none)),
  gloB "require_windows" (fun K => He.fAd K ("require_windows", none)),
  gloB "reaches" (fun K => He.fAd K ("reaches", none)),
  gloB "contains" (fun K => He.fAd K ("contains", none)),
  gloB "rises" (fun K => He.fAd K ("rises", none)),
  gloB "first_falling" (fun K => He.fAd K ("first_falling", none)),
  gloB "least_reaching" (fun K => He.fAd K ("least_reaching", none)),
  gloB "format_window" (fun K => He.fAd K ("format_window", none)),
  gloB "window_in" (fun K => He.fAd K ("window_in", none)),
  gloB "parse_window" (fun K => He.fAd K ("parse_window", none)),
  gloB "_law_rng" (fun K => He.fAd K ("_law_rng", none)),
  gloB "_law_draw" (fun K => He.fAd K ("_law_draw", none)),
  gloB "_law_choice" (fun K => He.fAd K ("_law_choice", none)),
  gloB "_law_is_count" (fun K => He.fAd K ("_law_is_count", none)),
  gloB "_law_is_window" (fun K => He.fAd K ("_law_is_window", none)),
  gloB "_law_odd" (fun K => He.fAd K ("_law_odd", none)),
  gloB "_law_told" (fun K => He.fAd K ("_law_told", none)),
  gloB "_law_singles_right" (fun K => He.fAd K ("_law_singles_right", none)),
  gloB "_law_top" (fun K => He.fAd K ("_law_top", none)),
  gloB "_law_lists_right" (fun K => He.fAd K ("_law_lists_right", none)),
  gloB "_law_number" (fun K => He.fAd K ("_law_number", none)),
  gloB "_law_read" (fun K => He.fAd K ("_law_read", none)),
  gloB "_law_texts_right" (fun K => He.fAd K ("_law_texts_right", none)),
  gloB "law" (fun K => He.fAd K ("law", none)),
  strB "DIGITS" "0123456789",
  intB "MAX_DIGITS" (60),
  strB "DOTS" "..",
  freeB "abs",
  freeB "all",
  freeB "bool",
  freeB "divmod"]
def faL1 : List Fc := [freeB "enumerate",
  freeB "int",
  freeB "isinstance",
  freeB "len",
  freeB "list",
  freeB "max",
  freeB "min",
  freeB "range",
  freeB "repr",
  freeB "str",
  freeB "tuple",
  freeB "zip",
  gloB "GroupError" (fun K => He.ga K "GroupError"),
  gloB "InvalidVersion" (fun K => He.ga K "InvalidVersion"),
  gloB "InvalidWindow" (fun K => He.ga K "InvalidWindow"),
  gloB "InvalidWindows" (fun K => He.ga K "InvalidWindows"),
  gloB "InvalidText" (fun K => He.ga K "InvalidText"),
  sysB,
  cgB,
  fun K => exB K (He.ga K "GroupError") "ValueError.__new__" (tailOf "ValueError"),
  fun K => suB K (He.ga K "GroupError") (rowL (exL K) 16),
  fun K => ibB K (He.ga K "GroupError") "ValueError.__init__",
  fun K => exB K (He.ga K "InvalidVersion") "ValueError.__new__" (tailOf "ValueError"),
  fun K => fdB K (He.ga K "InvalidVersion") ["value"],
  fun K => suB K (He.ga K "InvalidVersion") (rowL (exL K) 20),
  fun K => tyB K (He.fAd K ("InvalidVersion", some "__init__")),
  fun K => exB K (He.ga K "InvalidWindow") "ValueError.__new__" (tailOf "ValueError"),
  fun K => fdB K (He.ga K "InvalidWindow") ["value"],
  fun K => suB K (He.ga K "InvalidWindow") (rowL (exL K) 17),
  fun K => tyB K (He.fAd K ("InvalidWindow", some "__init__")),
  fun K => exB K (He.ga K "InvalidWindows") "ValueError.__new__" (tailOf "ValueError"),
  fun K => fdB K (He.ga K "InvalidWindows") ["position"],
  fun K => suB K (He.ga K "InvalidWindows") (rowL (exL K) 18),
  fun K => tyB K (He.fAd K ("InvalidWindows", some "__init__")),
  fun K => exB K (He.ga K "InvalidText") "ValueError.__new__" (tailOf "ValueError"),
  fun K => fdB K (He.ga K "InvalidText") ["line"],
  fun K => suB K (He.ga K "InvalidText") (rowL (exL K) 24),
  fun K => tyB K (He.fAd K ("InvalidText", some "__init__")),
  fun K => !(tabOf K (codeAt K (He.fAd K ("_law_singles_right", none))) == tabOf K (codeAt K (He.fAd K ("_law_lists_right", none)))),
  fun K => !(tabOf K (codeAt K (He.fAd K ("_law_singles_right", none))) == tabOf K (codeAt K (He.fAd K ("_law_texts_right", none))))]
def faL2 : List Fc := [fun K => !(tabOf K (codeAt K (He.fAd K ("_law_lists_right", none))) == tabOf K (codeAt K (He.fAd K ("_law_texts_right", none))))]
def faL : List Fc := faL0 ++ (faL1 ++ (faL2))
def nmL0 : List PySem.Str := ["GroupError", "InvalidVersion", "InvalidWindow", "InvalidWindows", "InvalidText", "DIGITS", "MAX_DIGITS", "is_integer", "is_version", "require_version", "parse_number", "DOTS", "is_window", "require_window", "require_windows", "reaches", "contains", "rises", "first_falling", "least_reaching"]
def nmL1 : List PySem.Str := ["format_window", "window_in", "parse_window", "_law_rng", "_law_draw", "_law_choice", "_law_is_count", "_law_is_window", "_law_odd", "_law_told", "_law_singles_right", "_law_top", "_law_lists_right", "_law_number", "_law_read", "_law_texts_right"]
def nmL : List PySem.Str := nmL0 ++ (nmL1)
abbrev RH : PySem.W.OpenRow := PySem.W.OpenLaw.row PySem.Challenge.rw_groupsteps_k16_wrong_windows_and_texts
set_option maxHeartbeats 0 in
theorem runF0 (w : World) (os : OsState) : ((HandSHeadRun.endF (HandSHeadRun.stepQ (HandSHeadRun.denQ HandSHeadRun.tabQ) RH.prog w) 20000 RH.prog w os).map fun s => faL0.all fun f => f (frH (HandSHeadRun.getT s) (sysModules :: cStatics :: He.asD (HandSHeadRun.getT s) 4))) = some true := by kernel_rfl
set_option maxHeartbeats 0 in
theorem runF1 (w : World) (os : OsState) : ((HandSHeadRun.endF (HandSHeadRun.stepQ (HandSHeadRun.denQ HandSHeadRun.tabQ) RH.prog w) 20000 RH.prog w os).map fun s => faL1.all fun f => f (frH (HandSHeadRun.getT s) (sysModules :: cStatics :: He.asD (HandSHeadRun.getT s) 4))) = some true := by kernel_rfl
set_option maxHeartbeats 0 in
theorem runF2 (w : World) (os : OsState) : ((HandSHeadRun.endF (HandSHeadRun.stepQ (HandSHeadRun.denQ HandSHeadRun.tabQ) RH.prog w) 20000 RH.prog w os).map fun s => faL2.all fun f => f (frH (HandSHeadRun.getT s) (sysModules :: cStatics :: He.asD (HandSHeadRun.getT s) 4))) = some true := by kernel_rfl
set_option maxHeartbeats 0 in
theorem runD (w : World) (os : OsState) : ((HandSHeadRun.endF (HandSHeadRun.stepQ (HandSHeadRun.denQ HandSHeadRun.tabQ) RH.prog w) 20000 RH.prog w os).map fun s => defsH 4 fnL tbL (HandSHeadRun.getT s)) = some (He.valD fnL) := by kernel_rfl
set_option maxHeartbeats 0 in
theorem runS (w : World) (os : OsState) : ((HandSHeadRun.endF (HandSHeadRun.stepQ (HandSHeadRun.denQ HandSHeadRun.tabQ) RH.prog w) 20000 RH.prog w os).map fun s => (HandSHeadRun.looksF RH.prog (PySem.W.boot_heap w.params) s.abs, HandSHeadRun.seenQ (PySem.W.view RH.prog [40]) nmL (importedModules RH.prog.main.body) (fun s => PySem.W.xlAt (PySem.W.view RH.prog [40]) [] s && PySem.W.recOk RH.toRowW.records s) s.abs)) = some (true, PySem.W.openGood (PySem.W.view RH.prog [40]) nmL) := by kernel_rfl
end KX

namespace KX
open PySem PySem.Spec PyProof.Rows L2

/-! ### calls where the frames' guards are told (repr of containers asks for them) -/
structure Rg (k : Nat) (A : Around) : Prop where
  room : Room k A
  gd : A.guards = some []
theorem Rg.mono {j k : Nat} {A : Around} (r : Rg k A) (h : j ≤ k) : Rg j A := ⟨r.room.mono h, r.gd⟩
theorem Rg.deeper {k : Nat} {A : Around} (r : Rg (k + 1) A) (env : Env) : Rg k (A.deeper env) := ⟨r.room.deeper env, r.gd⟩

structure Fg (P : Program) (w : World) (K : PySem.W.Frag) (mg : Str → Option Value) (base : Heap) (CX : CXT) (k : Nat) (f : Addr) (fd : FuncData) (ps : List Str) (sp : Sp) : Prop where
  len : ∀ vs H Q E, sp vs H Q E → vs.length = ps.length
  run : ∀ (A : Around) (outer : List Env) (s : Shared) (H : Hp) (args : Args) (us : List Value) (vs : List V) (Q : VK) (E : XK), Rg k A → Env0 P w K mg base A outer s H → BindsTo s fd args (ps.zip us) → Vals vs us → sp vs H Q E →
    codeAny (model P w) A (.call (.ref f) args) (CR CX outer P w H s Q E) s
theorem Fg.mono {P : Program} {w : World} {K : PySem.W.Frag} {mg : Str → Option Value} {base : Heap} {CX : CXT} {j k : Nat} {f : Addr} {fd : FuncData} {ps : List Str} {sp : Sp} (F : Fg P w K mg base CX j f fd ps sp) (h : j ≤ k) :
    Fg P w K mg base CX k f fd ps sp := ⟨F.len, fun A outer s H args us vs Q E hr => F.run A outer s H args us vs Q E (hr.mono h)⟩

section
variable {X : Cx} {CX : CXT} {k : Nat} {f C : Addr} {fd : FuncData} {ps : List Str} {sp : Sp} {dvs : List V} {ds : List Value} {E : XK} {x m : Str} {p pos apos : Pos} {e o : Expr} {es : List Expr} {ta : TE} {t : TA}
theorem run_fn {pins : List (Addr × Obj)} {σ : L2.St} {H : Hp} {s : Shared} {Q : VK} {us : List Value} {vs : List V} (F : Fg X.prog X.w X.K X.mg X.base CX k f fd ps sp) (hr : Rg k X.A) (hb : Binds X.K fd ps ds) (hd : Vals dvs ds) (hx : Passes CX X E)
    (I : Inv X pins σ H s) (r : Vals vs us) (h : sp (vs ++ dvs) H Q E) : wpAny (model X.prog X.w) X.A (call (.ref f) us) (EP X pins σ Q) X.xe s := by
  have r2 : Vals (vs ++ dvs) (us ++ ds) := r.append hd
  have hl : (us ++ ds).length = ps.length := by rw [← r2.length]; exact F.len _ _ _ _ h
  refine wpAny_call (codeAny_mono (F.run X.A X.stack s H ⟨us, []⟩ (us ++ ds) (vs ++ dvs) Q E hr I.env0 (hb s us I.kIn hl) r2 h) fun r s' hq => ?_)
  cases r with
  | error e => exact hx pins σ H s e s' I hq
  | ok fl =>
    cases fl with
    | ret u => exact I.after hq
    | next => exact False.elim hq
    | brk => exact False.elim hq
    | cont => exact False.elim hq
theorem pe_call (F : Fg X.prog X.w X.K X.mg X.base CX k f fd ps sp) (hr : Rg k X.A) (hg : Gl X x) (hm : X.mg x = some (.ref f)) (hk : PySem.W.keepIn X.K (.ref f) = true) (hb : Binds X.K fd ps ds) (hd : Vals dvs ds) (hx : Passes CX X E)
    (ha : PA X (e :: es) t) (hdb : (x == ("__debug__" : Str)) = false := by decide) (he : starEach (e :: es) X.env = (false, eval e X.env) :: starEach es X.env := by rfl) (hpl : (backTo pos (starEach es X.env)).any (·.1) = false := by rfl) :
    PE X (.Call (.Name x p) (e :: es) [] pos) (tCall sp dvs E t) := by
  refine ⟨fun pins s σ H Q I h => ?_⟩
  refine wpAny_Call_Name_kw (ld_glob I hg hm ?_ hdb)
  refine PySem.W.callWith_K (h₀ := X.base) I.ok.mod.kin hk (thn (ha.run pos pins s σ H _ I h) fun us s1 ⟨vs, H1, I1, r, q⟩ => ⟨I1.kIn, ?_⟩) he hpl
  exact run_fn F hr hb hd hx I1 r q
theorem pe_call0 (F : Fg X.prog X.w X.K X.mg X.base CX k f fd ps sp) (hr : Rg k X.A) (hg : Gl X x) (hm : X.mg x = some (.ref f)) (hk : PySem.W.keepIn X.K (.ref f) = true) (hb : Binds X.K fd ps ds) (hd : Vals dvs ds) (hx : Passes CX X E)
    (hdb : (x == ("__debug__" : Str)) = false := by decide) : PE X (.Call (.Name x p) [] [] pos) (tCall sp dvs E tNil) := by
  refine ⟨fun pins s σ H Q I h => ?_⟩
  refine wpAny_Call_Name_kw (ld_glob I hg hm ?_ hdb)
  exact PySem.W.callWith_K0 I.kIn hk (run_fn (us := []) F hr hb hd hx I .nil h)
end

theorem fg_of {CX : CXT} {P : Program} {w : World} {K : PySem.W.Frag} {mg : Str → Option Value} {base : Heap} {k : Nat} {f : Addr} {name qual : Str} {params : Arguments} {body : List Stmt} {scope : Scope} {dV kV doc pm cdv ct oc : Value} {an od : Option Addr}
    {osl : Array (Option Value)} {N ps : List Str} {sp : Sp} (lk : K.lookup f = some ⟨oc, od, .func (PySem.W.fnOf name qual params body scope dV kV doc pm an cdv ct), osl⟩) (hcd : PySem.W.codeIn K cdv qual = true) (S : FnScope N ps scope)
    (len : ∀ vs H Q E, sp vs H Q E → vs.length = ps.length)
    (hbody : ∀ (A : Around) (outer : List Env) (s : Shared) (H : Hp) (vs : List V) (Q : VK) (E : XK), Rg k (A.deeper (envOfC qual scope s.heap.objs.size f cdv)) → sp vs H Q E →
      ∃ t, PSs (cxOf CX P w K mg base N qual scope f cdv A outer s H E) body t ∧ t { nx := fun _ H' => Q .non H', rt := Q } (start N vs) H) :
    Fg P w K mg base CX (k + 1) f (PySem.W.fnOf name qual params body scope dV kV doc pm an cdv ct) ps sp := by
  refine ⟨len, fun A outer s H args us vs Q E hrg e0 hb r hsp => ?_⟩
  have hr := hrg.room
  have hl := len _ _ _ _ hsp
  have KX : K.In s.heap := e0.mod.kin.keeps fun b o e => (e0.bs b o e).1
  have lim : s.heap.NoLimit := e0.mod.nolimit.keeps fun b o e => (e0.bs b o e).1
  have hkind : ∀ y ∈ ps.zip us, scope.names.lookup y.1 = some .local ∨ (scope.names.lookup y.1 = some .cell ∧ ((cellsFrom (s.heap.objs.size + 1) scope.names []).lookup y.1).isSome = true) := fun ⟨n, v⟩ hy => by
    rcases S.par n (List.of_mem_zip hy).1 with q | q
    · exact .inl q
    · exact .inr ⟨q, PySem.W.cellsFrom_some _ _ _ (.inl q)⟩
  refine codeAny_call_function hr.depth (KX _ _ lk) rfl S.co S.gen rfl (PySem.W.codeRec_of KX hcd) (hb _ _ _ _ ?_)
  refine wpAny_newFunctionEnv_cells S.kind hkind fun env he s1 x => ?_
  subst he
  refine ⟨lim.keeps x.toInCall.keep, codeAny_func ?_⟩
  obtain ⟨t, ht, hq⟩ := hbody A outer s H vs Q E (hrg.deeper _) hsp
  have I : Inv (cxOf CX P w K mg base N qual scope f cdv A outer s H E) [] (start N vs) H s1 := inv_start S hr.hd e0 hl r x
  refine wpAny_mono (ht.run [] s1 (start N vs) H _ I hq) (fun fl s' hs => ?_) fun e s' hs => hs
  have fin : ∀ {σ' : L2.St} {H' : Hp} {v : V} {u : Value}, Inv (cxOf CX P w K mg base N qual scope f cdv A outer s H E) [] σ' H' s' → RelV v u → Q v H' → CE outer P w H s Q u s' :=
    fun {σ' H' v u} J rv q => ⟨v, H', J.os, J.bare, J.base, J.hok, rv, q⟩
  cases fl with
  | ret u =>
    obtain ⟨v, σ', H', J, rv, q⟩ := hs
    exact fin J rv q
  | next =>
    obtain ⟨σ', H', J, q⟩ := hs
    exact fin (v := V.non) (u := Value.none) J rfl q
  | brk =>
    obtain ⟨_, _, _, q⟩ := hs
    exact False.elim q
  | cont =>
    obtain ⟨_, _, _, q⟩ := hs
    exact False.elim q
section
variable {P : Program} {w : World} {K : PySem.W.Frag} {mg : Str → Option Value} {base : Heap}
theorem ok_g {x qual : Str} {st : Stmt} {f : Addr} {fd : FuncData} {N ps : List Str} {k : Nat} {sp : Sp} (F : Fun K x qual st f fd) (S : FnScope N ps (defScope st)) (len : ∀ vs H Q E, sp vs H Q E → vs.length = ps.length)
    (hbody : ∀ (cdv : Value) (A : Around) (outer : List Env) (s : Shared) (H : Hp) (vs : List V) (Q : VK) (E : XK), Rg k (A.deeper (envOfC qual (defScope st) s.heap.objs.size f cdv)) → sp vs H Q E →
      ∃ t, PSs (cxOf CX0 P w K mg base N qual (defScope st) f cdv A outer s H E).nox (defBody st) t ∧ t { nx := fun _ H' => Q .non H', rt := Q } (start N vs) H) : Fg P w K mg base CX0 (k + 1) f fd ps sp := by
  obtain ⟨oc, od, kV, doc, pm, an, cdv, ct, osl, rfl, lk, hcd⟩ := F.ex
  refine fg_of lk hcd S len fun A outer s H vs Q E hr hsp => ?_
  obtain ⟨t, h, q⟩ := hbody cdv A outer s H vs Q E hr hsp
  exact ⟨t, h.nox, q⟩
theorem ok_gX {x qual : Str} {st : Stmt} {f : Addr} {fd : FuncData} {N ps : List Str} {k : Nat} {sp : Sp} {CX : CXT} (F : Fun K x qual st f fd) (S : FnScope N ps (defScope st)) (len : ∀ vs H Q E, sp vs H Q E → vs.length = ps.length)
    (hbody : ∀ (cdv : Value) (A : Around) (outer : List Env) (s : Shared) (H : Hp) (vs : List V) (Q : VK) (E : XK), Rg k (A.deeper (envOfC qual (defScope st) s.heap.objs.size f cdv)) → sp vs H Q E →
      ∃ t, PSs (cxOf CX P w K mg base N qual (defScope st) f cdv A outer s H E) (defBody st) t ∧ t { nx := fun _ H' => Q .non H', rt := Q } (start N vs) H) : Fg P w K mg base CX (k + 1) f fd ps sp := by
  obtain ⟨oc, od, kV, doc, pm, an, cdv, ct, osl, rfl, lk, hcd⟩ := F.ex
  exact fg_of lk hcd S len fun A outer s H vs Q E hr hsp => hbody cdv A outer s H vs Q E hr hsp
end

/-! ### data at any depth, dicts with int and text keys among them -/
def keyD : Key → PyData
  | .inl i => .int i
  | .inr x => .str x
mutual
inductive DaF (b : Bool) (K : PySem.W.Frag) (H : Hp) : V → PyData → Prop
  | non : DaF b K H .non .none
  | bl (c : Bool) : DaF b K H (.bl c) (.bool c)
  | int (i : Int) : DaF b K H (.int i) (.int i)
  | str (x : Str) : DaF b K H (.str x) (.str x)
  | lst {a : Addr} {xs : List V} {ds : List PyData} : SqL K H a xs → (b = true → a ≠ sysModules) → DaAllF b K H xs ds → DaF b K H (.ref a) (.list ds)
  | tup {a : Addr} {xs : List V} {ds : List PyData} : SqT K H a xs → DaAllF b K H xs ds → DaF b K H (.ref a) (.tuple ds)
  | dic {a : Addr} {kvs : List (Key × V)} {dk : List (PyData × PyData)} : Rd H a (.dK kvs) → DaKvF b K H kvs dk → DaF b K H (.ref a) (.dict dk)
inductive DaAllF (b : Bool) (K : PySem.W.Frag) (H : Hp) : List V → List PyData → Prop
  | nil : DaAllF b K H [] []
  | cons {v : V} {vs : List V} {d : PyData} {ds : List PyData} : DaF b K H v d → DaAllF b K H vs ds → DaAllF b K H (v :: vs) (d :: ds)
inductive DaKvF (b : Bool) (K : PySem.W.Frag) (H : Hp) : List (Key × V) → List (PyData × PyData) → Prop
  | nil : DaKvF b K H [] []
  | cons {k : Key} {v : V} {kvs : List (Key × V)} {d : PyData} {ds : List (PyData × PyData)} : DaF b K H v d → DaKvF b K H kvs ds → DaKvF b K H ((k, v) :: kvs) ((keyD k, d) :: ds)
end
theorem Rd.same {H H' : Hp} {a : Addr} {u : HO} (e : Same H H') (r : Rd H a u) : Rd H' a u := by
  rcases r with r | ⟨o, r⟩
  · exact .inl (e _ _ r)
  · exact .inr ⟨o, e _ _ r⟩
theorem same_seqT {K : PySem.W.Frag} {H H' : Hp} {a : Addr} {xs : List V} (e : Same H H') (h : SqT K H a xs) : SqT K H' a xs := by
  rcases h with h | h
  · exact .inl (Rd.same e h)
  · exact .inr h
mutual
theorem DaF.same {b : Bool} {K : PySem.W.Frag} {H H' : Hp} (e : Same H H') : ∀ {v : V} {d : PyData}, DaF b K H v d → DaF b K H' v d
  | _, _, .non => .non
  | _, _, .bl b => .bl b
  | _, _, .int i => .int i
  | _, _, .str x => .str x
  | _, _, .lst h n a => .lst (e.seq h) n (DaAllF.same e a)
  | _, _, .tup h a => .tup (same_seqT e h) (DaAllF.same e a)
  | _, _, .dic h a => .dic (Rd.same e h) (DaKvF.same e a)
theorem DaAllF.same {b : Bool} {K : PySem.W.Frag} {H H' : Hp} (e : Same H H') : ∀ {vs : List V} {ds : List PyData}, DaAllF b K H vs ds → DaAllF b K H' vs ds
  | _, _, .nil => .nil
  | _, _, .cons a r => .cons (DaF.same e a) (DaAllF.same e r)
theorem DaKvF.same {b : Bool} {K : PySem.W.Frag} {H H' : Hp} (e : Same H H') : ∀ {kvs : List (Key × V)} {ds : List (PyData × PyData)}, DaKvF b K H kvs ds → DaKvF b K H' kvs ds
  | _, _, .nil => .nil
  | _, _, .cons a r => .cons (DaF.same e a) (DaKvF.same e r)
end
/-- the records of a dict read -/
theorem kv_reads {P : Program} {w : World} {h : Heap} {vs : List (Key × Value)} : ∀ {es : List DictEntry} {kvs : List (Key × V)} {dk : List (PyData × PyData)}, Pairs (mixKind P w) es vs → (dk.map (·.1)) = vs.map (fun p => keyD p.1) → ∃ as, ReadsAll h (es.map (·.key)) (dk.map (·.1)) as ∧ as = [] := by
  intro es kvs dk hp he
  rw [he]
  clear he
  induction hp with
  | nil => exact ⟨_, ReadsAll.nil, rfl⟩
  | @cons e kv es kvs hk hv hr ih =>
    obtain ⟨as, q, rfl⟩ := ih
    have hk' : keyIs kv.1 e.key = true := hk
    rcases keyIs_shape hk' with ⟨i, t, e1, e2⟩ | ⟨x, t, e1, e2⟩
    · refine ⟨[] ++ [], ReadsAll.cons (d := keyD kv.1) (v := e.key) (as := []) ?_ q, rfl⟩
      rw [e1, e2]; exact Reads.int i t
    · refine ⟨[] ++ [], ReadsAll.cons (d := keyD kv.1) (v := e.key) (as := []) ?_ q, rfl⟩
      rw [e1, e2]; exact Reads.str x t
theorem dakv_keys {b : Bool} {K : PySem.W.Frag} {H : Hp} : ∀ {kvs : List (Key × V)} {dk : List (PyData × PyData)}, DaKvF b K H kvs dk → dk.map (·.1) = kvs.map (fun p => keyD p.1)
  | _, _, .nil => rfl
  | _, _, .cons a r => by rw [List.map_cons, List.map_cons, dakv_keys r]
theorem dakv_vals {b : Bool} {K : PySem.W.Frag} {H : Hp} : ∀ {kvs : List (Key × V)} {dk : List (PyData × PyData)}, DaKvF b K H kvs dk → DaAllF b K H (kvs.map (·.2)) (dk.map (·.2))
  | _, _, .nil => .nil
  | _, _, .cons a r => .cons a (dakv_vals r)
theorem kv_keys : ∀ {kvs : List (Key × V)} {vs : List (Key × Value)}, KV kvs vs → kvs.map (fun p => keyD p.1) = vs.map (fun p => keyD p.1)
  | _, _, .nil => rfl
  | _, _, .cons a r => by rw [List.map_cons, List.map_cons, kv_keys r, a.1]
theorem kv_vals : ∀ {kvs : List (Key × V)} {vs : List (Key × Value)}, KV kvs vs → Vals (kvs.map (·.2)) (vs.map (·.2))
  | _, _, .nil => .nil
  | _, _, .cons a r => .cons a.2 (kv_vals r)
theorem pairs_vals {P : Program} {w : World} : ∀ {es : List DictEntry} {vs : List (Key × Value)}, Pairs (mixKind P w) es vs → es.map (·.val) = vs.map (·.2)
  | _, _, .nil => rfl
  | _, _, .cons _ hv r => by rw [List.map_cons, List.map_cons, hv, pairs_vals r]
section
variable {X : Cx} {pins : List (Addr × Obj)} {σ : L2.St} {H : Hp} {s : Shared}
mutual
theorem DaF.reads {b : Bool} (I : Inv X pins σ H s) : ∀ (d : PyData) (v : V) (u : Value), DaF b X.K H v d → RelV v u → ∃ as, Reads s.heap u d as ∧ (b = true → sysModules ∉ as)
  | .none, _, _, h, r => by
    cases h; cases r
    exact ⟨_, Reads.none, fun _ => by simp⟩
  | .bool b, _, _, h, r => by
    cases h; cases r
    exact ⟨_, Reads.bool b, fun _ => by simp⟩
  | .int i, _, _, h, r => by
    cases h
    obtain ⟨t, rfl⟩ := r
    exact ⟨_, Reads.int i t, fun _ => by simp⟩
  | .str x, _, _, h, r => by
    cases h
    obtain ⟨t, rfl⟩ := r
    exact ⟨_, Reads.str x t, fun _ => by simp⟩
  | .list ds, _, _, h, r => by
    cases h with
    | lst hq hne ha =>
      cases r
      obtain ⟨its, rv, ⟨o, n, ho, hc, _, hd⟩, _⟩ := I.list hq
      obtain ⟨as, hr, hn⟩ := DaF.readsAll I ds _ its ha rv
      refine ⟨_, Reads.list ho hc hd hr, ?_⟩
      intro hb hm
      rcases List.mem_cons.mp hm with e | hm
      · exact hne hb e.symm
      · exact hn hb hm
  | .tuple ds, _, _, h, r => by
    cases h with
    | tup hq ha =>
      cases r
      obtain ⟨its, rv, ⟨o, ho, hc, n, hd⟩, _⟩ := I.tuple hq
      obtain ⟨as, hr, hn⟩ := DaF.readsAll I ds _ its ha rv
      exact ⟨_, Reads.tuple ho hc hd hr, hn⟩
  | .dict dk, _, _, h, r => by
    cases h with
    | dic hq ha =>
      cases r
      obtain ⟨_, hsys, vs, kv, o, es, ep, ho, hx, hd, _, hp, _⟩ := hq.ok I.hok
      obtain ⟨as1, r1, e1⟩ := kv_reads (h := s.heap) (kvs := []) (dk := dk) hp ((dakv_keys ha).trans (kv_keys kv))
      obtain ⟨as2, r2, hn⟩ := DaF.readsKv I dk _ (vs.map (·.2)) ha (kv_vals kv)
      subst e1
      refine ⟨_, Reads.dict ho hx.1 hd r1 (by rw [pairs_vals hp]; exact r2), ?_⟩
      intro hb hm
      rcases List.mem_append.mp hm with hm | hm
      · rcases List.mem_cons.mp hm with e | hm
        · rw [← e] at hsys; simp at hsys
        · simp at hm
      · exact hn hb hm
theorem DaF.readsAll {b : Bool} (I : Inv X pins σ H s) : ∀ (ds : List PyData) (vs : List V) (us : List Value), DaAllF b X.K H vs ds → Vals vs us → ∃ as, ReadsAll s.heap us ds as ∧ (b = true → sysModules ∉ as)
  | [], _, _, h, r => by
    cases h; cases r
    exact ⟨_, ReadsAll.nil, fun _ => by simp⟩
  | d :: ds, _, _, h, r => by
    cases h with
    | cons h1 h2 =>
      cases r with
      | cons r1 r2 =>
        obtain ⟨as, q1, n1⟩ := DaF.reads I d _ _ h1 r1
        obtain ⟨bs, q2, n2⟩ := DaF.readsAll I ds _ _ h2 r2
        exact ⟨_, ReadsAll.cons q1 q2, fun hb hm => (List.mem_append.mp hm).elim (n1 hb) (n2 hb)⟩
theorem DaF.readsKv {b : Bool} (I : Inv X pins σ H s) : ∀ (dk : List (PyData × PyData)) (kvs : List (Key × V)) (us : List Value), DaKvF b X.K H kvs dk → Vals (kvs.map (·.2)) us → ∃ as, ReadsAll s.heap us (dk.map (·.2)) as ∧ (b = true → sysModules ∉ as)
  | [], _, _, h, r => by
    cases h; cases r
    exact ⟨_, ReadsAll.nil, fun _ => by simp⟩
  | (_, d) :: dk, _, _, h, r => by
    cases h with
    | cons h1 h2 =>
      cases r with
      | cons r1 r2 =>
        obtain ⟨as, q1, n1⟩ := DaF.reads I d _ _ h1 r1
        obtain ⟨bs, q2, n2⟩ := DaF.readsKv I dk _ _ h2 r2
        exact ⟨_, ReadsAll.cons q1 q2, fun hb hm => (List.mem_append.mp hm).elim (n1 hb) (n2 hb)⟩
end
/-- what may be shown -/
structure Shw (d : PyData) : Prop where
  sh : d.showable = true
  dp : d.depth ≤ 20
  sz : d.shown.length ≤ sizeLine
theorem call_reprD (hgd : X.A.guards = some []) (hu : X.A.units + 100 < cLine) : CallR X (.builtin "repr") (fun xs H Q => ∃ b v d, xs = [v] ∧ DaF b X.K H v d ∧ (b = true ∨ d.hasDict = false) ∧ Shw d ∧ Q (.str d.shown) H) := by
  intro pins s σ H xs us Q I r h
  obtain ⟨b, v, d, rfl, hd, hb, hw, q⟩ := h
  obtain ⟨u, rfl, rv⟩ := vals1 r
  cases hd with
  | non =>
    cases rv
    refine PySem.P.repr_of_none ⟨.str _, H, I.tok _, ⟨_, rfl⟩, ?_⟩
    simpa only [PyData.shown] using q
  | bl b =>
    cases rv
    refine PySem.P.repr_of_bool ⟨.str _, H, I.tok _, ⟨_, rfl⟩, ?_⟩
    simpa only [PyData.shown] using q
  | int i =>
    obtain ⟨t, rfl⟩ := rv
    refine PySem.P.repr_of_int (by have := hw.sh; simpa [PyData.showable] using this) ⟨.str _, H, I.tok _, ⟨_, rfl⟩, ?_⟩
    simpa only [PyData.shown] using q
  | str x =>
    obtain ⟨t, rfl⟩ := rv
    refine PySem.P.repr_of_str ⟨.str _, H, I.tok _, ⟨_, rfl⟩, ?_⟩ (by have := hw.sz; simpa only [PyData.shown] using this)
    simpa only [PyData.shown] using q
  | lst h1 h0 h2 =>
    obtain ⟨as, hR, hn⟩ := DaF.reads I _ _ _ (.lst h1 h0 h2) rv
    cases rv
    exact repr_of_reads' hR hw.sh (fun z => hn (hb.resolve_right (by rw [z]; exact Bool.noConfusion))) hgd (by have := hw.dp; omega) (fun _ _ e => e) (fun h' u tk k => ⟨.str _, H, I.kept k, ⟨_, rfl⟩, q⟩) hw.sz
  | tup h1 h2 =>
    obtain ⟨as, hR, hn⟩ := DaF.reads I _ _ _ (.tup h1 h2) rv
    cases rv
    exact repr_of_reads' hR hw.sh (fun z => hn (hb.resolve_right (by rw [z]; exact Bool.noConfusion))) hgd (by have := hw.dp; omega) (fun _ _ e => e) (fun h' u tk k => ⟨.str _, H, I.kept k, ⟨_, rfl⟩, q⟩) hw.sz
  | dic h1 h2 =>
    obtain ⟨as, hR, hn⟩ := DaF.reads I _ _ _ (.dic h1 h2) rv
    cases rv
    exact repr_of_reads' hR hw.sh (fun z => hn (hb.resolve_right (by rw [z]; exact Bool.noConfusion))) hgd (by have := hw.dp; omega) (fun _ _ e => e) (fun h' u tk k => ⟨.str _, H, I.kept k, ⟨_, rfl⟩, q⟩) hw.sz
end
abbrev Da := DaF false
abbrev DaAll := DaAllF false
abbrev DaKv := DaKvF false
abbrev DaS := DaF true
abbrev DaAllS := DaAllF true
theorem Da.lst {K : PySem.W.Frag} {H : Hp} {a : Addr} {xs : List V} {ds : List PyData} (h : SqL K H a xs) (k : DaAll K H xs ds) : Da K H (.ref a) (.list ds) := DaF.lst h Bool.noConfusion k
mutual
theorem DaF.da {b : Bool} {K : PySem.W.Frag} {H : Hp} : ∀ {v : V} {d : PyData}, DaF b K H v d → Da K H v d
  | _, _, .non => DaF.non
  | _, _, .bl c => DaF.bl c
  | _, _, .int i => DaF.int i
  | _, _, .str x => DaF.str x
  | _, _, .lst h _ a => DaF.lst h Bool.noConfusion (DaAllF.da a)
  | _, _, .tup h a => DaF.tup h (DaAllF.da a)
  | _, _, .dic h a => DaF.dic h (DaKvF.da a)
theorem DaAllF.da {b : Bool} {K : PySem.W.Frag} {H : Hp} : ∀ {vs : List V} {ds : List PyData}, DaAllF b K H vs ds → DaAll K H vs ds
  | _, _, .nil => DaAllF.nil
  | _, _, .cons a r => DaAllF.cons (DaF.da a) (DaAllF.da r)
theorem DaKvF.da {b : Bool} {K : PySem.W.Frag} {H : Hp} : ∀ {kvs : List (Key × V)} {ds : List (PyData × PyData)}, DaKvF b K H kvs ds → DaKv K H kvs ds
  | _, _, .nil => DaKvF.nil
  | _, _, .cons a r => DaKvF.cons (DaF.da a) (DaKvF.da r)
end
end KX

namespace KX
open PySem PySem.Spec PyProof.Rows L2
/-! ### the readings, by their heads: one row a reading, for a stepping that looks at the head alone -/
theorem Same.get {H H' : Hp} {a : Addr} {o : HO} (s : Same H H') (h : H a = some o) : H' a = some o := s _ _ h
/-- all but what stands at r is as it was -/
def Off (r : Addr) (H H' : Hp) : Prop := ∀ b o, b ≠ r → H b = some o → H' b = some o
theorem Off.get {r : Addr} {H H' : Hp} {a : Addr} {o : HO} (s : Off r H H') (n : a ≠ r) (h : H a = some o) : H' a = some o := s _ _ n h
theorem Off.refl (r : Addr) (H : Hp) : Off r H H := fun _ _ _ e => e
theorem Off.trans {r : Addr} {H H1 H2 : Hp} (a : Off r H H1) (b : Off r H1 H2) : Off r H H2 := fun c o n e => b c o n (a c o n e)
theorem Off.of_same {r : Addr} {H H' : Hp} (a : Same H H') : Off r H H' := fun c o _ e => a c o e
theorem off_upd {r : Addr} {H : Hp} {o : HO} : Off r H (L2.upd H r o) := fun c u n e => by
  rw [upd_ne n]; exact e
theorem same_new {H : Hp} {p : Addr} {o : HO} (h : H p = none) : Same H (L2.upd H p o) := fun b x e => by
  rw [upd_ne (ne_of_none e h)]; exact e
/-- what is written at an address that was free leaves all as it was -/
theorem Off.new {p : Addr} {H H1 H2 : Hp} (n : H p = none) (a : Same H H1) (b : Off p H1 H2) : Same H H2 := fun c o e => b c o (ne_of_none e n) (a c o e)
theorem Off.thenS {r : Addr} {H H1 H2 : Hp} (b : Same H1 H2) (a : Off r H H1) : Off r H H2 := a.trans (.of_same b)
theorem Off.thenO {r : Addr} {H H1 H2 : Hp} (b : Off r H1 H2) (a : Off r H H1) : Off r H H2 := a.trans b
theorem Off.thenF {r p : Addr} {H H0 H1 H2 : Hp} (b : Off p H1 H2) (n : H0 p = none) (a0 : Off r H H0) (a : Off r H H1) : Off r H H2 := fun c o hc e => b c o (ne_of_none (a0 c o hc e) n) (a c o hc e)
theorem Same.thenS {H H1 H2 : Hp} (b : Same H1 H2) (a : Same H H1) : Same H H2 := a.trans b
theorem Same.thenF {p : Addr} {H H0 H1 H2 : Hp} (b : Off p H1 H2) (n : H0 p = none) (a0 : Same H H0) (a : Same H H1) : Same H H2 := fun c o e => b c o (ne_of_none (a0 c o e) n) (a c o e)
theorem ne_some {H : Hp} {a b : Addr} {o : HO} (h' : H b = none) (h : H a = some o) : a ≠ b := ne_of_none h h'
/-- a new object: what follows, in the rules' form and over a heap that is told by what it holds -/
def NewR (H : Hp) (o : HO) (Q : VK) : Prop := ∀ p, H p = none → Q (.ref p) (upd H p o)
def New (H : Hp) (o : HO) (Q : VK) : Prop := ∀ p H', H p = none → Same H H' → H' p = some o → Q (.ref p) H'
theorem i_new {H : Hp} {o : HO} {Q : VK} (q : ∀ p H', H p = none → Same H H' → H' p = some o → Q (.ref p) H') : NewR H o Q := fun p hp => q p _ hp (same_new hp) upd_same
def PutR (H : Hp) (p : Addr) (o : HO) (R : Hp → Prop) : Prop := R (upd H p o)
theorem i_put {H : Hp} {p : Addr} {o : HO} {R : Hp → Prop} (q : ∀ H', Off p H H' → H' p = some o → R H') : PutR H p o R := q _ off_upd upd_same
def DispR (trs : List (TE × TE)) (σ : L2.St) (H : Hp) (Q : VK) : Prop := ∀ p, H p = none → tPairs trs σ (upd H p (.dK [])) fun ps H2 => H2 p = some (.dK []) ∧ ∃ kvs : List (Key × V), ps = kvs.map (fun kv => (kV kv.1, kv.2)) ∧ kvs.length ≤ 15 ∧ PutR H2 p (.dK (mergeK [] kvs)) (Q (.ref p))
theorem i_dispR {trs : List (TE × TE)} {σ : L2.St} {H : Hp} {Q : VK} (q : ∀ p H1, H p = none → Same H H1 → H1 p = some (.dK []) → tPairs trs σ H1 fun ps H2 => H2 p = some (.dK []) ∧ ∃ kvs : List (Key × V), ps = kvs.map (fun kv => (kV kv.1, kv.2)) ∧ kvs.length ≤ 15 ∧ PutR H2 p (.dK (mergeK [] kvs)) (Q (.ref p))) : DispR trs σ H Q := fun p hp => q p _ hp (same_new hp) upd_same
/-- loops and comprehensions over an iterator J -/
def ForR (J : It) (g : TG) (tb : TS) (D : Ends) (σ : L2.St) (H : Hp) : Prop := ∃ W : Nat → Nat → L2.St → Hp → Prop, (∃ m, W 0 m σ H) ∧ ∀ i m σ H, W i m σ H →
  (J.stop i H ∧ D.nx σ H) ∨ (J.go i H ∧ ∃ N : L2.St → Hp → Prop, (∀ σ' H', N σ' H' → ∃ m', m' < m ∧ W (i + 1) m' σ' H') ∧ ∀ x H', J.yld i H x H' → g x σ H' fun σ2 H2 => tb { D with nx := N, ct := N, bk := D.nx } σ2 H2)
def LcR (J : It) (g : TG) (tt : TT) (te : TE) (vs : List Nat) (σ : L2.St) (H1 : Hp) (Q : VK) : Prop := ∀ D, H1 D = none → ∃ W : Nat → Nat → Hp → Prop, (∃ m, W 0 m (upd H1 D (.lst []))) ∧ ∀ i m H, W i m H →
  (J.stop i H ∧ Q (.ref D) H) ∨ (J.go i H ∧ ∃ Nx : Hp → Prop, (∀ H', Nx H' → ∃ m', m' < m ∧ W (i + 1) m' H') ∧ ∀ x H', J.yld i H x H' → g x (wipe σ vs) H' fun σ2 H2 => wipe σ2 vs = wipe σ vs ∧ tt σ2 H2 fun b H3 =>
    if b = true then te σ2 H3 fun y H4 => ∃ acc, H4 D = some (.lst acc) ∧ acc.length < sizeLine ∧ Nx (upd H4 D (.lst (acc ++ [y]))) else Nx H3)
/-- J walks the items xs while G stands -/
structure Wk (J : It) (xs : List V) (G : Hp → Prop) : Prop where
  go : ∀ i H, G H → i < xs.length → J.go i H
  yl : ∀ i H x H', G H → J.yld i H x H' → i < xs.length → H' = H ∧ xs[i]? = some x
  st : ∀ i H, G H → xs.length ≤ i → J.stop i H
theorem wk_list {K : PySem.W.Frag} {a : Addr} {xs : List V} : Wk (Itl K a) xs fun H => SqL K H a xs where
  go := fun i H g h => ⟨xs, xs[i], g, by simp [h]⟩
  yl := fun i H x H' g y _ => ⟨y.1, y.2 xs g⟩
  st := fun i H g h => ⟨xs, g, h⟩
theorem wk_tup {K : PySem.W.Frag} {a : Addr} {xs : List V} : Wk (Itt K a) xs fun H => SqT K H a xs where
  go := fun i H g h => ⟨xs, xs[i], g, by simp [h]⟩
  yl := fun i H x H' g y _ => ⟨y.1, y.2 xs g⟩
  st := fun i H g h => ⟨xs, g, h⟩
def rangeV (lo : Int) (n : Nat) : List V := (List.range n).map fun i : Nat => V.int (lo + i)
theorem rangeV_len (lo : Int) (n : Nat) : (rangeV lo n).length = n := by simp [rangeV]
theorem rangeV_get {lo : Int} {n i : Nat} (h : i < n) : (rangeV lo n)[i]? = some (V.int (lo + i)) := by simp [rangeV, h]
theorem wk_range {lo : Int} {n : Nat} : Wk (Itr lo n) (rangeV lo n) fun _ => True where
  go := fun i H _ h => by rw [rangeV_len] at h; exact h
  yl := fun i H x H' _ y h => ⟨y.1, by rw [rangeV_len] at h; rw [rangeV_get h, y.2]⟩
  st := fun i H _ h => by rw [rangeV_len] at h; exact h
def signsV (x : Str) : List V := x.cps.toList.map fun c => V.str ⟨#[c]⟩
theorem signsV_len (x : Str) : (signsV x).length = x.cps.size := by simp [signsV]
theorem wk_str {x : Str} : Wk (Its x) (signsV x) fun _ => True where
  go := fun i H _ h => by rw [signsV_len] at h; exact h
  yl := fun i H v H' _ y h => by
    obtain ⟨e, c, hc, hv⟩ := y
    refine ⟨e, ?_⟩
    rw [hv]
    simp [signsV, hc]
  st := fun i H _ h => by rw [signsV_len] at h; exact h
theorem f_wk {J : It} {xs : List V} {G : Hp → Prop} (W : Wk J xs G) {g : TG} {tb : TS} {f b k : L2.St → Hp → Prop} {Q : VK} {σ : L2.St} {H : Hp} (Pv : Nat → L2.St → Hp → Prop) (h0 : Pv 0 σ H) (hG : ∀ i σ H, Pv i σ H → G H)
    (hs : ∀ i x σ H, xs[i]? = some x → Pv i σ H → g x σ H fun σ2 H2 => tb ⟨Pv (i + 1), Q, f, Pv (i + 1)⟩ σ2 H2) (hd : ∀ σ H, Pv xs.length σ H → f σ H) : ForR J g tb ⟨f, Q, b, k⟩ σ H := by
  refine ⟨fun i m σ H => m = xs.length - i ∧ i ≤ xs.length ∧ Pv i σ H, ⟨xs.length, by simp, Nat.zero_le _, h0⟩, ?_⟩
  rintro i m σ H ⟨rfl, hi, p⟩
  by_cases hlt : i < xs.length
  · refine .inr ⟨W.go i H (hG _ _ _ p) hlt, Pv (i + 1), fun σ' H' p' => ⟨xs.length - (i + 1), by omega, rfl, hlt, p'⟩, fun x H' y => ?_⟩
    obtain ⟨e, y2⟩ := W.yl i H x H' (hG _ _ _ p) y hlt
    subst e
    exact hs i x σ _ y2 p
  · have e : i = xs.length := by omega
    subst e
    exact .inl ⟨W.st _ H (hG _ _ _ p) (Nat.le_refl _), hd σ H p⟩
/-- the comprehension's list gets its next item -/
def LcEl (D : Addr) (P1 : List V → Hp → Prop) (y : V) (H4 : Hp) : Prop := ∃ acc, H4 D = some (.lst acc) ∧ acc.length < sizeLine ∧ PutR H4 D (.lst (acc ++ [y])) fun H => ∃ ys, P1 ys H
theorem i_lcEl {D : Addr} {P1 : List V → Hp → Prop} {y : V} {H : Hp} {acc : List V} (h : H D = some (.lst acc)) (z : acc.length < sizeLine) (q : ∀ H', Off D H H' → H' D = some (.lst (acc ++ [y])) → P1 (acc ++ [y]) H') : LcEl D P1 y H :=
  ⟨acc, h, z, _, q _ off_upd upd_same⟩
theorem l_wk {J : It} {xs : List V} {G : Hp → Prop} (W : Wk J xs G) {g : TG} {tt : TT} {te : TE} {vs : List Nat} {Q : VK} {σ : L2.St} {H1 : Hp}
    (q : ∀ D H0, H1 D = none → Same H1 H0 → H0 D = some (.lst []) → ∃ Pv : Nat → List V → Hp → Prop, Pv 0 [] H0 ∧ (∀ i ys H, Pv i ys H → G H) ∧
      (∀ i ys x H, xs[i]? = some x → Pv i ys H → g x (wipe σ vs) H fun σ2 H2 => wipe σ2 vs = wipe σ vs ∧ tt σ2 H2 fun b H3 =>
        if b = true then te σ2 H3 fun y H4 => LcEl D (Pv (i + 1)) y H4 else ∃ ys, Pv (i + 1) ys H3) ∧
      (∀ ys H, Pv xs.length ys H → Q (.ref D) H)) : LcR J g tt te vs σ H1 Q := by
  intro D hD
  obtain ⟨Pv, h0, hG, hs, hd⟩ := q D _ hD (same_new hD) upd_same
  refine ⟨fun i m H => m = xs.length - i ∧ i ≤ xs.length ∧ ∃ ys, Pv i ys H, ⟨xs.length, by simp, Nat.zero_le _, _, h0⟩, ?_⟩
  rintro i m H ⟨rfl, hi, ys, p⟩
  by_cases hlt : i < xs.length
  · refine .inr ⟨W.go i H (hG _ _ _ p) hlt, fun H => ∃ ys, Pv (i + 1) ys H, fun H' p' => ⟨xs.length - (i + 1), by omega, rfl, hlt, p'⟩, fun x H' y => ?_⟩
    obtain ⟨e, y2⟩ := W.yl i H x H' (hG _ _ _ p) y hlt
    subst e
    exact hs i ys x _ y2 p
  · have e : i = xs.length := by omega
    subst e
    exact .inl ⟨W.st _ H (hG _ _ _ p) (Nat.le_refl _), hd ys H p⟩
/-- a comprehension whose test and element change nothing of what was tracked: what it lists -/
theorem l_filter {J : It} {xs : List V} {G : Hp → Prop} (W : Wk J xs G) {g : TG} {tt : TT} {te : TE} {vs : List Nat} {Q : VK} {σ : L2.St} {H1 : Hp} (p : V → Bool) (F : V → V) (hlen : xs.length < sizeLine) (hG : ∀ H', Same H1 H' → G H')
    (hs : ∀ (i : Nat) x H' (R : VK) (N : Hp → Prop), xs[i]? = some x → Same H1 H' → (p x = true → ∀ H'', Same H' H'' → R (F x) H'') → (p x = false → ∀ H'', Same H' H'' → N H'') →
      g x (wipe σ vs) H' fun σ2 H2 => wipe σ2 vs = wipe σ vs ∧ tt σ2 H2 fun b H3 => if b = true then te σ2 H3 R else N H3)
    (q : ∀ D H', H1 D = none → Same H1 H' → H' D = some (.lst ((xs.filter p).map F)) → Q (.ref D) H') : LcR J g tt te vs σ H1 Q := by
  refine l_wk W fun D H0 n0 s0 e0 => ⟨fun i ys H => Same H1 H ∧ H D = some (.lst ys) ∧ ys = ((xs.take i).filter p).map F ∧ ys.length ≤ i, ⟨s0, e0, rfl, Nat.le_refl _⟩, fun i ys H h => hG _ h.1, fun i ys x H hx h => ?_, fun ys H h => ?_⟩
  · obtain ⟨s1, e1, hy, hl⟩ := h
    have hi : i < xs.length := by
      have := List.getElem?_eq_some_iff.mp hx
      exact this.1
    have ht : xs.take (i + 1) = xs.take i ++ [x] := by rw [List.take_add_one, hx]; rfl
    refine hs i x H (fun y H4 => LcEl D (fun ys H => Same H1 H ∧ H D = some (.lst ys) ∧ ys = ((xs.take (i + 1)).filter p).map F ∧ ys.length ≤ i + 1) y H4) (fun H3 => ∃ ys, Same H1 H3 ∧ H3 D = some (.lst ys) ∧ ys = ((xs.take (i + 1)).filter p).map F ∧ ys.length ≤ i + 1) hx s1 (fun hp H'' s2 => ?_) fun hp H'' s2 => ?_
    · refine i_lcEl (s2 _ _ e1) (by omega) fun H5 o5 e5 => ⟨Off.new n0 (s1.trans s2) o5, e5, ?_, by simp; omega⟩
      rw [ht, List.filter_append, List.map_append, hy]
      simp [hp]
    · refine ⟨ys, s1.trans s2, s2 _ _ e1, ?_, by omega⟩
      rw [ht, List.filter_append, List.map_append, hy]
      simp [hp]
  · obtain ⟨s1, e1, hy, hl⟩ := h
    rw [List.take_length] at hy
    rw [hy] at e1
    exact q D H n0 s1 e1
theorem l_map {J : It} {xs : List V} {G : Hp → Prop} (W : Wk J xs G) {g : TG} {te : TE} {vs : List Nat} {Q : VK} {σ : L2.St} {H1 : Hp} (F : V → V) (hlen : xs.length < sizeLine) (hG : ∀ H', Same H1 H' → G H')
    (hs : ∀ (i : Nat) x H' (R : VK), xs[i]? = some x → Same H1 H' → (∀ H'', Same H' H'' → R (F x) H'') → g x (wipe σ vs) H' fun σ2 H2 => wipe σ2 vs = wipe σ vs ∧ te σ2 H2 R)
    (q : ∀ D H', H1 D = none → Same H1 H' → H' D = some (.lst (xs.map F)) → Q (.ref D) H') : LcR J g tYes te vs σ H1 Q := by
  refine l_filter W (fun _ => true) F hlen hG (fun i x H' R N hx s1 hR _ => ?_) (fun D H' n s e => q D H' n s (by rw [e, List.filter_eq_self.mpr (by simp)]))
  have e : (fun (σ2 : L2.St) H2 => wipe σ2 vs = wipe σ vs ∧ tYes σ2 H2 fun b H3 => if b = true then te σ2 H3 R else N H3) = fun σ2 H2 => wipe σ2 vs = wipe σ vs ∧ te σ2 H2 R := by
    funext σ2 H2
    show (_ ∧ if true = true then te σ2 H2 R else N H2) = _
    rw [if_pos rfl]
  rw [e]
  exact hs i x H' R hx s1 (hR rfl)
section
variable {K : PySem.W.Frag} {σ σ' : L2.St} {H : Hp} {Q : VK} {D : Ends} {a b c : TE}
theorem i_var {i : Nat} {v : V} (h : σ[i]? = some (some v)) (q : Q v H) : tVar i σ H Q := ⟨v, h, q⟩
theorem i_c {v : V} (q : Q v H) : tC v σ H Q := q
theorem i_op {r : R2} (q : a σ H fun x H1 => b σ H1 fun y H2 => r x y H2 Q) : tOp r a b σ H Q := q
theorem i_un {r : V → Hp → VK → Prop} (q : a σ H fun x H1 => r x H1 Q) : tUn r a σ H Q := q
theorem i_rI {C : Int → Int → Prop} {g : Int → Int → V} {i j : Int} (c : C i j) (q : Q (g i j) H) : rI C g (.int i) (.int j) H Q := ⟨i, j, rfl, rfl, c, q⟩
theorem i_rI0 {g : Int → Int → V} {i j : Int} (q : Q (g i j) H) : rI0 g (.int i) (.int j) H Q := ⟨i, j, rfl, rfl, q⟩
theorem i_rU {g : Int → V} {i : Int} (q : Q (g i) H) : rU g (.int i) H Q := ⟨i, rfl, q⟩
theorem i_rEq {x y : V} (h : scal x y = true) (q : Q (.bl (decide (x = y))) H) : rEq x y H Q := ⟨h, q⟩
theorem i_rNe {x y : V} (h : scal x y = true) (q : Q (.bl (!decide (x = y))) H) : rNe x y H Q := ⟨h, q⟩
theorem i_rIxL {p : Addr} {xs : List V} {i : Int} {v : V} (h : SqL K H p xs) (e : atI xs i = some v) (q : Q v H) : rIxL K (.ref p) (.int i) H Q := ⟨p, xs, i, v, rfl, rfl, h, e, q⟩
theorem i_rIxT {p : Addr} {xs : List V} {i : Int} {v : V} (h : SqT K H p xs) (e : atI xs i = some v) (q : Q v H) : rIxT K (.ref p) (.int i) H Q := ⟨p, xs, i, v, rfl, rfl, h, e, q⟩
theorem i_rIxS {z : Str} {i : Int} {c : Nat} (h : z.length ≤ sizeLine) (e : atI z.cps.toList i = some c) (q : Q (.str ⟨#[c]⟩) H) : rIxS (.str z) (.int i) H Q := ⟨z, i, c, rfl, rfl, h, e, q⟩
theorem i_rSlS {z : Str} {lo hi : Option Int} (h : z.length ≤ sizeLine) (q : Q (.str (cutS z lo hi)) H) : rSlS (.str z) lo hi H Q := ⟨z, rfl, h, q⟩
theorem i_rSlL {p : Addr} {xs : List V} {lo hi : Option Int} (h : SqL K H p xs) (q : NewR H (.lst (cutV xs lo hi)) Q) : rSlL K (.ref p) lo hi H Q := ⟨p, xs, rfl, h, q⟩
theorem i_noPart {R : Option Int → Hp → Prop} (q : R none H) : tNoPart σ H R := q
theorem i_part {R : Option Int → Hp → Prop} (q : a σ H fun x H1 => ∃ i, x = .int i ∧ R (some i) H1) : tPart a σ H R := q
theorem i_sl {r : V → Option Int → Option Int → Hp → VK → Prop} {tl th : TO} (q : a σ H fun x H1 => tl σ H1 fun l H2 => th σ H2 fun u H3 => r x l u H3 Q) : tSl r a tl th σ H Q := q
theorem i_test {R : Bool → Hp → Prop} (q : a σ H fun x H1 => ∃ k, x = .bl k ∧ R k H1) : tTest a σ H R := q
theorem i_tB {R : Bool → Hp → Prop} (q : a σ H fun x H1 => ∃ k, x = .bl k ∧ R k H1) : tB a σ H R := q
theorem i_exbl {R : Bool → Hp → Prop} {k : Bool} (q : R k H) : ∃ k', V.bl k = .bl k' ∧ R k' H := ⟨k, rfl, q⟩
theorem i_exint {R : Int → Prop} {k : Int} (q : R k) : ∃ k', V.int k = .int k' ∧ R k' := ⟨k, rfl, q⟩
theorem i_and {t u : TT} {R : Bool → Hp → Prop} (q : t σ H fun c H1 => if c = true then u σ H1 R else R false H1) : tAnd t u σ H R := q
theorem i_or {t u : TT} {R : Bool → Hp → Prop} (q : t σ H fun c H1 => if c = true then R true H1 else u σ H1 R) : tOr t u σ H R := q
theorem i_not {t : TT} {R : Bool → Hp → Prop} (q : t σ H fun c H1 => R (!c) H1) : tNot t σ H R := q
theorem i_andV (q : a σ H fun x H1 => ∃ c, x = .bl c ∧ if c = true then b σ H1 Q else Q (.bl false) H1) : tAndV a b σ H Q := q
theorem i_orV (q : a σ H fun x H1 => ∃ c, x = .bl c ∧ if c = true then Q (.bl true) H1 else b σ H1 Q) : tOrV a b σ H Q := q
theorem i_notV (q : a σ H fun x H1 => ∃ c, x = .bl c ∧ Q (.bl (!c)) H1) : tNotV a σ H Q := q
theorem i_if {t : TT} (q : t σ H fun c H1 => if c = true then a σ H1 Q else b σ H1 Q) : tIf t a b σ H Q := q
theorem i_isN {x : V} (q : Q (.bl (decide (x = .non))) H) : (V.non = V.non ∧ Q (.bl (decide (x = .non))) H) := ⟨rfl, q⟩
theorem i_chain {r r' : R2} (q : a σ H fun x H1 => b σ H1 fun y H2 => r x y H2 fun z H3 => ∃ k, z = .bl k ∧ (if k = true then c σ H3 fun w' H4 => r' y w' H4 Q else Q (.bl false) H3)) : tChain r r' a b c σ H Q := q
theorem i_next {f g k : L2.St → Hp → Prop} (q : f σ H) : tNext ⟨f, Q, g, k⟩ σ H := q
theorem i_seq {t u : TS} {f g k : L2.St → Hp → Prop} (q : t ⟨u ⟨f, Q, g, k⟩, Q, g, k⟩ σ H) : tSeq t u ⟨f, Q, g, k⟩ σ H := q
theorem i_drop {f g k : L2.St → Hp → Prop} (q : a σ H fun _ H1 => f σ H1) : tDrop a ⟨f, Q, g, k⟩ σ H := q
theorem i_ret {f g k : L2.St → Hp → Prop} (q : a σ H Q) : tRet a ⟨f, Q, g, k⟩ σ H := q
theorem i_retN {f g k : L2.St → Hp → Prop} (q : Q .non H) : tRetN ⟨f, Q, g, k⟩ σ H := q
theorem i_ifS {c : TT} {t u : TS} (q : c σ H fun b H1 => if b = true then t D σ H1 else u D σ H1) : tIfS c t u D σ H := q
theorem i_asg {g : TG} {f g1 k : L2.St → Hp → Prop} (q : a σ H fun x H1 => g x σ H1 f) : tAsg a g ⟨f, Q, g1, k⟩ σ H := q
theorem i_par {i j : Nat} {t : TA} {f g1 k : L2.St → Hp → Prop} (q : t σ H fun vs H1 => ∃ v w, vs = [v, w] ∧ f ((σ.set i (some v)).set j (some w)) H1) : tPar i j t ⟨f, Q, g1, k⟩ σ H := q
theorem i_ex2 {R : V → V → Prop} {v w : V} (q : R v w) : ∃ v' w', [v, w] = [v', w'] ∧ R v' w' := ⟨v, w, rfl, q⟩
theorem i_aug {i : Nat} {x : V} {ti : TIp} {f g1 k : L2.St → Hp → Prop} (h : σ[i]? = some (some x)) (q : a σ H fun y H1 => ti x y H1 fun z H2 => f (σ.set i (some z)) H2) : tAug i a ti ⟨f, Q, g1, k⟩ σ H := ⟨x, h, q⟩
theorem i_gName {i : Nat} {v : V} {R : L2.St → Hp → Prop} (h : σ.set i (some v) = σ') (q : R σ' H) : gName i v σ H R := by
  subst h; exact q
theorem i_gNil {R : L2.St → Hp → Prop} (q : R σ H) : gNil [] σ H R := ⟨rfl, q⟩
theorem i_gCons {v : V} {r : List V} {g : TG} {u : TGs} {R : L2.St → Hp → Prop} (q : g v σ H fun s h => u r s h R) : gCons g u (v :: r) σ H R := ⟨v, r, rfl, q⟩
theorem i_gTup {p : Addr} {xs : List V} {n : Nat} {t : TGs} {R : L2.St → Hp → Prop} (h : SqT K H p xs) (e : xs.length = n) (q : t xs σ H R) : gTup K n t (.ref p) σ H R := ⟨p, xs, rfl, h, e, q⟩
theorem i_gSub {v : V} {t : TSet} {R : L2.St → Hp → Prop} (q : a σ H fun o H1 => b σ H1 fun i H2 => t o i v H2 fun H3 => R σ H3) : gSub a b t v σ H R := q
theorem i_rSetL {p : Addr} {xs : List V} {k : Int} {j : Nat} {v : V} {R : Hp → Prop} (h : H p = some (.lst xs)) (e : ixN xs.length k = some j) (q : PutR H p (.lst (xs.set j v)) R) : rSetL (.ref p) (.int k) v H R := ⟨p, xs, k, j, rfl, rfl, h, e, q⟩
theorem i_nil {R : List V → Hp → Prop} (q : R [] H) : tNil σ H R := q
theorem i_cons {t : TA} {R : List V → Hp → Prop} (q : a σ H fun x H1 => t σ H1 fun xs H2 => R (x :: xs) H2) : tCons a t σ H R := q
theorem i_tup {t : TA} (q : t σ H fun xs H1 => xs.length ≤ sizeLine ∧ NewR H1 (.tup xs) Q) : tTup t σ H Q := q
theorem i_lst {t : TA} (q : t σ H fun xs H1 => xs.length ≤ sizeLine ∧ NewR H1 (.lst xs) Q) : tLst t σ H Q := q
theorem i_newDK (q : NewR H (.dK []) Q) : tDNewK σ H Q := q
theorem i_disp {trs : List (TE × TE)} (q : DispR trs σ H Q) : tDisp trs σ H Q := q
theorem i_pairs0 {R : List (V × V) → Hp → Prop} (q : R [] H) : tPairs [] σ H R := q
theorem i_pairs1 {r : List (TE × TE)} {R : List (V × V) → Hp → Prop} (q : a σ H fun x H1 => b σ H1 fun y H2 => tPairs r σ H2 fun ps H3 => R ((x, y) :: ps) H3) : tPairs ((a, b) :: r) σ H R := q
theorem i_call {sp : Sp} {dvs : List V} {E : XK} {t : TA} (q : t σ H fun vs H1 => sp (vs ++ dvs) H1 Q E) : tCall sp dvs E t σ H Q := q
theorem i_cb {r : List V → Hp → VK → Prop} {t : TA} (q : t σ H fun vs H1 => r vs H1 Q) : tCB r t σ H Q := q
theorem i_bm {T : String} {r : V → List V → Hp → VK → Prop} {t : TA} (q : a σ H fun x H1 => tyV K T x H1 ∧ t σ H1 fun xs H2 => r x xs H2 Q) : tBM K T r a t σ H Q := q
theorem i_m1 {r : V → List V → Hp → VK → Prop} (q : a σ H fun x H1 => (∃ a, x = .str a) ∧ b σ H1 fun y H2 => r x [y] H2 Q) : tM1 r a b σ H Q := q
theorem i_m0 {r : V → List V → Hp → VK → Prop} (q : a σ H fun x H1 => (∃ a, x = .str a) ∧ r x [] H1 Q) : tM0 r a σ H Q := q
theorem i_rAppend {l : Addr} {xs : List V} {y : V} (h : H l = some (.lst xs)) (z : xs.length < sizeLine) (q : PutR H l (.lst (xs ++ [y])) (Q .non)) : rAppend (.ref l) [y] H Q := ⟨l, xs, y, rfl, rfl, h, z, q⟩
theorem i_rAll {p : Addr} {bs : List Bool} (h : SqL K H p (bs.map V.bl)) (q : Q (.bl (bs.all id)) H) : rAll K [.ref p] H Q := ⟨p, bs, rfl, h, q⟩
theorem i_rAny {p : Addr} {bs : List Bool} (h : SqL K H p (bs.map V.bl)) (q : Q (.bl (bs.any id)) H) : rAny K [.ref p] H Q := ⟨p, bs, rfl, h, q⟩
theorem i_rng1 {t : TA} {R : It → Hp → Prop} (q : t σ H fun vs H1 => ∃ j : Int, vs = [.int j] ∧ -(2 ^ 62) ≤ j ∧ j < 2 ^ 62 ∧ R (Itr 0 j.toNat) H1) : iRng1 t σ H R := q
theorem i_exrng {R : It → Hp → Prop} {j : Int} (h1 : -(2 ^ 62) ≤ j) (h2 : j < 2 ^ 62) (q : R (Itr 0 j.toNat) H) : ∃ j' : Int, [V.int j] = [.int j'] ∧ -(2 ^ 62) ≤ j' ∧ j' < 2 ^ 62 ∧ R (Itr 0 j'.toNat) H := ⟨j, rfl, h1, h2, q⟩
theorem i_iList {R : It → Hp → Prop} (q : a σ H fun x H1 => ∃ p, x = .ref p ∧ (∃ xs, SqL K H1 p xs) ∧ R (Itl K p) H1) : iList K a σ H R := q
theorem i_exl {R : It → Hp → Prop} {p : Addr} {xs : List V} (h : SqL K H p xs) (q : R (Itl K p) H) : ∃ p', V.ref p = .ref p' ∧ (∃ xs, SqL K H p' xs) ∧ R (Itl K p') H := ⟨p, rfl, ⟨xs, h⟩, q⟩
theorem i_iStr {R : It → Hp → Prop} (q : a σ H fun v H1 => ∃ x, v = .str x ∧ R (Its x) H1) : iStr a σ H R := q
theorem i_exs {R : Str → Prop} {x : Str} (q : R x) : ∃ x', V.str x = .str x' ∧ R x' := ⟨x, rfl, q⟩
theorem i_for {wi : TI} {g : TG} {tb : TS} (q : wi σ H fun J H1 => ForR J g tb D σ H1) : tFor wi g tb D σ H := q
theorem i_lc {wi : TI} {g : TG} {tt : TT} {te : TE} {vs : List Nat} (q : wi σ H fun J H1 => LcR J g tt te vs σ H1 Q) : tLc wi g tt te vs σ H Q := q
theorem i_yes {R : Bool → Hp → Prop} (q : R true H) : tYes σ H R := q
theorem i_ite {c : Bool} {A B : Prop} (h1 : c = true → A) (h2 : c = false → B) : if c = true then A else B := by
  cases c with
  | true => rw [if_pos rfl]; exact h1 rfl
  | false => rw [if_neg Bool.false_ne_true]; exact h2 rfl
theorem i_iteT {A B : Prop} (h : A) : if true = true then A else B := by rw [if_pos rfl]; exact h
theorem i_iteF {A B : Prop} (h : B) : if false = true then A else B := by rw [if_neg Bool.false_ne_true]; exact h
/-- divmod, over a heap that is told by what it holds -/
def rDivmod : List V → Hp → VK → Prop := fun xs H Q => ∃ i j, xs = [.int i, .int j] ∧ CDivP i j ∧ NewR H (.tup [.int (i / j), .int (i % j)]) Q
theorem call_divmodN {X : Cx} : CallR X (.builtin "divmod") rDivmod := fun pins s σ H xs us Q I r ⟨i, j, e, c, q⟩ => call_divmodW pins s σ H xs us Q I r ⟨i, j, e, c, q⟩
theorem i_divmod {i j : Int} (c : CDivP i j) (q : NewR H (.tup [.int (i / j), .int (i % j)]) Q) : rDivmod [.int i, .int j] H Q := ⟨i, j, rfl, c, q⟩
theorem i_rCat {l b : Addr} {xs zs : List V} (h : H l = some (.lst xs)) (k : H b = some (.lst zs)) (z : xs.length + zs.length ≤ sizeLine) (q : NewR H (.lst (xs ++ zs)) Q) : rCat (.ref l) (.ref b) H Q := ⟨l, b, xs, zs, rfl, rfl, h, k, z, q⟩
def rCatS : R2 := fun x y H Q => ∃ i j, x = .str i ∧ y = .str j ∧ i.length + j.length ≤ sizeLine ∧ Q (.str (i ++ j)) H
theorem op_catS {X : Cx} : OpR X (binaryOp .Add) rCatS := op_add_str
theorem i_rCatS {i j : Str} (h : i.length + j.length ≤ sizeLine) (q : Q (.str (i ++ j)) H) : rCatS (.str i) (.str j) H Q := ⟨i, j, rfl, rfl, h, q⟩
def rJoin (K : PySem.W.Frag) : V → List V → Hp → VK → Prop := fun x xs H Q => ∃ a p, ∃ ys : List Str, x = .str a ∧ xs = [.ref p] ∧ (SqL K H p (ys.map V.str) ∨ SqT K H p (ys.map V.str)) ∧ (ys.map (·.length)).sum + ys.length * a.length ≤ 16777216 ∧ Q (.str (Txt.join a ys)) H
theorem pe_joinN {X : Cx} {o e : Expr} {to te : TE} {apos pos : Pos} (ho : PE X o to) (he : PE X e te) (hs : starEach [e] X.env = [(false, eval e X.env)] := by rfl) (hbase : attributeBase o "join" X.env (eval o X.env) = eval o X.env := by rfl) (hline : (apos.endLine == pos.line) = true := by rfl) :
    PE X (.Call (.Attribute o "join" apos) [e] [] pos) (tM1 (rJoin X.K) to te) := pe_join ho he hs hbase hline
theorem i_join {a : Str} {p : Addr} {ys : List Str} (h : SqL K H p (ys.map V.str)) (z : (ys.map (·.length)).sum + ys.length * a.length ≤ 16777216) (q : Q (.str (Txt.join a ys)) H) : rJoin K (.str a) [.ref p] H Q := ⟨a, p, ys, rfl, rfl, .inl h, z, q⟩
theorem i_exstr {x : Str} {R : Prop} (q : R) : (∃ a, V.str x = .str a) ∧ R := ⟨⟨x, rfl⟩, q⟩
end
end KX

namespace KX
open PySem PySem.Spec PyProof.Rows L2
/-! ### texts -/
def okS (x : Str) (n : Nat) : Prop := x.length ≤ n ∧ ∀ c ∈ x.cps.toList, c < 1114112
theorem okS.mono {x : Str} {n m : Nat} (h : okS x n) (k : n ≤ m) : okS x m := ⟨Nat.le_trans h.1 k, h.2⟩
theorem okS.app {x y : Str} {n m : Nat} (h : okS x n) (k : okS y m) : okS (x ++ y) (n + m) := by
  refine ⟨?_, fun c hc => ?_⟩
  · rw [Str.length_append]; have := h.1; have := k.1; omega
  · have e : (x ++ y).cps = x.cps ++ y.cps := rfl
    rw [e, Array.toList_append] at hc
    rcases List.mem_append.mp hc with hc | hc
    · exact h.2 c hc
    · exact k.2 c hc
theorem okS.cut {x : Str} {n : Nat} (h : okS x n) (lo hi : Option Int) : okS (cutS x lo hi) n := by
  refine ⟨?_, fun c hc => ?_⟩
  · have e : (cutS x lo hi).length = (cutS x lo hi).cps.toList.length := rfl
    have l : x.length = x.cps.toList.length := rfl
    rw [e]; unfold cutS
    show ((x.cps.toList.drop _).take _).length ≤ n
    rw [List.length_take, List.length_drop]
    have := h.1; omega
  · unfold cutS at hc
    exact h.2 c (List.mem_of_mem_drop (List.mem_of_mem_take hc))
theorem joinL_nil_len {b : Nat} : ∀ ps : List (List Nat), (∀ p ∈ ps, p.length ≤ b ∧ ∀ c ∈ p, c < 1114112) → (TL.joinL [] ps).length ≤ ps.length * b ∧ ∀ c ∈ TL.joinL [] ps, c < 1114112
  | [], _ => ⟨by simp [TL.joinL], by simp [TL.joinL]⟩
  | [p], h => by
    have := h p (by simp)
    simp only [TL.joinL, List.length_cons, List.length_nil]
    exact ⟨by omega, this.2⟩
  | p :: q :: r, h => by
    have h1 := h p (by simp)
    have ih := joinL_nil_len (q :: r) (fun x hx => h x (List.mem_cons_of_mem _ hx))
    simp only [TL.joinL, List.append_nil, List.nil_append, List.length_append, List.length_cons] at ih ⊢
    refine ⟨?_, fun c hc => ?_⟩
    · have e : (r.length + 1 + 1) * b = (r.length + 1) * b + b := by rw [Nat.add_mul (r.length + 1) 1 b, Nat.one_mul]
      omega
    · rcases List.mem_append.mp hc with hc | hc
      · exact h1.2 c hc
      · exact ih.2 c hc
theorem okS.joined {ys : List Str} {b : Nat} (h : ∀ y ∈ ys, okS y b) {s : Str} (hs : s.cps = #[]) : okS (Txt.join s ys) (ys.length * b) := by
  rw [TL.join_eq]
  have e := TL.tl_join s ys
  have e2 : TL.tl s = [] := by unfold TL.tl; rw [hs]
  rw [e2] at e
  have k := joinL_nil_len (b := b) (ys.map TL.tl) (fun p hp => by
    obtain ⟨y, hy, rfl⟩ := List.mem_map.mp hp
    exact ⟨(h y hy).1, (h y hy).2⟩)
  rw [← e, List.length_map] at k
  exact k
theorem okS.one {c : Nat} (h : c < 1114112) : okS ⟨#[c]⟩ 1 := ⟨Nat.le_refl _, fun d hd => by
  have : d = c := by simpa using hd
  rw [this]; exact h⟩
theorem okS.atI {x : Str} {n : Nat} (h : okS x n) {i : Int} {c : Nat} (e : atI x.cps.toList i = some c) : okS ⟨#[c]⟩ 1 := by
  unfold L2.atI at e
  cases q : ixN x.cps.toList.length i with
  | none => rw [q] at e; cases e
  | some j =>
    rw [q] at e
    exact okS.one (h.2 c (List.mem_of_getElem? e))
theorem okS.line {x : Str} {n : Nat} (h : okS x n) (k : n ≤ 16777216) : x.length ≤ sizeLine := by rw [sizeLine_eq]; exact Nat.le_trans h.1 k
/-! ### what is shown, bounded -/
theorem shown_str_le {x : Str} {n : Nat} (h : okS x n) : (PyData.str x).shown.length ≤ 10 * n + 2 := by
  simp only [PyData.shown]
  have := StrLaws.reprText_len x (fun c hc => Nat.lt_of_lt_of_le (h.2 c hc) (by decide))
  have := h.1; omega
theorem Shw.of_str {x : Str} {n : Nat} (h : okS x n) (k : n ≤ 100000) : Shw (.str x) := ⟨rfl, by simp [PyData.depth], by have := shown_str_le h; rw [sizeLine_eq]; omega⟩
theorem log2_lt_1920 {i : Int} {k : Nat} (h : i.natAbs < 2 ^ k) (hk : k ≤ 1920) (h0 : 0 < k) : i.natAbs.log2 < 1920 := by
  have := PySem.Flt.log2_lt_of h0 h
  omega
/-! ### kinds -/
def tyN : PyData → String
  | .none => "NoneType" | .bool _ => "bool" | .int _ => "int" | .str _ => "str" | .list _ => "list" | .tuple _ => "tuple" | .dict _ => "dict"
theorem DaF.ty {b : Bool} {K : PySem.W.Frag} {H : Hp} {v : V} {d : PyData} (h : DaF b K H v d) : TyX K H v (.type (tyN d)) := by
  cases h with
  | non => exact .base .non
  | bl b => exact .base (.bl b)
  | int i => exact .base (.int i)
  | str x => exact .base (.str x)
  | lst h _ _ =>
    rcases h with (h | ⟨o, h⟩) | ⟨o, its, n, h, hc, _⟩
    · exact .base (.lst h)
    · exact .base (.frz h)
    · exact .kList h hc
  | tup h _ =>
    rcases h with (h | ⟨o, h⟩) | ⟨o, its, n, h, hc, _⟩
    · exact .base (.tup h)
    · exact .fTuple h
    · exact .kTuple h hc
  | dic h _ =>
    rcases h with h | ⟨o, h⟩
    · exact .base (.dK h)
    · exact .fDict h
def isi (d : PyData) (T : String) : Bool := tyN d == T || (tyN d == "bool" && T == "int")
theorem kit_isi : ∀ (d : PyData) (T : String), T ∈ ["int", "bool", "str", "tuple", "list", "dict"] → kitB (tyN d) T = some (isi d T) := by
  intro d T h
  have all : ∀ a ∈ ["NoneType", "bool", "int", "str", "list", "tuple", "dict"], ∀ T ∈ ["int", "bool", "str", "tuple", "list", "dict"], kitB a T = some (a == T || (a == "bool" && T == "int")) := by decide +kernel
  exact all (tyN d) (by cases d <;> simp [tyN]) T h
def rIsiD (K : PySem.W.Frag) : List V → Hp → VK → Prop := fun xs H Q => ∃ b v d T, xs = [v, .ty T] ∧ DaF b K H v d ∧ T ∈ ["int", "bool", "str", "tuple", "list", "dict"] ∧ Q (.bl (isi d T)) H
theorem call_isiD {X : Cx} : CallR X (.builtin "isinstance") (rIsiD X.K) := by
  intro pins s σ H xs us Q I r h
  obtain ⟨_, v, d, T, rfl, hd, hT, q⟩ := h
  exact call_isi pins s σ H _ us Q I r ⟨v, .ty T, _, _, _, rfl, .ty T, hd.ty, kit_ty (kit_isi d T hT), q⟩
theorem i_isi {b : Bool} {K : PySem.W.Frag} {H : Hp} {Q : VK} {v : V} {d : PyData} {T : String} (h : DaF b K H v d) (hT : T ∈ ["int", "bool", "str", "tuple", "list", "dict"]) (q : Q (.bl (isi d T)) H) : rIsiD K [v, .ty T] H Q := ⟨b, v, d, T, rfl, h, hT, q⟩
/-! ### len -/
def rLen (K : PySem.W.Frag) : List V → Hp → VK → Prop := fun xs H Q => ∃ x n, xs = [x] ∧ LenV K x H n ∧ Q (.int n) H
theorem call_lenN {X : Cx} : CallR X (.builtin "len") (rLen X.K) := call_len
theorem i_lenS {K : PySem.W.Frag} {H : Hp} {Q : VK} {x : Str} (h : x.length ≤ sizeLine) (q : Q (.int x.length) H) : rLen K [.str x] H Q := ⟨_, _, rfl, ⟨h, rfl⟩, q⟩
theorem i_lenL {K : PySem.W.Frag} {H : Hp} {Q : VK} {p : Addr} {xs : List V} (h : SqL K H p xs) (q : Q (.int xs.length) H) : rLen K [.ref p] H Q := ⟨_, _, rfl, .inl ⟨_, h, rfl⟩, q⟩
theorem i_lenT {K : PySem.W.Frag} {H : Hp} {Q : VK} {p : Addr} {xs : List V} (h : SqT K H p xs) (q : Q (.int xs.length) H) : rLen K [.ref p] H Q := ⟨_, _, rfl, .inr ⟨_, h, rfl⟩, q⟩
/-! ### repr -/
def rRepr (K : PySem.W.Frag) : List V → Hp → VK → Prop := fun xs H Q => ∃ b v d, xs = [v] ∧ DaF b K H v d ∧ (b = true ∨ d.hasDict = false) ∧ Shw d ∧ Q (.str d.shown) H
theorem call_reprN {X : Cx} (hr : Rg 1 X.A) : CallR X (.builtin "repr") (rRepr X.K) := call_reprD hr.gd (by have := hr.room.un; omega)
theorem i_repr {b : Bool} {K : PySem.W.Frag} {H : Hp} {Q : VK} {v : V} {d : PyData} (h : DaF b K H v d) (n : b = true ∨ d.hasDict = false) (w : Shw d) (q : Q (.str d.shown) H) : rRepr K [v] H Q := ⟨b, v, d, rfl, h, n, w, q⟩
/-! ### min, max, abs -/
theorem i_abs {H : Hp} {Q : VK} {i : Int} (q : Q (.int (if i < 0 then -i else i)) H) : ∃ j, [V.int i] = [.int j] ∧ Q (.int (if j < 0 then -j else j)) H := ⟨i, rfl, q⟩
theorem i_max {H : Hp} {Q : VK} {i j : Int} (q : Q (.int (if j > i then j else i)) H) : ∃ a b, [V.int i, V.int j] = [.int a, .int b] ∧ Q (.int (if b > a then b else a)) H := ⟨i, j, rfl, q⟩
theorem i_min {H : Hp} {Q : VK} {i j : Int} (q : Q (.int (if j < i then j else i)) H) : ∃ a b, [V.int i, V.int j] = [.int a, .int b] ∧ Q (.int (if b < a then b else a)) H := ⟨i, j, rfl, q⟩
/-! ### deep == -/
mutual
theorem DaF.dp {b : Bool} {K : PySem.W.Frag} {H : Hp} : ∀ {v : V} {d : PyData}, DaF b K H v d → d.hasDict = false → Dp K H v d
  | _, _, .non, _ => .non
  | _, _, .bl b, _ => .bl b
  | _, _, .int i, _ => .int i
  | _, _, .str x, _ => .str x
  | _, _, .lst h _ a, k => .lst h (DaAllF.dp a (by simpa [PyData.hasDict] using k))
  | _, _, .tup h a, k => .tup h (DaAllF.dp a (by simpa [PyData.hasDict] using k))
  | _, _, .dic h a, k => by simp [PyData.hasDict] at k
theorem DaAllF.dp {b : Bool} {K : PySem.W.Frag} {H : Hp} : ∀ {vs : List V} {ds : List PyData}, DaAllF b K H vs ds → PyData.hasDictAll ds = false → DpAll K H vs ds
  | _, _, .nil, _ => .nil
  | _, _, .cons a r, k => by
    simp only [PyData.hasDictAll, Bool.or_eq_false_iff] at k
    exact .cons (DaF.dp a k.1) (DaAllF.dp r k.2)
end
theorem strOk_of {x : Str} {n : Nat} (h : okS x n) : PyData.strOk x = true := by
  unfold PyData.strOk
  rw [Array.all_eq_true]
  intro i hi
  exact decide_eq_true (h.2 _ (by simp))
theorem i_eqD {b c : Bool} {K : PySem.W.Frag} {H : Hp} {Q : VK} {x y : V} {d e : PyData} (h : DaF b K H x d) (k : DaF c K H y e) (hd : d.hasDict = false) (he : e.hasDict = false) (sd : SeqAt.shaped d = true) (se : SeqAt.shaped e = true) (q : Q (.bl (PyData.eqv d e)) H) : rEqD K x y H Q :=
  ⟨d, e, h.dp hd, k.dp he, sd, se, q⟩
/-- a list of texts of one sign -/
def signsD (l : List Nat) : List PyData := l.map fun c => .str ⟨#[c]⟩
theorem da_signs {K : PySem.W.Frag} {H : Hp} : ∀ l : List Nat, DaAll K H (l.map fun c => V.str ⟨#[c]⟩) (signsD l)
  | [] => .nil
  | c :: l => .cons (.str _) (da_signs l)
theorem signs_hasDict : ∀ l : List Nat, PyData.hasDictAll (signsD l) = false
  | [] => rfl
  | c :: l => by show (PyData.hasDict (.str ⟨#[c]⟩) || PyData.hasDictAll (signsD l)) = false; rw [signs_hasDict l]; rfl
theorem signs_lay : ∀ l : List Nat, (∀ c ∈ l, c < 1114112) → PyData.canLayAll0 (signsD l) = true
  | [], _ => rfl
  | c :: l, h => by
    show (PyData.canLay0 (.str ⟨#[c]⟩) && PyData.canLayAll0 (signsD l)) = true
    rw [signs_lay l fun d hd => h d (List.mem_cons_of_mem _ hd)]
    have := h c List.mem_cons_self
    simp [PyData.canLay0, PyData.strOk, this]
theorem signs_depth : ∀ l : List Nat, PyData.depthAll (signsD l) ≤ 1
  | [] => by simp [signsD, PyData.depthAll]
  | c :: l => by
    have := signs_depth l
    simp only [signsD, List.map_cons, PyData.depthAll, PyData.depth] at this ⊢
    omega
theorem i_eqSigns {K : PySem.W.Frag} {H : Hp} {Q : VK} {a b : Addr} {l : List Nat} (h : H a = some (.lst (l.map fun c => V.str ⟨#[c]⟩))) (k : H b = some (.lst [])) (hl : ∀ c ∈ l, c < 1114112) (q : Q (.bl l.isEmpty) H) : rEqD K (.ref a) (.ref b) H Q := by
  refine i_eqD (b := false) (c := false) (Da.lst (.inl (.inl h)) (da_signs l)) (Da.lst (.inl (.inl k)) DaAllF.nil) (signs_hasDict l) rfl ?_ rfl ?_
  · unfold SeqAt.shaped
    have h1 : PyData.canLay0 (.list (signsD l)) = true := signs_lay l hl
    have h2 : PyData.depth (.list (signsD l)) ≤ 64 := by
      have := signs_depth l
      simp only [PyData.depth]
      omega
    rw [h1]
    simpa using h2
  · have e : PyData.eqv (.list (signsD l)) (.list []) = l.isEmpty := by
      cases l with
      | nil => rfl
      | cons c l => rfl
    rw [e]; exact q
/-! ### the law's numbers: a list of two ints that each draw turns -/
def Rok (H : Hp) (r : Addr) : Prop := ∃ a b : Int, H r = some (.lst [.int a, .int b]) ∧ 0 ≤ b ∧ b < 2147483588
theorem Rok.same {H H' : Hp} {r : Addr} (s : Same H H') (h : Rok H r) : Rok H' r := let ⟨a, b, e, k⟩ := h; ⟨a, b, s _ _ e, k⟩
theorem Rok.off {H H' : Hp} {r p : Addr} (s : Off p H H') (n : r ≠ p) (h : Rok H r) : Rok H' r := let ⟨a, b, e, k⟩ := h; ⟨a, b, s.get n e, k⟩
theorem Rok.ne {H : Hp} {r p : Addr} (h : Rok H r) (n : H p = none) : p ≠ r := let ⟨_, _, e, _⟩ := h; (ne_of_none e n).symm
/-- a comprehension whose element draws -/
theorem l_rng {J : It} {xs : List V} {G : Hp → Prop} (W : Wk J xs G) {g : TG} {te : TE} {vs : List Nat} {Q : VK} {σ : L2.St} {H1 : Hp} (r : Addr) (ok : Nat → V → Prop) (hlen : xs.length < sizeLine) (h0 : Rok H1 r) (hG : ∀ H', Off r H1 H' → G H')
    (hs : ∀ (i : Nat) x H' (R : VK), xs[i]? = some x → Off r H1 H' → Rok H' r → (∀ y H'', ok i y → Off r H' H'' → Rok H'' r → R y H'') → g x (wipe σ vs) H' fun σ2 H2 => wipe σ2 vs = wipe σ vs ∧ te σ2 H2 R)
    (q : ∀ D H' ys, H1 D = none → D ≠ r → Off r H1 H' → Rok H' r → H' D = some (.lst ys) → ys.length = xs.length → (∀ (i : Nat) y, ys[i]? = some y → ok i y) → Q (.ref D) H') : LcR J g tYes te vs σ H1 Q := by
  refine l_wk W fun D H0 n0 s0 e0 => ⟨fun i ys H => Off r H1 H ∧ Rok H r ∧ H D = some (.lst ys) ∧ ys.length = i ∧ ∀ (j : Nat) y, ys[j]? = some y → ok j y, ⟨.of_same s0, h0.same s0, e0, rfl, fun j y h => by simp at h⟩, fun i ys H h => hG _ h.1, fun i ys x H hx h => ?_, fun ys H h => ?_⟩
  · obtain ⟨o1, r1, e1, hl, hy⟩ := h
    have hi : i < xs.length := (List.getElem?_eq_some_iff.mp hx).1
    have hDr : D ≠ r := h0.ne n0
    let R : VK := fun y H4 => LcEl D (fun ys H => Off r H1 H ∧ Rok H r ∧ H D = some (.lst ys) ∧ ys.length = i + 1 ∧ ∀ (j : Nat) y, ys[j]? = some y → ok j y) y H4
    have e : (fun (σ2 : L2.St) H2 => wipe σ2 vs = wipe σ vs ∧ tYes σ2 H2 fun b H3 => if b = true then te σ2 H3 R else ∃ ys, Off r H1 H3 ∧ Rok H3 r ∧ H3 D = some (.lst ys) ∧ ys.length = i + 1 ∧ ∀ (j : Nat) y, ys[j]? = some y → ok j y) = fun σ2 H2 => wipe σ2 vs = wipe σ vs ∧ te σ2 H2 R := by
      funext σ2 H2
      show (_ ∧ if true = true then te σ2 H2 R else (∃ ys, Off r H1 H2 ∧ Rok H2 r ∧ H2 D = some (.lst ys) ∧ ys.length = i + 1 ∧ ∀ (j : Nat) y, ys[j]? = some y → ok j y)) = _
      rw [if_pos rfl]
    rw [e]
    refine hs i x H R hx o1 r1 fun y H'' hk o2 r2 => ?_
    refine i_lcEl (Off.get o2 hDr e1) (by omega) fun H5 o5 e5 => ⟨Off.thenF o5 n0 (Off.refl _ _) (o1.trans o2), r2.off o5 hDr.symm, e5, by simp [hl], fun j z hj => ?_⟩
    by_cases hlt : j < ys.length
    · rw [List.getElem?_append_left hlt] at hj
      exact hy j z hj
    · have hj' : j = i := by
        have := (List.getElem?_eq_some_iff.mp hj).1
        rw [List.length_append] at this
        simp at this
        omega
      subst hj'
      rw [← hl, List.getElem?_append_right (Nat.le_refl _)] at hj
      simp at hj
      rw [← hj]; exact hk
  · obtain ⟨o1, r1, e1, hl, hy⟩ := h
    exact q D H ys n0 (h0.ne n0) o1 r1 e1 hl hy
end KX

namespace KX
open PySem PySem.Spec PyProof.Rows L2
/-! ### what stands at one address stays -/
def Kp (a : Addr) (H H' : Hp) : Prop := ∀ o, H a = some o → H' a = some o
theorem Kp.refl {a : Addr} {H : Hp} : Kp a H H := fun _ e => e
theorem Kp.thenS {a : Addr} {H H1 H2 : Hp} (b : Same H1 H2) (k : Kp a H H1) : Kp a H H2 := fun o e => b _ _ (k o e)
theorem Kp.thenO {a p : Addr} {H H1 H2 : Hp} (b : Off p H1 H2) (n : a ≠ p) (k : Kp a H H1) : Kp a H H2 := fun o e => b _ _ n (k o e)
theorem Kp.get {a : Addr} {H H' : Hp} {o : HO} (h : H a = some o) (k : Kp a H H') : H' a = some o := k o h
theorem Rok.ne' {H : Hp} {r p : Addr} (n : H p = none) (h : Rok H r) : p ≠ r := h.ne n
theorem Rok.kp {H H' : Hp} {r : Addr} (h : Rok H r) (k : Kp r H H') : Rok H' r := let ⟨a, b, e, z⟩ := h; ⟨a, b, k _ e, z⟩
/-! ### data that may be shown and compared -/
structure OkD (d : PyData) : Prop where
  sh : Shw d
  st : ∀ x, d = .str x → okS x 16777216
def okdB (d : PyData) : Bool := d.showable && (decide (d.depth ≤ 20) && (decide (d.shown.length ≤ 16777216) && match d with
  | .str x => decide (x.length ≤ 16777216) && x.cps.toList.all fun c => decide (c < 1114112)
  | _ => true))
theorem okd_of {d : PyData} (h : okdB d = true) : OkD d := by
  unfold okdB at h
  simp only [Bool.and_eq_true, decide_eq_true_eq] at h
  obtain ⟨h1, h2, h3, h4⟩ := h
  refine ⟨⟨h1, h2, by rw [sizeLine_eq]; exact h3⟩, fun x e => ?_⟩
  subst e
  simp only [Bool.and_eq_true, decide_eq_true_eq, List.all_eq_true] at h4
  exact ⟨h4.1, h4.2⟩
theorem OkD.int {i : Int} (h : i.natAbs.log2 < 1920) : OkD (.int i) := ⟨⟨by simpa [PyData.showable] using h, by simp [PyData.depth], by rw [PyData.shown_int]; exact int_text_fits h⟩, fun x e => by cases e⟩
theorem OkD.str {x : Str} {n : Nat} (h : okS x n) (k : n ≤ 100000) : OkD (.str x) := ⟨Shw.of_str h k, fun y e => by cases e; exact h.mono (by omega)⟩
/-! ### the law's call from the top, where the frames' guards are told -/
section
variable {P : Program} {w : World} {K : PySem.W.Frag} {mg mb : Str → Option Value}
abbrev scrO (us : List Value) : Obj := { cls := .type "list", data := .seq us.toArray }
def scrH (K : PySem.W.Frag) (a : Addr) (us : List Value) (ns : List Int) : Hp := fun b =>
  if b = a ∧ K.lookup a = none then some (.frz (scrO us) (.lst (ns.map V.int))) else none
theorem scrH_or (K : PySem.W.Frag) (a : Addr) (us : List Value) (ns : List Int) (b : Addr) :
    scrH K a us ns b = none ∨ (b = a ∧ K.lookup a = none ∧ scrH K a us ns b = some (.frz (scrO us) (.lst (ns.map V.int)))) := by
  unfold scrH
  by_cases h : b = a ∧ K.lookup a = none
  · exact .inr ⟨h.1, h.2, if_pos h⟩
  · exact .inl (if_neg h)
/-- what the law's def promises, at the heap behind the top -/
theorem lawG {CX : CXT} {k : Nat} {fa a : Addr} {fd : FuncData} {x : Str} {sp : Sp} {t0 : Shared} {us : List Value} {ns : List Int} (inK : K.In t0.heap) (g1 : t0.heap.Ns mainGlobals mg) (g2 : t0.heap.Ns builtinsNs mb)
    (g3 : ∀ y : Str, y ≠ "__name__" → mb y = bootBuiltins y) (g4 : t0.heap.NoLimit) (g5 : t0.gens = #[]) (there : t0.heap.get? a = some (scrO us)) (hin : IntsAre us ns) (few : ns.length ≤ sizeLine) (room : Room k callerA)
    (G : ∀ b0 : Heap, K.In b0 → b0.Ns mainGlobals mg → Fg P w K mg b0 CX k fa fd [x] sp) (binds : ∀ (s : Shared) (u : Value), BindsTo s fd ⟨[u], []⟩ [(x, u)])
    (promise : ∀ H : Hp, SqL K H a (ns.map V.int) → sp [.ref a] H (fun v _ => v = .bl true) fun _ _ _ => False) (noX : ∀ H e s', CX [] H t0 (fun _ _ _ => False) e s' → False) :
    codeAny (model P w) callerA (.call (.ref fa) ⟨[.ref a], []⟩)
      (fun r s' => r = .ok (.ret (.bool true)) ∧ OldK t0.heap s'.heap ∧ s'.os = t0.os ∧ AllBare s'.gens) t0 := by
  have rel := vals_ints hin
  have off : ∀ {b : Addr} {o : Obj}, t0.heap.get? b = some o → (b = a → K.lookup a = none → False) → (hidT t0.heap (scrH K a us ns)).get? b = some o := fun {b o} e z => by
    refine hidT_get e ?_
    rcases scrH_or K a us ns b with h | ⟨h1, h2, _⟩
    · exact h
    · exact (z h1 h2).elim
  have dicts : ∀ {b : Addr} {o : Obj} {es : Array DictEntry} {ep : Nat}, t0.heap.get? b = some o → o.data = .dict es ep → b = a → False := fun {b o es ep} e d z => by
    rw [z, there] at e
    cases e
    cases (show Data.seq us.toArray _ = Data.dict es ep from d)
  have names : ∀ {b : Addr} {m : Str → Option Value}, t0.heap.Ns b m → (hidT t0.heap (scrH K a us ns)).Ns b m := fun {b m} ⟨o, es, ep, e, d, r⟩ => ⟨o, es, ep, off e (fun z _ => dicts e d z), d, r⟩
  have inB : K.In (hidT t0.heap (scrH K a us ns)) := fun b o e => off (inK b o e) fun z1 z2 => by
    rw [z1, z2] at e
    cases e
  have top : Mod K mg (hidT t0.heap (scrH K a us ns)) := ⟨inB, names g1, ⟨mb, names g2, g3⟩, let ⟨mc, h1, h2⟩ := g4; ⟨mc, names h1, h2⟩⟩
  have hok : HOk P w (scrH K a us ns) t0.heap := fun b u z => by
    rcases scrH_or K a us ns b with h | ⟨h1, _, h3⟩
    · rw [h] at z; cases z
    · rw [h3] at z
      cases z
      subst h1
      exact ⟨there, by rw [List.length_map]; exact few, us, _, rel, there⟩
  have env : Env0 P w K mg (hidT t0.heap (scrH K a us ns)) callerA [] t0 (scrH K a us ns) :=
    ⟨rfl, top, fun b o e => of_hidT e, Nat.le_of_eq (hidT_size _ _), trivial, fun b hb => (nomatch hb), hok, .of_eq g5⟩
  have seen : SqL K (scrH K a us ns) a (ns.map V.int) := by
    cases lk : K.lookup a with
    | none => exact .inl (.inr ⟨scrO us, if_pos ⟨rfl, lk⟩⟩)
    | some o =>
      have e := inK a o lk
      rw [there] at e
      cases e
      exact .inr ⟨_, us.toArray, _, lk, rfl, rfl, rfl, by rw [List.size_toArray, hin.length]; exact few, by simpa using rel⟩
  refine codeAny_mono ((G _ inB (names g1)).run callerA [] t0 (scrH K a us ns) ⟨[.ref a], []⟩ [.ref a] [.ref a] _ _ ⟨room, rfl⟩ env (binds t0 (.ref a)) (.cons rfl .nil) (promise _ seen)) fun r s' end_ => ?_
  match r, end_ with
  | .error e, end_ => exact (noX _ e s' end_).elim
  | .ok .next, end_ => exact False.elim end_
  | .ok .brk, end_ => exact False.elim end_
  | .ok .cont, end_ => exact False.elim end_
  | .ok (.ret u), ⟨v, H', os, bare, un, hok', r', q⟩ =>
    have q' : v = .bl true := q
    subst q'
    obtain rfl : u = Value.bool true := r'
    refine ⟨rfl, OldK.of_keep fun b o e => ?_, os, bare⟩
    rcases scrH_or K a us ns b with h | ⟨h1, h2, h3⟩
    · exact un.keep b o e h (fun z => (nomatch z)) (fun z => (nomatch z))
    · have z2 := un.frzs b _ _ h3
      obtain ⟨e1, _⟩ := hok b _ h3
      obtain ⟨e2, _⟩ := hok' b _ z2
      rw [e] at e1
      cases e1
      exact e2
theorem walkG {l : PySem.W.OpenLaw} {n k : Nat} {q : Program} {loose : List Str} {XP : (Str → Option Value) → Heap → Prop} {YP : World → Heap → Prop} {d : DefRec} {K : Params → PySem.W.Frag} {CX : World → CXT} {sp : World → Sp} {x : Str} (most : l.most = some n) (few : n ≤ sizeLine)
    (plain : d.params.defaults = []) (room : Room k callerA) (inK : ∀ (w : World) (h : Heap), YP w h → (K w.params).In h)
    (G : ∀ (w : World) (mg : Str → Option Value) (fa : Addr) (h : Heap), (K w.params).In h → h.Ns mainGlobals mg → mg d.name = some (.ref fa) → ∃ fd : FuncData,
      (∀ (s : Shared) (u : Value), BindsTo s fd ⟨[u], []⟩ [(x, u)]) ∧ ∀ b0 : Heap, (K w.params).In b0 → b0.Ns mainGlobals mg → Fg l.prog w (K w.params) mg b0 (CX w) k fa fd [x] (sp w))
    (promise : ∀ (w : World) (H : Hp) (a : Addr) (ns : List Int), ns.length ≤ n → (∀ z ∈ ns, Builtin.Int.intBits z ≤ 1048576) → SqL (K w.params) H a (ns.map V.int) → sp w [.ref a] H (fun v _ => v = .bl true) fun _ _ _ => False)
    (noX : ∀ (w : World) (H : Hp) (s : Shared) (e : Value) (s' : Shared), CX w [] H s (fun _ _ _ => False) e s' → False) :
    PySem.W.WalkO q loose XP YP l.row.toRowW d [] (fun f vs => PySem.call f vs) := by
  refine Att.attach_callB most plain fun w _ t0 mg mb fa _ _ _ _ a us ns gr y _ _ _ at_ there hin len bits gens => ?_
  obtain ⟨fd, binds, hF⟩ := G w mg fa _ (inK w _ y) gr.T.g at_
  exact lawG (inK w _ y) gr.T.g gr.T.b gr.T.builtins gr.T.nolimit gens there hin (Nat.le_trans len few) room hF binds (fun H seen => promise w H a ns len bits seen) fun H e s' => noX w H t0 e s'
end
end KX

namespace KX
open PySem PySem.Spec PyProof.Rows L2
/-! ### the heap without one address, and the part that is new -/
def wo (r : Addr) (H : Hp) : Hp := fun b => if b = r then none else H b
theorem wo_get {r b : Addr} {H : Hp} (n : b ≠ r) : wo r H b = H b := if_neg n
theorem wo_same {r : Addr} {H : Hp} : Same (wo r H) H := fun b o e => by
  by_cases h : b = r
  · have e' : wo r H b = none := if_pos h
    rw [e'] at e; cases e
  · rwa [wo_get h] at e
theorem Off.wo {r : Addr} {H H' : Hp} (s : Off r H H') : Same (KX.wo r H) (KX.wo r H') := fun b o e => by
  by_cases h : b = r
  · have e' : KX.wo r H b = none := if_pos h
    rw [e'] at e; cases e
  · rw [wo_get h] at e ⊢
    exact s _ _ h e
theorem Same.wo {r : Addr} {H H' : Hp} (s : Same H H') : Same (KX.wo r H) (KX.wo r H') := Off.wo (.of_same s)
def newP (H H' : Hp) : Hp := fun b => if H b = none then H' b else none
theorem newP_same {H H' : Hp} : Same (newP H H') H' := fun b o e => by
  unfold newP at e
  split at e
  · exact e
  · cases e
theorem newP_get {H H' : Hp} {b : Addr} (h : H b = none) : newP H H' b = H' b := if_pos h
theorem newP_mono {H H1 H2 : Hp} (s : Same H1 H2) : Same (newP H H1) (newP H H2) := fun b o e => by
  unfold newP at e ⊢
  split at e
  · next h => rw [if_pos h]; exact s _ _ e
  · cases e
theorem none_of {H H1 : Hp} (s : Same H H1) {b : Addr} (h : H1 b = none) : H b = none := by
  cases e : H b with
  | none => rfl
  | some o => rw [s _ _ e] at h; cases h
theorem newP_back {H H1 H2 : Hp} (s : Same H H1) : Same (newP H1 H2) (newP H H2) := fun b o e => by
  unfold newP at e ⊢
  split at e
  · next h => rw [if_pos (none_of s h)]; exact e
  · cases e
theorem newP_wo {H H' : Hp} {r : Addr} {o : HO} (h : H r = some o) : Same (newP H H') (wo r H') := fun b u e => by
  unfold newP at e
  split at e
  · next z => rw [wo_get (fun q => by rw [q, h] at z; cases z)]; exact e
  · cases e
theorem DaAllF.len {b : Bool} {K : PySem.W.Frag} {H : Hp} : ∀ {vs : List V} {ds : List PyData}, DaAllF b K H vs ds → vs.length = ds.length
  | _, _, .nil => rfl
  | _, _, .cons _ r => congrArg (· + 1) (DaAllF.len r)
theorem DaAllF.mem {b : Bool} {K : PySem.W.Frag} {H : Hp} : ∀ {vs : List V} {ds : List PyData}, DaAllF b K H vs ds → ∀ v ∈ vs, ∃ d ∈ ds, DaF b K H v d
  | _, _, .nil, _, h => (nomatch h)
  | _, _, .cons a r, v, h => by
    rcases List.mem_cons.mp h with e | h
    · subst e; exact ⟨_, List.mem_cons_self, a⟩
    · obtain ⟨d, hd, k⟩ := DaAllF.mem r v h
      exact ⟨d, List.mem_cons_of_mem _ hd, k⟩
theorem DaAllF.app {b : Bool} {K : PySem.W.Frag} {H : Hp} : ∀ {vs us : List V} {ds es : List PyData}, DaAllF b K H vs ds → DaAllF b K H us es → DaAllF b K H (vs ++ us) (ds ++ es)
  | _, _, _, _, .nil, k => k
  | _, _, _, _, .cons a r, k => .cons a (DaAllF.app r k)
theorem okd_all {ds : List PyData} (h : ds.all okdB = true) {d : PyData} (k : d ∈ ds) : OkD d := okd_of (List.all_eq_true.mp h d k)
/-! ### written data -/
mutual
inductive Lit : Expr → PyData → Prop
  | non {j p} : Lit (.Constant .none j p) .none
  | bl {b j p} : Lit (.Constant (.bool b) j p) (.bool b)
  | int {i j p} : Lit (.Constant (.int i) j p) (.int i)
  | str {x j p} : Lit (.Constant (.str x) j p) (.str x)
  | neg {i j p p'} : Lit (.UnaryOp .USub (.Constant (.int i) j p) p') (.int (-i))
  | negE {a i p} : Lit a (.int i) → Lit (.UnaryOp .USub a p) (.int (-i))
  | sub {a b i j p} : Lit a (.int i) → Lit b (.int j) → Lit (.BinOp a .Sub b p) (.int (i - j))
  | pow {a b i j p} : Lit a (.int i) → Lit b (.int j) → 0 ≤ j → j ≤ 1000000 → i.natAbs < 2 ^ 64 → Lit (.BinOp a .Pow b p) (.int (i ^ j.toNat))
  | lst {es ds p} : LitAll es ds → ds.length ≤ 1000 → Lit (.List es p) (.list ds)
  | tup {es ds x p} : LitAll es ds → ds.length ≤ 1000 → Lit (.Tuple es x p) (.tuple ds)
  | dic0 {p} : Lit (.Dict [] [] p) (.dict [])
  | dicI {i j q v d p} : Lit v d → Lit (.Dict [some (.Constant (.int i) j q)] [v] p) (.dict [(.int i, d)])
  | dicS {x j q v d p} : Lit v d → Lit (.Dict [some (.Constant (.str x) j q)] [v] p) (.dict [(.str x, d)])
inductive LitAll : List Expr → List PyData → Prop
  | nil : LitAll [] []
  | cons {e es d ds} : Lit e d → LitAll es ds → LitAll (e :: es) (d :: ds)
end
theorem Lit.star {e : Expr} {d : PyData} (h : Lit e d) (es : List Expr) (env : Env) : starEach (e :: es) env = (false, eval e env) :: starEach es env := by
  cases h <;> rfl
/-- a list display: its address is told to be none of the run's own -/
def tLstN (t : TA) : TE := fun σ H Q => t σ H fun xs H1 => xs.length ≤ sizeLine ∧ ∀ p, H1 p = none → p ≠ sysModules → Q (.ref p) (upd H1 p (.lst xs))
theorem pe_lstN {X : Cx} {es : List Expr} {t : TA} {pos : Pos} (h : PA X es t) : PE X (.List es pos) (tLstN t) :=
  ⟨fun pins s σ H Q I hq => wpAny_List_spliced (thn (h.run pos pins s σ H _ I hq) fun us t1 ⟨xs, H1, J, r, z, q⟩ => by
    have free : H1 t1.heap.objs.size = none := J.hok.fresh (Nat.le_refl _)
    refine ⟨by rw [← r.length]; exact z, .ref t1.heap.objs.size, L2.upd H1 t1.heap.objs.size (.lst xs), J.laid (t' := t1.toks) (fun b u e => Heap.get?_push_of_some _ e) (Nat.le_refl _) ?_, rfl, q _ free (Nat.ne_of_gt J.big)⟩
    exact ⟨z, us, 0, r, Heap.get?_push_size _ rfl⟩)⟩
def NewN (H : Hp) (o : HO) (Q : VK) : Prop := ∀ p, H p = none → p ≠ sysModules → Q (.ref p) (L2.upd H p o)
theorem i_newN {H : Hp} {o : HO} {Q : VK} (q : ∀ p H', H p = none → p ≠ sysModules → Same H H' → H' p = some o → Q (.ref p) H') : NewN H o Q := fun p hp hn => q p _ hp hn (same_new hp) upd_same
theorem i_lstN {t : TA} {σ : L2.St} {H : Hp} {Q : VK} (q : t σ H fun xs H1 => xs.length ≤ sizeLine ∧ NewN H1 (.lst xs) Q) : tLstN t σ H Q := q
def tLit (K : PySem.W.Frag) (d : PyData) : TE := fun _ H Q => ∀ v H', Same H H' → DaS K (newP H H') v d → Q v H'
def tLits (K : PySem.W.Frag) (ds : List PyData) : TA := fun _ H Q => ∀ vs H', Same H H' → DaAllS K (newP H H') vs ds → Q vs H'
def tLitL (K : PySem.W.Frag) (ds : List PyData) : TE := fun _ H Q => ∀ p xs H', H p = none → p ≠ sysModules → Same H H' → H' p = some (.lst xs) → DaAllS K (newP H H') xs ds → Q (.ref p) H'
theorem _root_.L2.PE.imp {X : Cx} {e : Expr} {t u : TE} (h : PE X e t) (k : ∀ σ H Q, u σ H Q → t σ H Q) : PE X e u := ⟨fun pins s σ H Q I q => h.run pins s σ H Q I (k _ _ _ q)⟩
theorem _root_.L2.PA.imp {X : Cx} {es : List Expr} {t u : TA} (h : PA X es t) (k : ∀ σ H Q, u σ H Q → t σ H Q) : PA X es u := ⟨fun pos pins s σ H Q I q => h.run pos pins s σ H Q I (k _ _ _ q)⟩
theorem one_dict {H : Hp} {p : Addr} {k : Key} {v : V} {K : PySem.W.Frag} {H1 H2 : Hp} {d : PyData} (hp : H p = none) (s1 : Same (upd H p (.dK [])) H1) (hd : DaS K (newP (upd H p (.dK [])) H1) v d) (e : H2 = upd H1 p (.dK [(k, v)])) :
    Same H H2 ∧ DaS K (newP H H2) (.ref p) (.dict [(keyD k, d)]) := by
  subst e
  have h1 : H1 p = some (.dK []) := s1 _ _ upd_same
  have sH : Same H H1 := (same_new hp).trans s1
  have sn : Same (newP (upd H p (.dK [])) H1) (newP H (upd H1 p (.dK [(k, v)]))) := fun b o e => by
    unfold newP at e ⊢
    split at e
    · next h =>
      have nb : b ≠ p := fun z => by rw [z, upd_same] at h; cases h
      rw [upd_ne nb] at h
      rw [if_pos h, upd_ne nb]; exact e
    · cases e
  refine ⟨fun b o e => ?_, .dic (kvs := [(k, v)]) (Rd.of ?_) (.cons (hd.same sn) .nil)⟩
  · have nb : b ≠ p := fun z => by rw [z, hp] at e; cases e
    rw [upd_ne nb]; exact sH _ _ e
  · rw [newP_get hp, upd_same]
mutual
theorem Lit.pe {X : Cx} : ∀ {e : Expr} {d : PyData}, Lit e d → PE X e (tLit X.K d)
  | _, _, .non => pe_non.imp fun σ H Q q => q _ _ (Same.refl _) .non
  | _, _, .bl => pe_bl.imp fun σ H Q q => q _ _ (Same.refl _) (.bl _)
  | _, _, .int => pe_int.imp fun σ H Q q => q _ _ (Same.refl _) (.int _)
  | _, _, .str => pe_str.imp fun σ H Q q => q _ _ (Same.refl _) (.str _)
  | _, _, .neg => (pe_un un_neg pe_int).imp fun σ H Q q => ⟨_, rfl, q _ _ (Same.refl _) (.int _)⟩
  | _, _, .negE ha => (pe_un un_neg ha.pe).imp fun σ H Q q v H1 s1 hv => by
      cases hv
      exact ⟨_, rfl, q _ _ s1 (.int _)⟩
  | _, _, .sub ha hb => (pe_op op_sub ha.pe hb.pe).imp fun σ H Q q v H1 s1 hv w H2 s2 hw => by
      cases hv; cases hw
      exact ⟨_, _, rfl, rfl, q _ _ (s1.trans s2) (.int _)⟩
  | _, _, .pow ha hb j0 j1 i1 => (pe_op op_pow ha.pe hb.pe).imp fun σ H Q q v H1 s1 hv w H2 s2 hw => by
      cases hv; cases hw
      exact ⟨_, _, rfl, rfl, ⟨j0, j1, i1⟩, q _ _ (s1.trans s2) (.int _)⟩
  | _, _, .lst h l => (pe_lstN h.pa).imp fun σ H Q q vs H1 s1 hd => ⟨by rw [hd.len, sizeLine_eq]; exact Nat.le_trans l (by decide), fun p hp hn =>
      q _ _ (s1.trans (same_new hp)) (.lst (SqL.of (by rw [newP_get (none_of s1 hp), upd_same])) (fun _ => hn) (hd.same (newP_mono (same_new hp))))⟩
  | _, _, .tup h l => (pe_tup h.pa).imp fun σ H Q q vs H1 s1 hd => ⟨by rw [hd.len, sizeLine_eq]; exact Nat.le_trans l (by decide), fun p hp =>
      q _ _ (s1.trans (same_new hp)) (.tup (SqT.of (by rw [newP_get (none_of s1 hp), upd_same])) (hd.same (newP_mono (same_new hp))))⟩
  | _, _, .dic0 => pe_dnewK.imp fun σ H Q q p hp => q _ _ (same_new hp) (.dic (Rd.of (by rw [newP_get hp, upd_same])) .nil)
  | _, _, .dicI h => (pe_disp (pps_cons pe_int h.pe pps_nil) (by rfl) (by rfl) (fun z => by cases z) (by show 1 ≤ 15; decide)).imp fun σ H Q q p hp v H1 s1 hd => by
      obtain ⟨a, b⟩ := one_dict (k := .inl _) hp s1 hd rfl
      exact ⟨s1 _ _ upd_same, [(.inl _, v)], rfl, (by show 1 ≤ 15; decide), q _ _ a b⟩
  | _, _, .dicS h => (pe_disp (pps_cons pe_str h.pe pps_nil) (by rfl) (by rfl) (fun z => by cases z) (by show 1 ≤ 15; decide)).imp fun σ H Q q p hp v H1 s1 hd => by
      obtain ⟨a, b⟩ := one_dict (k := .inr _) hp s1 hd rfl
      exact ⟨s1 _ _ upd_same, [(.inr _, v)], rfl, (by show 1 ≤ 15; decide), q _ _ a b⟩
theorem LitAll.pa {X : Cx} : ∀ {es : List Expr} {ds : List PyData}, LitAll es ds → PA X es (tLits X.K ds)
  | _, _, .nil => pa_nil.imp fun σ H Q q => q _ _ (Same.refl _) .nil
  | _, _, .cons h t => (pa_cons h.pe t.pa (h.star _ _)).imp fun σ H Q q v H1 s1 hd vs H2 s2 hds =>
      q _ _ (s1.trans s2) (.cons (hd.same (newP_mono s2)) (hds.same (newP_back s1)))
end
theorem pe_litL {X : Cx} {es : List Expr} {ds : List PyData} {p : Pos} (h : LitAll es ds) (l : ds.length ≤ 1000) : PE X (.List es p) (tLitL X.K ds) :=
  (pe_lstN h.pa).imp fun σ H Q q vs H1 s1 hd => ⟨by rw [hd.len, sizeLine_eq]; exact Nat.le_trans l (by decide), fun p hp hn =>
    q _ _ _ (none_of s1 hp) hn (s1.trans (same_new hp)) upd_same (hd.same (newP_mono (same_new hp)))⟩
theorem i_lit {K : PySem.W.Frag} {d : PyData} {σ : L2.St} {H : Hp} {Q : VK} (q : ∀ v H', Same H H' → DaS K (newP H H') v d → Q v H') : tLit K d σ H Q := q
theorem i_litL {K : PySem.W.Frag} {ds : List PyData} {σ : L2.St} {H : Hp} {Q : VK} (q : ∀ p xs H', H p = none → p ≠ sysModules → Same H H' → H' p = some (.lst xs) → DaAllS K (newP H H') xs ds → Q (.ref p) H') : tLitL K ds σ H Q := q
/-! ### bounds on what is shown -/
theorem i_rEqSame {H : Hp} {Q : VK} {x : V} (h : scal x x = true) (q : Q (.bl true) H) : rEq x x H Q := ⟨h, by rw [decide_eq_true (rfl : x = x)]; exact q⟩
theorem i_rNeSame {H : Hp} {Q : VK} {x : V} (h : scal x x = true) (q : Q (.bl false) H) : rNe x x H Q := ⟨h, by rw [decide_eq_true (rfl : x = x)]; exact q⟩
structure Sh (d : PyData) (n k : Nat) : Prop where
  ok : d.showable = true
  dp : d.depth ≤ k
  ln : d.shown.length ≤ n
theorem Sh.mono {d : PyData} {n k n' k' : Nat} (h : Sh d n k) (a : n ≤ n') (b : k ≤ k') : Sh d n' k' := ⟨h.ok, Nat.le_trans h.dp b, Nat.le_trans h.ln a⟩
theorem Sh.shw {d : PyData} {n k : Nat} (h : Sh d n k) (a : n ≤ 16777216) (b : k ≤ 20) : Shw d := ⟨h.ok, Nat.le_trans h.dp b, by rw [sizeLine_eq]; exact Nat.le_trans h.ln a⟩
theorem join_le (sep : Str) {n : Nat} : ∀ ts : List Str, (∀ t ∈ ts, t.length ≤ n) → (Str.join sep ts).length ≤ ts.length * (n + sep.length)
  | [], _ => by show 0 ≤ _; omega
  | [x], h => by
    have := h x (by simp)
    show x.length ≤ 1 * (n + sep.length)
    omega
  | x :: y :: r, h => by
    have h1 := h x (by simp)
    have ih := join_le sep (y :: r) (fun t ht => h t (List.mem_cons_of_mem _ ht))
    show (x ++ sep ++ Str.join sep (y :: r)).length ≤ _
    rw [Str.length_append, Str.length_append]
    have e : (x :: y :: r).length * (n + sep.length) = (y :: r).length * (n + sep.length) + (n + sep.length) := by
      rw [List.length_cons, Nat.add_mul, Nat.one_mul]
    omega
theorem shownAll_mem : ∀ {ds : List PyData} {t : Str}, t ∈ PyData.shownAll ds → ∃ d ∈ ds, d.shown = t
  | [], t, h => by rw [PyData.shownAll_nil] at h; cases h
  | d :: ds, t, h => by
    rw [PyData.shownAll_cons] at h
    rcases List.mem_cons.mp h with e | h
    · exact ⟨d, List.mem_cons_self, e.symm⟩
    · obtain ⟨e, he, k⟩ := shownAll_mem h
      exact ⟨e, List.mem_cons_of_mem _ he, k⟩
theorem depthAll_le {k : Nat} : ∀ {ds : List PyData}, (∀ d ∈ ds, d.depth ≤ k) → PyData.depthAll ds ≤ k
  | [], _ => by simp [PyData.depthAll]
  | d :: ds, h => by
    have h1 := h d List.mem_cons_self
    have h2 := depthAll_le (ds := ds) fun e he => h e (List.mem_cons_of_mem _ he)
    simp only [PyData.depthAll]
    omega
theorem Sh.lst {ds : List PyData} {n k : Nat} (h : ∀ d ∈ ds, Sh d n k) : Sh (.list ds) (ds.length * (n + 2) + 2) (k + 1) := by
  refine ⟨by simp only [PyData.showable]; exact showableAll_of fun d hd => (h d hd).ok, ?_, ?_⟩
  · have := depthAll_le fun d hd => (h d hd).dp
    simp only [PyData.depth]; omega
  · rw [PyData.shown_list, Str.length_append, Str.length_append]
    have := join_le (", " : Str) (n := n) (PyData.shownAll ds) fun t ht => by
      obtain ⟨d, hd, e⟩ := shownAll_mem ht
      rw [← e]; exact (h d hd).ln
    rw [PyData.shownAll_length] at this
    have e1 : ("[" : Str).length = 1 := by decide +kernel
    have e2 : ("]" : Str).length = 1 := by decide +kernel
    have e3 : (", " : Str).length = 2 := by decide +kernel
    rw [e3] at this
    omega
theorem Sh.tup {ds : List PyData} {n k : Nat} (h : ∀ d ∈ ds, Sh d n k) : Sh (.tuple ds) (ds.length * (n + 2) + 3) (k + 1) := by
  refine ⟨by simp only [PyData.showable]; exact showableAll_of fun d hd => (h d hd).ok, ?_, ?_⟩
  · have := depthAll_le fun d hd => (h d hd).dp
    simp only [PyData.depth]; omega
  · rw [PyData.shown_tuple, Str.length_append, Str.length_append]
    have := join_le (", " : Str) (n := n) (PyData.shownAll ds) fun t ht => by
      obtain ⟨d, hd, e⟩ := shownAll_mem ht
      rw [← e]; exact (h d hd).ln
    rw [PyData.shownAll_length] at this
    have e1 : ("(" : Str).length = 1 := by decide +kernel
    have e3 : (", " : Str).length = 2 := by decide +kernel
    have e2 : (((if (ds.length == 1) = true then ",)" else ")" : String) : Str)).length ≤ 2 := by
      split <;> decide +kernel
    rw [e3] at this
    omega
theorem Sh.bl {b : Bool} : Sh (.bool b) 5 0 := by cases b <;> exact ⟨by decide +kernel, by decide +kernel, by decide +kernel⟩
theorem Sh.non : Sh .none 4 0 := ⟨by decide +kernel, by decide +kernel, by decide +kernel⟩
theorem Sh.int {i : Int} (h : i.natAbs.log2 < 1920) : Sh (.int i) 1921 0 := ⟨by simpa [PyData.showable] using h, by simp [PyData.depth], by rw [PyData.shown_int]; exact int_text_len_1921 h⟩
theorem Sh.str {x : Str} {n : Nat} (h : okS x n) : Sh (.str x) (10 * n + 2) 0 := ⟨rfl, by simp [PyData.depth], shown_str_le h⟩
theorem shw_b2 (a b : Bool) : Shw (.list [.bool a, .bool b]) := (Sh.lst (ds := [.bool a, .bool b]) (n := 5) (k := 0) fun d hd => by
  simp only [List.mem_cons, List.not_mem_nil, or_false] at hd
  rcases hd with rfl | rfl <;> exact Sh.bl).shw (by show 2 * 7 + 2 ≤ _; decide) (by decide)
end KX

namespace KX
open PySem PySem.Spec PyProof.Rows L2
/-! ### own exception classes over any built-in base -/
structure BaseF (newId initId : String) (bmB : List Value) : Prop where
  ex : ∃ B, ExcBaseFacts B newId initId bmB ∧ StoreFacts B bmB "object.__setattr__" "object"
  hand : PySem.W.handedIn (.builtin initId) = true
theorem baseV : BaseF "ValueError.__new__" "ValueError.__init__" (tailOf "ValueError") := ⟨⟨_, PySem.F.excBase_ValueError, PySem.F.store_ValueError⟩, by decide +kernel⟩
theorem baseL : BaseF "LookupError.__new__" "LookupError.__init__" (tailOf "LookupError") := ⟨⟨_, PySem.F.excBase_LookupError, PySem.F.store_LookupError⟩, by decide +kernel⟩
theorem baseR : BaseF "RuntimeError.__new__" "RuntimeError.__init__" (tailOf "RuntimeError") := ⟨⟨_, PySem.F.excBase_RuntimeError, PySem.F.store_RuntimeError⟩, by decide +kernel⟩
theorem baseA : BaseF "ArithmeticError.__new__" "ArithmeticError.__init__" (tailOf "ArithmeticError") := ⟨⟨_, PySem.F.excBase_ArithmeticError, PySem.F.store_ArithmeticError⟩, by decide +kernel⟩
/-- what the written part tells of such a class -/
structure OexB (K : PySem.W.Frag) (newId initId : String) (bmB : List Value) (C : Addr) : Prop where
  bf : BaseF newId initId bmB
  ini : PySem.W.excInitIn K C bmB newId = true
  ov : PySem.W.excOver K C bmB = true
  sa : PySem.W.findIn K (.ref C) "__setattr__" = some (some (.builtin "object.__setattr__"))
  hd : PySem.W.hasDictIn K C = true
  exC : PySem.W.subIn K (.ref C) (.type "BaseException") = some true
  tyC : PySem.W.typeIn K (.ref C) = some (.type "type")
  kC : PySem.W.keepIn K (.ref C) = true
section
open PySem.W
variable {prog : Program} {w : World} {A : Around} {R : Result → Shared → Prop} {s : Shared} {K : PySem.W.Frag} {B : String} {bmB : List Value} {C x t1 : Addr} {name : Str} {tk : Tok} {v : Value}
/-- x.name = v, x an exception without a dict as yet -/
theorem osb_new (SF : StoreFacts B bmB "object.__setattr__" "object") (inK : K.In s.heap) (hx : s.heap.get? x = some (excObj C t1 none .none)) (ov : excOver K C bmB = true) (ht : takerIn K C name = some none) (hh : hasDictIn K C = true)
    (q : ∀ h' tk', (∀ b o, b ≠ x → s.heap.get? b = some o → h'.get? b = some o) → h'.get? x = some (excObj C t1 (some s.heap.objs.size) .none) → h'.Ns1 s.heap.objs.size (fun y => if y = name then some v else none) → R (.ok (.ret .none)) { s with heap := h', toks := tk' }) :
    codeAny (model prog w) A (.call (.builtin "object.__setattr__") ⟨[.ref x, .str name tk, v], []⟩) R s := by
  have lt := Heap.lt_size hx
  refine osa_openX (od := none) SF inK ⟨hx, rfl, rfl, trivial⟩ ov ht fun b => ?_
  obtain ⟨cd, hc, hd⟩ := any_some hh
  refine wpAny_bind (wpAny_pure (wpAny_bind (instanceDict_exc hx (looks_clsIn inK hc) hd ?_)))
  show wpAny _ _ (Builtin.ObjectAttr.storeInDict s.heap.objs.size (.str name tk) name v) _ _ _
  obtain ⟨hp, g, d, t, os⟩ := s
  have far : x ≠ hp.objs.size := Nat.ne_of_lt lt
  have at1 : (hp.push (dictOf [] 0)).get? x = some (excObj C t1 none .none) := Heap.get?_push_of_some _ hx
  refine PySem.HandSPX.store_in_new ⟨_, #[], _, (Heap.get?_update_ne _ _ _ _ far.symm).trans (Heap.get?_push_at rfl rfl), rfl, fun e he => absurd he (by simp), fun _ => rfl⟩ fun h' tk' hn hs => ?_
  refine q h' tk' (fun b o nb e => ?_) ?_ hn
  · exact (hs.2 b (Nat.ne_of_lt (Heap.lt_size e))).trans ((Heap.get?_update_ne _ _ _ _ nb).trans (Heap.get?_push_of_some _ e))
  · exact (hs.2 x far).trans (Heap.get?_update_self _ at1 rfl)
/-- .. that has its dict at dx -/
theorem osb_old {dx : Addr} {m0 : Str → Option Value} {nl : List Str} (SF : StoreFacts B bmB "object.__setattr__" "object") (inK : K.In s.heap) (hx : s.heap.get? x = some (excObj C t1 (some dx) .none)) (hns : s.heap.Ns1 dx m0) (hw : Within m0 nl) (few : nl.length ≤ 1000)
    (ov : excOver K C bmB = true) (ht : takerIn K C name = some none) (hh : hasDictIn K C = true)
    (q : ∀ h' tk', (∀ b o, b ≠ dx → s.heap.get? b = some o → h'.get? b = some o) → h'.Ns1 dx (fun y => if y = name then some v else m0 y) → R (.ok (.ret .none)) { s with heap := h', toks := tk' }) :
    codeAny (model prog w) A (.call (.builtin "object.__setattr__") ⟨[.ref x, .str name tk, v], []⟩) R s := by
  obtain ⟨oD, _, _, hoD, _, _⟩ := hns.count hw
  refine osa_openX (od := some oD) SF inK ⟨hx, rfl, rfl, hoD⟩ ov ht fun b => ?_
  obtain ⟨cd, hc, hd⟩ := any_some hh
  refine wpAny_bind (wpAny_pure (wpAny_bind (wpAny_bind (wpAny_loadPart hx (wpAny_bind ((looks_clsIn inK hc).here ?_))))))
  rw [hd]
  refine wpAny_pure (a := some dx) ?_
  show wpAny _ _ (Builtin.ObjectAttr.storeInDict dx (.str name tk) name v) _ _ _
  obtain ⟨hp, g, d, t, os⟩ := s
  exact PySem.OEX.store_in_old hns hw few fun h' tk' hn hs => q h' tk' (fun b o nb e => (hs.2 b nb).trans e) hn
end
section
variable {X : Cx} {pins : List (Addr × Obj)} {σ : L2.St} {H : Hp} {s : Shared} {newId initId : String} {bmB : List Value} {a C dx : Addr} {f : Str} {y : V} {u : Value} {fs : List (Str × V)} {Q : Unit → Shared → Prop} {E : Value → Shared → Prop} {A : Around}
/-- an exception gets its dict: what is held then -/
theorem inv_dict {h' : Heap} {t' : Nat} {t1 : Addr} (I : Inv X pins σ H s) (e : H a = some (exo a C none)) (far : s.heap.objs.size ≤ dx) (k : ∀ b o, b ≠ a → s.heap.get? b = some o → h'.get? b = some o)
    (hx : h'.get? a = some (PySem.W.excObj C t1 (some dx) .none)) (ok : ObjOk X.prog X.w H h' dx (exd dx fs)) :
    Inv X pins σ (L2.upd (L2.upd H dx (exd dx fs)) a (exo a C (some dx))) { s with heap := h', toks := t' } := by
  have free : H dx = none := I.hok.fresh far
  have ad : dx ≠ a := fun z => by rw [z, e] at free; cases free
  have old : ∀ {b o}, s.heap.get? b = some o → b ≠ dx := fun {b o} z => Nat.ne_of_lt (Nat.lt_of_lt_of_le (Heap.lt_size z) far)
  have off : ∀ {b}, b ≠ a → b ≠ dx → L2.upd (L2.upd H dx (exd dx fs)) a (exo a C (some dx)) b = H b := fun {b} z1 z2 => by rw [upd_ne z1, upd_ne z2]
  have nota : ∀ {b}, H b = none → b ≠ a := fun {b} n z => by rw [z, e] at n; cases n
  have tr : ∀ {b o}, H b = some o → exo a C none ≠ o → b ≠ a ∧ b ≠ dx := fun {b o} z n => ⟨at_ne e z n, ne_of_none z free⟩
  refine I.un ⟨fun b o z n _ _ => k b o (nota n) z, fun b o z n _ _ => ⟨o.slots, k b o (nota n) z⟩, fun b o z n _ => by rw [off (nota n) (old z)]; exact n, fun b o z _ => ?_,
    fun b xs z => ?_, fun b o v z => ?_, fun b ps z => ⟨#[], ?_⟩⟩ fun b o z => ?_
  · by_cases q : b = a
    · rw [q]; exact ⟨_, hx⟩
    · exact ⟨o, k b o q z⟩
  · obtain ⟨z1, z2⟩ := tr z exo_tup
    rw [off z1 z2]; exact z
  · obtain ⟨z1, z2⟩ := tr z exo_frz
    rw [off z1 z2]; exact z
  · obtain ⟨z1, z2⟩ := tr z exo_tbl
    rw [off z1 z2, z]; simp
  · have keepO : ∀ c q, H c = some (.own q) → L2.upd (L2.upd H dx (exd dx fs)) a (exo a C (some dx)) c = some (.own q) := fun c q hc => by
      obtain ⟨z1, z2⟩ := tr hc exo_own
      rw [off z1 z2]; exact hc
    have keepT : ∀ c xs, H c = some (.tup xs) → L2.upd (L2.upd H dx (exd dx fs)) a (exo a C (some dx)) c = some (.tup xs) := fun c xs hc => by
      obtain ⟨z1, z2⟩ := tr hc exo_tup
      rw [off z1 z2]; exact hc
    by_cases q : b = a
    · rw [q, upd_same] at z
      cases z
      rw [q]
      exact exo_ok hx
    · rw [upd_ne q] at z
      by_cases qd : b = dx
      · rw [qd, upd_same] at z
        cases z
        rw [qd]
        exact ok.stay (fun c v _ w => w) (keepO · _) keepT
      · rw [upd_ne qd] at z
        refine (I.hok b o z).stay (fun c v hc w => k c v ?_ w) (keepO · _) keepT
        rcases hc with hc | hc
        · rw [hc]; exact q
        · exact (tr hc exo_own).1
/-- self.f = y, the first one -/
theorem stb_new (T : OexB X.K newId initId bmB C) (I : Inv X pins σ H s) (e : H a = some (exo a C none)) (ht : PySem.W.takerIn X.K C f = some none) (ry : RelV y u)
    (q : ∀ dx s', H dx = none → dx ≠ a → Inv X pins σ (L2.upd (L2.upd H dx (exd dx [(f, y)])) a (exo a C (some dx))) s' → Q () s') : wpAny (model X.prog X.w) A (setAttr (.ref a) f u) Q E s := by
  obtain ⟨t1, ho⟩ := exo_at I.hok e
  obtain ⟨_, _, SF⟩ := T.bf.ex
  refine PySem.W.set_plain (od := none) I.kIn ⟨ho, rfl, rfl, trivial⟩ T.sa ?_
  refine osb_new (s := { s with toks := s.toks + 1 }) SF I.kIn ho T.ov ht T.hd fun h' tk' k hx hn => ?_
  have free : H s.heap.objs.size = none := I.hok.fresh (Nat.le_refl _)
  refine q s.heap.objs.size _ free (fun z => by rw [z, e] at free; cases free) (inv_dict (I.tok _) e (Nat.le_refl _) k hx (exd_ok hn (relO_put (fs := []) ry fun _ => True.intro)))
/-- self.f = y, a further one -/
theorem stb_old (T : OexB X.K newId initId bmB C) (I : Inv X pins σ H s) (e : H a = some (exo a C (some dx))) (ed : H dx = some (exd dx fs)) (few : fs.length ≤ 900) (ht : PySem.W.takerIn X.K C f = some none) (ry : RelV y u)
    (q : ∀ s', Inv X pins σ (L2.upd H dx (exd dx ((f, y) :: fs))) s' → Q () s') : wpAny (model X.prog X.w) A (setAttr (.ref a) f u) Q E s := by
  obtain ⟨t1, ho⟩ := exo_at I.hok e
  obtain ⟨mA, hns, rel⟩ := exd_at I.hok ed
  obtain ⟨_, _, SF⟩ := T.bf.ex
  obtain ⟨oD, _, _, hoD, _, _⟩ := hns.count (within_of rel)
  refine PySem.W.set_plain (od := some oD) I.kIn ⟨ho, rfl, rfl, hoD⟩ T.sa ?_
  refine osb_old (s := { s with toks := s.toks + 1 }) SF I.kIn ho hns (within_of rel) (by rw [List.length_map]; omega) T.ov ht T.hd fun h' tk' k hn => ?_
  obtain ⟨o, es, ep, he, r⟩ := id hn
  exact q _ (I.write (t' := tk') (x := dx) (e := dx) (by rw [ed]; exact True.intro) (.inl rfl) k ⟨o, he⟩ (exd_ok hn (relO_put ry rel)))
/-- Base.__init__(self, ..): nothing of it is told -/
theorem initb_ok {us : List Value} {Q : Value → Shared → Prop} (T : OexB X.K newId initId bmB C) (I : Inv X pins σ H s) (e : H a = some (exo a C none)) (few : us.length ≤ sizeLine) (q : ∀ s', Inv X pins σ H s' → Q .none s') :
    wpAny (model X.prog X.w) A (call (.builtin initId) (.ref a :: us)) Q E s := by
  obtain ⟨_, BF, _⟩ := T.bf.ex
  obtain ⟨nm, N, qn, bs, bm, hdct, sn, sub, ab, col, dd, k0, k1, k2, k3, k5, hC, hT⟩ := PySem.W.excInit_of I.kIn T.ini
  obtain ⟨t1, ho⟩ := exo_at I.hok e
  obtain ⟨hp, g, d, t, os⟩ := s
  refine wpAny_call (PySem.HandSPX.init_base BF hT hC ho few fun h' t2 k hx => ?_)
  have J := I.write (t' := t) (x := a) (e := a) (o := exo a C none) (by rw [e]; exact True.intro) (.inl rfl) k ⟨_, hx⟩ (exo_ok hx)
  have same : L2.upd H a (exo a C none) = H := funext fun b => by
    by_cases z : b = a
    · rw [z, upd_same, e]
    · rw [upd_ne z]
  exact q _ (same ▸ J)
end
/-! ### readings and rules -/
def tBI (K : PySem.W.Frag) (newId initId : String) (bmB : List Value) (ta : TA) : TE := fun σ H Q => ta σ H fun vs H1 =>
  ∃ (a C : Addr) (ws : List V), vs = .ref a :: ws ∧ ws.length ≤ 1000 ∧ OexB K newId initId bmB C ∧ H1 a = some (exo a C none) ∧ Q .non H1
def tStB (K : PySem.W.Frag) (newId initId : String) (bmB : List Value) (f : Str) (to te : TE) : TS := fun D σ H => te σ H fun y H1 => to σ H1 fun x H2 => ∃ a C : Addr, x = .ref a ∧ OexB K newId initId bmB C ∧ PySem.W.takerIn K C f = some none ∧
  ((H2 a = some (exo a C none) ∧ ∀ dx, H2 dx = none → dx ≠ a → D.nx σ (L2.upd (L2.upd H2 dx (exd dx [(f, y)])) a (exo a C (some dx)))) ∨
    ∃ (dx : Addr) (fs : List (Str × V)), H2 a = some (exo a C (some dx)) ∧ H2 dx = some (exd dx fs) ∧ fs.length ≤ 900 ∧ D.nx σ (L2.upd H2 dx (exd dx ((f, y) :: fs))))
/-- what the class CB hands out as its __init__: that of its built-in base -/
structure InitB (K : PySem.W.Frag) (initId : String) (CB : Addr) : Prop where
  sp : PySem.W.specialIn K (.ref CB) "__getattribute__" = some (some (.builtin "type.__getattribute__"))
  rd : PySem.W.readsIn K CB (.type "type") = true
  fc : PySem.W.findCls K (.ref CB) (.type "type") "__init__" = some (.val (.builtin initId))
section
variable {X : Cx} {o e : Expr} {es : List Expr} {to te : TE} {ta : TA} {f x : Str} {p p' p1 p2 pos : Pos} {newId initId : String} {bmB : List Value} {CB : Addr}
theorem pe_binit {pl : Sem Bool} (hg : Gl X x) (hm : X.mg x = some (.ref CB)) (hb : BaseF newId initId bmB) (ib : InitB X.K initId CB) (ha : PA X (e :: es) ta)
    (hdb : (x == ("__debug__" : Str)) = false := by decide)
    (hc : eval (.Call (.Attribute (.Name x p1) "__init__" p2) (e :: es) [] pos) X.env = (do
      let ov ← eval (.Name x p1) X.env
      standAt p2.atName
      let (f, first) ← holding [ov] (getMethod ov "__init__" pl)
      callWith pos f first (backTo pos (starEach (e :: es) X.env)) (backToKw pos (keywordEach [] X.env))) := by rfl)
    (he : starEach (e :: es) X.env = (false, eval e X.env) :: starEach es X.env := by rfl) (hpl : (backTo pos (starEach es X.env)).any (·.1) = false := by rfl) :
    PE X (.Call (.Attribute (.Name x p1) "__init__" p2) (e :: es) [] pos) (tBI X.K newId initId bmB ta) := by
  refine ⟨fun pins s σ H Q I q => ?_⟩
  refine PySem.W.methodCall_KW (ld_glob I hg hm ?_ hdb) hc
  refine PySem.W.method_cls I.kIn ib.sp (PySem.W.cls_value I.kIn ib.rd ib.fc hb.hand ?_)
  show wpAny _ _ (callWith pos (Value.builtin initId) [] (backTo pos (starEach (e :: es) X.env)) []) _ _ _
  refine PyProof.Rows.callWith_method1 (thn (ha.run pos pins _ σ H _ (I.tok _) q) fun us s1 ⟨vs, H1, I1, r1, a, C, ws, ev, few, T, ea, q⟩ => ?_) he hpl
  subst ev
  cases r1 with
  | @cons _ u0 _ ur ra rw' =>
    obtain rfl : u0 = Value.ref a := ra
    exact initb_ok T I1 ea (by rw [← Paired.length rw', sizeLine_eq]; omega) fun s' J => ⟨.non, H1, J, rfl, q⟩
theorem ps_stB (ho : PE X o to) (he : PE X e te) (hs : swapsWith e (some (.Attribute o f p')) pos.line X.env = pure false := by rfl) : PS X (.Assign [.Attribute o f p'] e pos) (tStB X.K newId initId bmB f to te) := by
  refine ⟨fun pins s σ H D I q => ?_⟩
  refine plainObj_wpAny_Assign_Attribute (thn (he.run pins s σ H _ I q) fun v s1 ⟨y, H1, I1, r1, q1⟩ => thn (ho.run pins s1 σ H1 _ I1 q1) fun u s2 ⟨x, H2, I2, r2, a, C, ex, T, ht, q⟩ => ?_) hs
  subst ex
  obtain rfl : u = Value.ref a := r2
  rcases q with ⟨ea, q⟩ | ⟨dx, fs, ea, ed, hl, q⟩
  · exact stb_new T I2 ea ht r1 fun dx s' n ne J => ⟨σ, _, J, q dx n ne⟩
  · exact stb_old T I2 ea ed hl ht r1 fun s' J => ⟨σ, _, J, q⟩
/-- C(e, ..) as what is raised -/
theorem pmk_B {CX : CXT} {C fI : Addr} {k : Nat} {fd : FuncData} {ps : List Str} {sp : Sp} (T : OexB X.K newId initId bmB C) (iC : PySem.W.findIn X.K (.ref C) "__init__" = some (some (.ref fI))) (tI : PySem.W.typeIn X.K (.ref fI) = some (.type "function"))
    (G : FnOk X.prog X.w X.K X.mg X.base CX k fI fd ps sp) (hr : Room (k + 1) X.A) (hb : Binds X.K fd ps []) (hx : Passes CX X (fun _ _ _ => False)) (hg : Gl X x) (hm : X.mg x = some (.ref C)) (ha : PA X (e :: es) ta)
    (hdb : (x == ("__debug__" : Str)) = false := by decide) (he : starEach (e :: es) X.env = (false, eval e X.env) :: starEach es X.env := by rfl) (hpl : (backTo pos (starEach es X.env)).any (·.1) = false := by rfl) :
    PMk X (.Call (.Name x p) (e :: es) [] pos) (tMkO C sp [] ta) := by
  intro pins s σ H Q I q
  obtain ⟨_, BF, _⟩ := T.bf.ex
  refine wpAny_Call_Name_kw (ld_glob I hg hm ?_ hdb)
  refine PySem.W.callWith_K (h₀ := X.base) I.ok.mod.kin T.kC (thn (ha.run pos pins s σ H _ I q) fun us s1 ⟨vs, H1, J, r, few, q1⟩ => ⟨J.kIn, ?_⟩) he hpl
  show wpAny _ _ (call (.ref C) us) _ _ _
  obtain ⟨nm, N, qn, bs, bm, hdct, sn, sub, ab, col, dd, k0, k1, k2, k3, k5, hC, hT⟩ := PySem.W.excInit_of J.kIn T.ini
  obtain ⟨hp, g, dr, tk, os⟩ := s1
  have up : hp.objs.size ≤ hp.objs.size + 1 := Nat.le_succ _
  have free : H1 (hp.objs.size + 1) = none := J.hok.fresh up
  have kk : ∀ b o, hp.get? b = some o → ((hp.push (PySem.W.kdv_tup us)).push (PySem.HandSPX.excO C hp.objs.size)).get? b = some o := fun b o z => Heap.get?_push_of_some _ (Heap.get?_push_of_some _ z)
  have there : ((hp.push (PySem.W.kdv_tup us)).push (PySem.HandSPX.excO C hp.objs.size)).get? (hp.objs.size + 1) = some (PySem.HandSPX.excO C hp.objs.size) := by heap_get
  have J2 := J.laid (t' := tk) (a := hp.objs.size + 1) (o := exo (hp.objs.size + 1) C none) (h' := (hp.push (PySem.W.kdv_tup us)).push (PySem.HandSPX.excO C hp.objs.size)) kk up (exo_ok there)
  have q2 := q1 (hp.objs.size + 1) free
  rw [List.append_nil] at q2
  have r2 : Vals (V.ref (hp.objs.size + 1) :: vs) (Value.ref (hp.objs.size + 1) :: us) := .cons rfl r
  have len : (Value.ref (hp.objs.size + 1) :: us ++ []).length = ps.length := by
    rw [List.append_nil]
    exact (r2.length.symm.trans (G.len _ _ _ _ q2))
  have fits : us.length ≤ sizeLine := by rw [← Paired.length r, sizeLine_eq]; omega
  have bind := hb ⟨(hp.push (PySem.W.kdv_tup us)).push (PySem.HandSPX.excO C hp.objs.size), g, dr, tk, os⟩ (Value.ref (hp.objs.size + 1) :: us) J2.kIn len
  rw [List.append_nil] at bind
  refine wpAny_call (PySem.HandSPX.call_own BF hT hC (PySem.W.looks_findIn J.kIn iC) (fun self => PySem.W.bind_fn J.kIn self tI) fits
    (codeAny_mono (G.run _ X.stack _ _ ⟨Value.ref (hp.objs.size + 1) :: us, []⟩ _ _ _ (fun _ _ _ => False) (hr.make C us []) (J2.env0.make C us []) bind r2 q2) fun r s' hq => ?_))
  match r, hq with
  | .error er, hq => exact hx pins σ _ _ er s' J2 hq
  | .ok .next, hq => exact False.elim hq
  | .ok .brk, hq => exact False.elim hq
  | .ok .cont, hq => exact False.elim hq
  | .ok (.ret u), ⟨v, H2, os2, bare2, un2, hok2, rv, ev, d, fs, ea, ed, hd1, q3⟩ =>
    subst ev
    obtain ⟨h2, g2, d2, t2, os'⟩ := s'
    exact ⟨rv, mk_end (raises_own T.exC T.tyC) J up kk un2 hok2 os2 bare2 ea ed hd1 q3⟩
end
/-- all that is asked of an own exception class -/
structure ExT (K : PySem.W.Frag) (newId initId : String) (bmB : List Value) (C : Addr) : Prop where
  o : OexB K newId initId bmB C
  ga : PySem.W.findIn K (.ref C) "__getattribute__" = some (some (.builtin "BaseException.__getattribute__"))
  gg : PySem.W.findIn K (.ref C) "__getattr__" = some none
  cl : PySem.W.findIn K (.ref C) "__class__" = some (some (.builtin "object.__class__"))
  hm : PySem.W.mroIn K C (.type "object") = some true
structure ClassGet (K : PySem.W.Frag) : Prop where
  hn : PySem.W.specialIn K (.builtin "object.__class__") "__get__" = some (some (.builtin "getset_descriptor.__get__"))
  ht : PySem.W.takesIn K (.builtin "object.__class__") = some true
theorem ExT.xf {K : PySem.W.Frag} {newId initId : String} {bmB : List Value} {C : Addr} (T : ExT K newId initId bmB C) : XfC K C := ⟨T.ga, T.gg, T.o.exC, T.o.hd⟩
/-- an except clause's class -/
theorem ExT.exm {K : PySem.W.Frag} {n1 n2 i1 i2 : String} {b1 b2 : List Value} {C D : Addr} {b : Bool} (_T : ExT K n1 i1 b1 C) (S : ExT K n2 i2 b2 D) (h : PySem.W.subIn K (.ref C) (.ref D) = some b) : PySem.W.exmOne K (.ref C) (.ref D) = some b :=
  PySem.W.exm_ref S.o.exC S.o.hd S.o.tyC h
/-- isinstance(e, c), e the exception that the suite holds: its class D and dict are told -/
def rIsX (K : PySem.W.Frag) (cls : Value) (d : Option Addr) (a : Addr) : List V → Hp → VK → Prop := fun xs H Q => ∃ (D : Addr) (c : V) (cv : Value) (b : Bool), cls = .ref D ∧ (∃ n i m, ExT K n i m D) ∧ ClassGet K ∧ xs = [.ref a, c] ∧ (∀ u, RelV c u → u = cv) ∧ PySem.W.kitOne K (.ref D) cv = some b ∧
  (∀ dd, d = some dd → ∃ fs, H dd = some (.xd fs)) ∧ Q (.bl b) H
theorem i_isX {K : PySem.W.Frag} {a D : Addr} {d : Option Addr} {c : V} {cv : Value} {b : Bool} {n i : String} {m : List Value} {H : Hp} {Q : VK} (T : ExT K n i m D) (G : ClassGet K) (h : ∀ u, RelV c u → u = cv) (k : PySem.W.kitOne K (.ref D) cv = some b) (hd : ∀ dd, d = some dd → ∃ fs, H dd = some (.xd fs)) (q : Q (.bl b) H) :
    rIsX K (.ref D) d a [.ref a, c] H Q := ⟨D, c, cv, b, rfl, ⟨n, i, m, T⟩, G, rfl, h, k, hd, q⟩
theorem rel_ref {a : Addr} : ∀ u, RelV (.ref a) u → u = Value.ref a := fun u r => r
theorem rel_ty {n : String} : ∀ u, RelV (.ty n) u → u = Value.type n := fun u r => r
theorem hasD {K : PySem.W.Frag} {C : Addr} (h : PySem.W.hasDictIn K C = true) : (PySem.W.clsIn K C).isSome = true := by
  obtain ⟨cd, hc, _⟩ := PySem.W.any_some h
  rw [hc]; rfl
theorem call_isX {X : Cx} {a : Addr} {cls : Value} {d : Option Addr} {oe : Obj} {pn : List (Addr × Obj)} (hz : Zc cls d oe) (hf : ∃ vs, oe.data = .fields vs) : CallR (X.suite a ((a, oe) :: pn)) (.builtin "isinstance") (rIsX X.K cls d a) := by
  intro pins s σ H xs us Q I r h
  obtain ⟨D, c, cv, b, rfl, ⟨_, _, _, T⟩, G, rfl, hcv, k, hd, q⟩ := h
  obtain ⟨u1, u2, rfl, r1, r2⟩ : ∃ u1 u2, us = [u1, u2] ∧ RelV (.ref a) u1 ∧ RelV c u2 := by
    cases r with
    | cons r1 r => cases r with
      | cons r2 r => cases r; exact ⟨_, _, rfl, r1, r2⟩
  cases r1
  obtain rfl := hcv _ r2
  obtain ⟨there, _⟩ := I.pin (a, oe) (List.mem_append.mpr (.inl List.mem_cons_self))
  obtain ⟨vs, hv⟩ := hf
  have nc : PySem.W.notCls oe = true := by unfold PySem.W.notCls; rw [hv] <;> rfl
  have J : ∃ od, PySem.W.InstAt s.heap a oe D od := by
    cases d with
    | none => exact ⟨none, there, hz.1, nc, by rw [hz.2]; trivial⟩
    | some dd =>
      obtain ⟨fs, e⟩ := hd dd rfl
      obtain ⟨mA, ⟨o, es, ep, ho, _⟩, _⟩ : ObjOk X.prog X.w H s.heap dd (.xd fs) := I.hok dd _ e
      exact ⟨some o, there, hz.1, nc, by rw [hz.2]; exact ho⟩
  obtain ⟨od, J⟩ := J
  exact PySem.W.kia_one (PySem.W.kitx_exc (hasD T.o.hd) T.ga T.gg T.o.exC T.cl G.hn G.ht T.hm) I.kIn J k (fun z => nomatch z) fun tk => ⟨.bl b, H, I.kept (t' := tk) fun _ _ z => z, rfl, q⟩
/-- repr within an except suite -/
theorem call_reprS {X : Cx} {a : Addr} {pn : List (Addr × Obj)} {k : Nat} (hr : Rg k X.A) : CallR (X.suite a pn) (.builtin "repr") (rRepr X.K) :=
  call_reprD (X := X.suite a pn) hr.gd (by have := hr.room.un; show X.A.units + 100 < cLine; omega)
/-! ### readings -/
section
variable {K : PySem.W.Frag} {σ : L2.St} {H : Hp} {Q : VK} {newId initId : String} {bmB : List Value}
theorem i_bi {ta : TA} (q : ta σ H fun vs H1 => ∃ (a C : Addr) (ws : List V), vs = .ref a :: ws ∧ ws.length ≤ 1000 ∧ OexB K newId initId bmB C ∧ H1 a = some (exo a C none) ∧ Q .non H1) : tBI K newId initId bmB ta σ H Q := q
theorem i_stB {f : Str} {to te : TE} {nx bk ct : L2.St → Hp → Prop} (q : te σ H fun y H1 => to σ H1 fun x H2 => ∃ a C : Addr, x = .ref a ∧ OexB K newId initId bmB C ∧ PySem.W.takerIn K C f = some none ∧
    ((H2 a = some (exo a C none) ∧ ∀ dx, H2 dx = none → dx ≠ a → nx σ (L2.upd (L2.upd H2 dx (exd dx [(f, y)])) a (exo a C (some dx)))) ∨
      ∃ (dx : Addr) (fs : List (Str × V)), H2 a = some (exo a C (some dx)) ∧ H2 dx = some (exd dx fs) ∧ fs.length ≤ 900 ∧ nx σ (L2.upd H2 dx (exd dx ((f, y) :: fs))))) : tStB K newId initId bmB f to te ⟨nx, Q, bk, ct⟩ σ H := q
/-- what an __init__ promises that stores its arguments, in order, as the fields fs -/
def spI (C : Addr) (fs : List Str) : Sp := fun vs H Q _ => ∃ (a : Addr) (ws : List V), vs = .ref a :: ws ∧ ws.length = fs.length ∧ H a = some (exo a C none) ∧
  ∀ d H', H d = none → d ≠ a → H' a = some (exo a C (some d)) → H' d = some (exd d (fs.zip ws).reverse) → (∀ b, b ≠ a → b ≠ d → H' b = H b) → Q .non H'
/-- C(..) that is raised: what is asked behind the arguments -/
def MkR (C : Addr) (sp : Sp) (vs : List V) (H1 : Hp) (W : XK) : Prop := vs.length ≤ 1000 ∧ ∀ a, H1 a = none → sp (.ref a :: (vs ++ [])) (L2.upd H1 a (exo a C none))
  (fun v H2 => v = .non ∧ ∃ (d : Addr) (fs : List (Str × V)), H2 a = some (exo a C (some d)) ∧ H2 d = some (exd d fs) ∧ H1 d = none ∧ W (.ref C) (some d) (L2.upd (del H2 a) d (.xd fs))) (fun _ _ _ => False)
theorem i_mk0 {C : Addr} {sp : Sp} {ta : TA} {W : XK} (q : ta σ H fun vs H1 => MkR C sp vs H1 W) : tMkO C sp [] ta σ H W := q
/-- .. over a heap that is told by what it holds -/
theorem i_mkR {C : Addr} {fs : List Str} {vs : List V} {W : XK} (hl : vs.length = fs.length) (few : fs.length ≤ 1000) (h : ∀ d H2, H d = none → Same H H2 → H2 d = some (.xd (fs.zip vs).reverse) → W (.ref C) (some d) H2) : MkR C (spI C fs) vs H W := by
  refine ⟨by omega, fun a ha => ⟨a, vs, by rw [List.append_nil], hl, upd_same, fun d H' hd ne ea ed off => ⟨rfl, d, _, ea, ed, by rwa [upd_ne ne] at hd, ?_⟩⟩⟩
  rw [upd_ne ne] at hd
  refine h d _ hd (fun b o e => ?_) upd_same
  have n1 : b ≠ a := ne_of_none e ha
  have n2 : b ≠ d := ne_of_none e hd
  rw [upd_ne n2, del_ne n1, off b n1 n2, upd_ne n1]
  exact e
end
def tRaise (t : L2.St → Hp → XK → Prop) (W : WX) : TS := fun _ σ H => t σ H fun cls d H' => W cls d σ H'
theorem ps_raiseN {X : Cx} {W : WX} {e : Expr} {t : L2.St → Hp → XK → Prop} {pos : Pos} (hc : X.calm = true) (tk : Takes X W) (he : PMk X e t) : PS X (.Raise (some e) none pos) (tRaise t W) := ps_raise hc tk he
theorem i_raise {t : L2.St → Hp → XK → Prop} {W : WX} {D : Ends} {σ : L2.St} {H : Hp} (q : t σ H fun cls d H' => W cls d σ H') : tRaise t W D σ H := q
/-- a call that may raise, in a try's body -/
def tCallX (sp : Sp) (E : L2.St → XK) (t : TA) : TE := fun σ H Q => t σ H fun vs H1 => sp vs H1 Q (E σ)
theorem pe_callX {X : Cx} {CX : CXT} {k : Nat} {f : Addr} {fd : FuncData} {ps : List Str} {sp : Sp} {E : L2.St → XK} {x : Str} {p pos : Pos} {e : Expr} {es : List Expr} {t : TA} (F : FnOk X.prog X.w X.K X.mg X.base CX k f fd ps sp) (hr : Room k X.A) (hg : Gl X x) (hm : X.mg x = some (.ref f))
    (hk : PySem.W.keepIn X.K (.ref f) = true) (hb : Binds X.K fd ps []) (hx : ∀ σ, PassesAt CX X σ (E σ)) (ha : PA X (e :: es) t) (hdb : (x == ("__debug__" : Str)) = false := by decide)
    (he : starEach (e :: es) X.env = (false, eval e X.env) :: starEach es X.env := by rfl) (hpl : (backTo pos (starEach es X.env)).any (·.1) = false := by rfl) : PE X (.Call (.Name x p) (e :: es) [] pos) (tCallX sp E t) :=
  pe_callS F hr hg hm hk hb hx ha hdb he hpl
theorem i_callX {sp : Sp} {E : L2.St → XK} {t : TA} {σ : L2.St} {H : Hp} {Q : VK} (q : t σ H fun vs H1 => sp vs H1 Q (E σ)) : tCallX sp E t σ H Q := q
/-- try: tb / except c as n (slot i): ts -/
def tTryAs (K : PySem.W.Frag) (c : Value) (i : Nat) (tb : WX → TS) (ts : Addr → Value → Option Addr → TS) (Wout : WX) : TS := fun D σ H => tb (wAs K c i ts Wout D) D σ H
theorem ps_tryN {X : Cx} {x n : Str} {c : Value} {i : Nat} {body suite : List Stmt} {b₀ : Stmt} {np pos pos' : Pos} {tb : WX → TS} {ts : Addr → Value → Option Addr → TS} {Wout : WX} (hs : X.stack = X.env :: X.outer) (hf : X.env.frame = some X.env.locals) (hN : X.N.Nodup) (hi : X.N[i]? = some n) (hln : X.env.kindOf n = some .local)
    (hc : Names X x c) (tk : Takes X Wout) (hb : ∀ (W : WX) (pn : List (Addr × Obj)) (xe : Value → Shared → Prop), Takes (X.tr pn xe) W → PassesOwn (model X.prog X.w) X.A X.env xe → PSs (X.tr pn xe) body (tb W))
    (hsu : ∀ (a : Addr) (oe : Obj) (cls : Value) (d : Option Addr) (pn : List (Addr × Obj)), Zc cls d oe → (∃ vs, oe.data = .fields vs) → PSs (X.suite a ((a, oe) :: pn)) (b₀ :: suite) (ts a cls d)) :
    PS X (.Try body [.ExceptHandler (some (.Name x np)) (some n) (b₀ :: suite) pos'] [] [] pos) (tTryAs X.K c i tb ts Wout) := ps_try_as hs hf hN hi hln hc tk hb hsu
theorem i_tryN {K : PySem.W.Frag} {c : Value} {i : Nat} {tb : WX → TS} {ts : Addr → Value → Option Addr → TS} {Wout : WX} {D : Ends} {σ : L2.St} {H : Hp} (q : tb (wAs K c i ts Wout D) D σ H) : tTryAs K c i tb ts Wout D σ H := q
/-- the clause takes it -/
theorem i_took {K : PySem.W.Frag} {c cls : Value} {i : Nat} {ts : Addr → Value → Option Addr → TS} {Wout : WX} {D : Ends} {σ : L2.St} {H : Hp} {d : Option Addr} (e : PySem.W.exmOne K cls c = some true)
    (q : ∀ a, H a = none → ts a cls d { nx := fun σ' H' => D.nx (σ'.set i none) H', rt := D.rt, bk := fun σ' H' => D.bk (σ'.set i none) H', ct := fun σ' H' => D.ct (σ'.set i none) H' } (σ.set i (some (.ref a))) H) : WE (wAs K c i ts Wout D) σ cls d H :=
  ⟨true, e, fun _ => q, fun z => Bool.noConfusion z⟩
/-- e.n, e the exception that the suite holds -/
def tXn (K : PySem.W.Frag) (a : Addr) (cls : Value) (d : Option Addr) (n : Str) (te : TE) : TE := fun σ H Q => ∃ C : Addr, cls = .ref C ∧ XfC K C ∧ PySem.W.findIn K (.ref C) n = some none ∧ tXf a cls d C n te σ H Q
theorem pe_xfN {X : Cx} {a : Addr} {oe : Obj} {cls : Value} {d : Option Addr} {pn : List (Addr × Obj)} {e : Expr} {te : TE} {pos : Pos} {n : Str} (hz : Zc cls d oe) (hf : ∃ vs, oe.data = .fields vs) (he : PE (X.suite a ((a, oe) :: pn)) e te)
    (hb : attributeBase e n X.env (eval e X.env) = eval e X.env := by rfl) : PE (X.suite a ((a, oe) :: pn)) (.Attribute e n pos) (tXn X.K a cls d n te) :=
  ⟨fun pins s σ H Q I ⟨_, _, T, hno, q⟩ => (pe_xf T hno hz hf he hb).run pins s σ H Q I q⟩
theorem i_xfN {K : PySem.W.Frag} {a C dd : Addr} {n : Str} {te : TE} {σ : L2.St} {H : Hp} {Q : VK} (T : XfC K C) (hno : PySem.W.findIn K (.ref C) n = some none)
    (q : te σ H fun x H1 => x = .ref a ∧ ∃ (fs : List (Str × V)) (v : V), H1 dd = some (.xd fs) ∧ fs.lookup n = some v ∧ Q v H1) (mono : ∀ Q Q' : VK, (∀ v H, Q v H → Q' v H) → te σ H Q → te σ H Q') : tXn K a (.ref C) (some dd) n te σ H Q :=
  ⟨C, rfl, T, hno, mono _ _ (fun x H1 ⟨e, fs, v, h1, h2, h3⟩ => ⟨e, rfl, dd, fs, v, rfl, h1, h2, h3⟩) q⟩
/-- .. at a slot -/
theorem i_xfV {K : PySem.W.Frag} {a C dd : Addr} {n : Str} {i : Nat} {σ : L2.St} {H : Hp} {Q : VK} {fs : List (Str × V)} {v : V} (T : XfC K C) (hno : PySem.W.findIn K (.ref C) n = some none) (h : σ[i]? = some (some (.ref a))) (e : H dd = some (.xd fs)) (l : fs.lookup n = some v) (q : Q v H) :
    tXn K a (.ref C) (some dd) n (tVar i) σ H Q := ⟨C, rfl, T, hno, .ref a, h, rfl, rfl, dd, fs, v, rfl, e, l, q⟩
end KX

namespace KX
open PySem PySem.Spec PyProof.Rows L2
/-! ### further readings: texts, is, == of data -/
def rIsN : R2 := fun x y H Q => y = .non ∧ Q (.bl (decide (x = .non))) H
def rIsNotN : R2 := fun x y H Q => y = .non ∧ Q (.bl (!decide (x = .non))) H
theorem op_isNN {X : Cx} : OpR X (compareOp .Is) rIsN := op_isN
theorem op_notNN {X : Cx} : OpR X (compareOp .IsNot) rIsNotN := op_notN
def rSplit : V → List V → Hp → VK → Prop := fun x xs H Q => ∃ a b, x = .str a ∧ xs = [.str b] ∧ (b.length == 0) = false ∧ a.length + 2 ≤ sizeLine ∧ NewR H (.lst ((Txt.split a b).map V.str)) Q
theorem pe_splitN {X : Cx} {o e : Expr} {to te : TE} {apos pos : Pos} (ho : PE X o to) (he : PE X e te) (hs : starEach [e] X.env = [(false, eval e X.env)] := by rfl) (hbase : attributeBase o "split" X.env (eval o X.env) = eval o X.env := by rfl) (hline : (apos.endLine == pos.line) = true := by rfl) :
    PE X (.Call (.Attribute o "split" apos) [e] [] pos) (tM1 rSplit to te) := pe_split ho he hs hbase hline
def rFind : V → List V → Hp → VK → Prop := fun x xs H Q => ∃ a b, x = .str a ∧ xs = [.str b] ∧ Q (.int (Txt.find a b)) H
theorem pe_findN {X : Cx} {o e : Expr} {to te : TE} {apos pos : Pos} (ho : PE X o to) (he : PE X e te) (hs : starEach [e] X.env = [(false, eval e X.env)] := by rfl) (hbase : attributeBase o "find" X.env (eval o X.env) = eval o X.env := by rfl) (hline : (apos.endLine == pos.line) = true := by rfl) :
    PE X (.Call (.Attribute o "find" apos) [e] [] pos) (tM1 rFind to te) := pe_m1 PySem.F.slot_str_find PySem.F.type_str_find mt_find ho he hs hbase hline
def rStrI : List V → Hp → VK → Prop := fun xs H Q => ∃ i, xs = [.int i] ∧ i.natAbs.log2 < 1920 ∧ Q (.str (toString i)) H
theorem call_strI {X : Cx} : CallR X (.type "str") rStrI := call_str_int
def rIntS : List V → Hp → VK → Prop := fun xs H Q => ∃ a n, xs = [.str a] ∧ PySem.intText? a = some n ∧ a.length ≤ 640 ∧ Q (.int n) H
theorem call_intS {X : Cx} : CallR X (.type "int") rIntS := call_int_str
/-- f'..{x}..' -/
def tFmtN (te : TE) : TE := fun σ H Q => te σ H fun x H1 => ((∃ y : Str, x = .str y ∧ y.length ≤ sizeLine ∧ Q (.str y) H1) ∨ ∃ i : Int, x = .int i ∧ i.natAbs.log2 < 1920 ∧ Q (.str (toString i)) H1)
def FmR (x : V) (H : Hp) (Q : VK) : Prop := (∃ y : Str, x = .str y ∧ y.length ≤ sizeLine ∧ Q (.str y) H) ∨ ∃ i : Int, x = .int i ∧ i.natAbs.log2 < 1920 ∧ Q (.str (toString i)) H
def tJn (ts : List TE) : TE := fun σ H Q => tJs ts Str.empty σ H fun out H1 => Q (.str out) H1
theorem pe_joinedN {X : Cx} {v1 v2 : Expr} {rest : List Expr} {ts : List TE} {pos : Pos} (h : PJ X (v1 :: v2 :: rest) ts) : PE X (.JoinedStr (v1 :: v2 :: rest) pos) (tJn ts) := pe_joined h
def JsR (ts : List TE) (acc : Str) (σ : L2.St) (R : Str → Hp → Prop) (x : V) (H : Hp) : Prop := ∃ y : Str, x = .str y ∧ (acc ++ y).length ≤ sizeLine ∧ tJs ts (acc ++ y) σ H R
/-- text[::-1] -/
def tRevS (te : TE) : TE := fun σ H Q => te σ H fun x H1 => ∃ z : Str, x = .str z ∧ z.length ≤ sizeLine ∧ Q (.str ⟨z.cps.toList.reverse.toArray⟩) H1
def tRevLN (K : PySem.W.Frag) (te : TE) : TE := fun σ H Q => te σ H fun x H1 => ∃ a xs, x = .ref a ∧ SqL K H1 a xs ∧ NewR H1 (.lst xs.reverse) Q
theorem pe_revLN {X : Cx} {e : Expr} {te : TE} {k : Nat} {p1 p2 p3 pos : Pos} (he : PE X e te) : PE X (.Subscript e (.Slice none none (some (.UnaryOp .USub (.Constant (.int 1) k p1) p2)) p3) pos) (tRevLN X.K te) := pe_revL he
theorem shaped_lay {d : PyData} (h : SeqAt.shaped d = true) : d.canLay0 = true := by
  unfold SeqAt.shaped at h
  exact (Bool.and_eq_true_iff.mp h).1
section
variable {K : PySem.W.Frag} {σ : L2.St} {H : Hp} {Q : VK}
theorem i_isNon {x : V} (q : Q (.bl (decide (x = .non))) H) : rIsN x .non H Q := ⟨rfl, q⟩
theorem i_isNotNon {x : V} (q : Q (.bl (!decide (x = .non))) H) : rIsNotN x .non H Q := ⟨rfl, q⟩
theorem i_split {a b : Str} (h : (b.length == 0) = false) (z : a.length + 2 ≤ sizeLine) (q : NewR H (.lst ((Txt.split a b).map V.str)) Q) : rSplit (.str a) [.str b] H Q := ⟨a, b, rfl, rfl, h, z, q⟩
theorem i_find {a b : Str} (q : Q (.int (Txt.find a b)) H) : rFind (.str a) [.str b] H Q := ⟨a, b, rfl, rfl, q⟩
theorem i_strI {i : Int} (h : i.natAbs.log2 < 1920) (q : Q (.str (toString i)) H) : rStrI [.int i] H Q := ⟨i, rfl, h, q⟩
theorem i_intS {a : Str} {n : Int} (h : PySem.intText? a = some n) (z : a.length ≤ 640) (q : Q (.int n) H) : rIntS [.str a] H Q := ⟨a, n, rfl, h, z, q⟩
theorem i_fmt {te : TE} (q : te σ H fun x H1 => FmR x H1 Q) : tFmt te σ H Q := q
theorem i_fmS {y : Str} (h : y.length ≤ sizeLine) (q : Q (.str y) H) : FmR (.str y) H Q := .inl ⟨y, rfl, h, q⟩
theorem i_fmI {i : Int} (h : i.natAbs.log2 < 1920) (q : Q (.str (toString i)) H) : FmR (.int i) H Q := .inr ⟨i, rfl, h, q⟩
theorem i_jn {ts : List TE} (q : tJs ts Str.empty σ H fun out H1 => Q (.str out) H1) : tJn ts σ H Q := q
theorem i_js0 {acc : Str} {R : Str → Hp → Prop} (q : R acc H) : tJs [] acc σ H R := q
theorem i_js1 {t : TE} {ts : List TE} {acc : Str} {R : Str → Hp → Prop} (q : t σ H fun x H1 => JsR ts acc σ R x H1) : tJs (t :: ts) acc σ H R := q
theorem i_jsR {y : Str} {ts : List TE} {acc : Str} {R : Str → Hp → Prop} (z : (acc ++ y).length ≤ sizeLine) (q : tJs ts (acc ++ y) σ H R) : JsR ts acc σ R (.str y) H := ⟨y, rfl, z, q⟩
theorem i_revS {te : TE} (q : te σ H fun x H1 => ∃ z : Str, x = .str z ∧ z.length ≤ sizeLine ∧ Q (.str ⟨z.cps.toList.reverse.toArray⟩) H1) : tRevS te σ H Q := q
theorem i_exrev {z : Str} {R : Prop} (h : z.length ≤ sizeLine) (q : Q (.str ⟨z.cps.toList.reverse.toArray⟩) H) : ∃ z' : Str, V.str z = .str z' ∧ z'.length ≤ sizeLine ∧ Q (.str ⟨z'.cps.toList.reverse.toArray⟩) H := ⟨z, rfl, h, q⟩
theorem i_revL {te : TE} (q : te σ H fun x H1 => ∃ a xs, x = .ref a ∧ SqL K H1 a xs ∧ NewR H1 (.lst xs.reverse) Q) : tRevLN K te σ H Q := q
theorem i_exrevL {a : Addr} {xs : List V} (h : SqL K H a xs) (q : NewR H (.lst xs.reverse) Q) : ∃ a' xs', V.ref a = .ref a' ∧ SqL K H a' xs' ∧ NewR H (.lst xs'.reverse) Q := ⟨a, xs, rfl, h, q⟩
theorem i_par3 {i j l : Nat} {t : TA} {f g1 k : L2.St → Hp → Prop} (q : t σ H fun vs H1 => ∃ u v w, vs = [u, v, w] ∧ f (((σ.set i (some u)).set j (some v)).set l (some w)) H1) : tPar3 i j l t ⟨f, Q, g1, k⟩ σ H := q
theorem i_ex3 {R : V → V → V → Prop} {u v w : V} (q : R u v w) : ∃ u' v' w', [u, v, w] = [u', v', w'] ∧ R u' v' w' := ⟨u, v, w, rfl, q⟩
theorem i_neD {b c : Bool} {x y : V} {d e : PyData} (h : DaF b K H x d) (k : DaF c K H y e) (hd : d.hasDict = false) (he : e.hasDict = false) (sd : SeqAt.shaped d = true) (se : SeqAt.shaped e = true) (q : Q (.bl (!PyData.eqv d e)) H) : rNeD K x y H Q :=
  ⟨d, e, h.dp hd, k.dp he, sd, se, q⟩
/-- the same data -/
theorem i_neDsame {b c : Bool} {x y : V} {d : PyData} (h : DaF b K H x d) (k : DaF c K H y d) (hd : d.hasDict = false) (sd : SeqAt.shaped d = true) (q : Q (.bl false) H) : rNeD K x y H Q :=
  i_neD h k hd hd sd sd (by rw [SeqAt.eqv_refl _ (shaped_lay sd)]; exact q)
end
theorem rev_signs (z : Str) : (Builtin.Str.strSliceIndices none none (-1) z.length).filterMap (z.cps[·]?) = z.cps.toList.reverse := by
  have e : Builtin.Str.strSliceIndices none none (-1) z.length = sliceRange ((z.length : Int) - 1) (-1) (-1) := rfl
  rw [e, PySem.W.krv_sliceRange, PySem.W.krv_range, List.filterMap_reverse]
  exact congrArg List.reverse (PySem.W.krv_all z.cps)
theorem pe_revS {X : Cx} {e : Expr} {te : TE} {k : Nat} {p1 p2 p3 pos : Pos} (he : PE X e te) : PE X (.Subscript e (.Slice none none (some (.UnaryOp .USub (.Constant (.int 1) k p1) p2)) p3) pos) (tRevS te) := by
  refine ⟨fun pins s σ H Q I h => ?_⟩
  refine Subscript_ (thn (he.run pins s σ H _ I h) fun v s1 ⟨x, H1, I1, r1, z, ex, hz, q⟩ => ?_)
  subst ex
  obtain ⟨t, rfl⟩ := r1
  have step : PO X (some (.UnaryOp .USub (.Constant (.int 1) k p1) p2)) (tPart (tUn (rU fun i => .int (-i)) (tC (.int 1)))) := po_some (pe_un un_neg pe_int)
  refine wpAny_Slice (thn (po_none.run pins s1 σ H1 (fun o G => o = none ∧ G = H1) I1 ⟨rfl, rfl⟩) fun vl s2 ⟨l, G2, J2, pl, el, e2⟩ => ?_)
  subst el e2
  refine thn (po_none.run pins s2 σ G2 (fun o G => o = none ∧ G = G2) J2 ⟨rfl, rfl⟩) fun vu s3 ⟨u, G3, J3, pu, eu, e3⟩ => ?_
  subst eu e3
  refine thn (step.run pins s3 σ G3 (fun o G => o = some (-1) ∧ G = G3) J3 ⟨1, rfl, -1, rfl, rfl, rfl⟩) fun vs s4 ⟨o, G4, J4, ps, eo, e4⟩ => ?_
  subst eo e4
  have J5 : Inv X pins σ G4 { s4 with heap := s4.heap.push { cls := .type "slice", data := .fields #[vl, vu, vs] } } := J4.kept (t' := s4.toks) fun b ob q => Heap.get?_push_of_some _ q
  obtain ⟨l', rfl, e1⟩ := IsPart.raw pl
  obtain ⟨u', rfl, e2⟩ := IsPart.raw pu
  obtain ⟨c', rfl, e3⟩ := IsPart.raw ps
  cases l' with
  | some _ => cases e1
  | none => cases u' with
    | some _ => cases e2
    | none => cases c' with
      | none => cases e3
      | some c =>
        obtain ⟨c, tc⟩ := c
        cases e3
        show wpAny (model X.prog X.w) X.A (subscriptTail e (.Slice none none (some (.UnaryOp .USub (.Constant (.int 1) k p1) p2)) p3) (.str z t) (.ref s4.heap.objs.size)) (EP X pins σ Q) X.xe { s4 with heap := s4.heap.push { cls := .type "slice", data := .fields #[partValue none, partValue none, partValue (some (-1, tc))] } }
        refine tail_any (ops := [.ref s4.heap.objs.size, .str z t]) (PySem.typeIs_str _ _ _) (PySem.F.slot_str_getitem.lookup) ?_ (by with_unfolding_all rfl)
        refine wpAny_getItem_str_slice (l := none) (u := none) (st := some (-1, tc)) ⟨_, Heap.get?_push_size _ rfl, rfl, rfl⟩ rfl ?_
        show Made.post (if ((-1 : Int) == 1 && _) = true then Made.val (.str z t) else Made.str ⟨((Builtin.Str.strSliceIndices none none (-1) z.length).filterMap (z.cps[·]?)).toArray⟩) _ _
        rw [if_neg (by rw [show ((-1 : Int) == 1) = false from rfl, Bool.false_and]; exact Bool.false_ne_true), rev_signs]
        refine ⟨?_, .str _, G4, J5.tok _, ⟨_, rfl⟩, q⟩
        show (z.cps.toList.reverse.toArray).size ≤ sizeLine
        rw [List.size_toArray, List.length_reverse]; exact hz
end KX

namespace KX
open PySem PySem.Spec PyProof.Rows L2
/-! ### versions and windows as data -/
def verD : PyData → Bool
  | .int i => decide (0 ≤ i)
  | _ => false
def winP : PyData → Option (Int × Option Int)
  | .tuple [.int l, .none] => if 0 ≤ l then some (l, none) else none
  | .tuple [.int l, .int h] => if 0 ≤ l ∧ 0 ≤ h ∧ l ≤ h then some (l, some h) else none
  | _ => none
def winB (d : PyData) : Bool := (winP d).isSome
def isN : PyData → Bool
  | .none => true
  | _ => false
def leD : PyData → PyData → Bool
  | .int i, .int k => decide (i ≤ k)
  | _, _ => false
theorem winB_two (a b : PyData) : winB (.tuple [a, b]) = (verD a && (isN b || (verD b && leD a b))) := by
  unfold winB winP verD isN leD
  cases a <;> cases b <;> simp
  all_goals (split <;> simp_all <;> omega)
theorem winB_len {ds : List PyData} (h : ds.length ≠ 2) : winB (.tuple ds) = false := by
  match ds, h with
  | [], _ => rfl
  | [_], _ => cases ‹PyData› <;> rfl
  | [_, _], h => exact absurd rfl h
  | a :: b :: c :: r, _ =>
    unfold winB
    cases a <;> cases b <;> rfl
theorem da_non {b : Bool} {K : PySem.W.Frag} {H : Hp} {v : V} {d : PyData} (h : DaF b K H v d) : decide (v = .non) = isN d := by cases h <;> rfl
theorem verD_int {b : Bool} {K : PySem.W.Frag} {H : Hp} {v : V} {d : PyData} (h : DaF b K H v d) (k : verD d = true) : ∃ i, v = .int i ∧ d = .int i ∧ 0 ≤ i := by
  cases h <;> first | cases k | exact ⟨_, rfl, rfl, of_decide_eq_true k⟩
theorem da_two {b : Bool} {K : PySem.W.Frag} {H : Hp} {xs : List V} {ds : List PyData} (h : DaAllF b K H xs ds) (l : ds.length = 2) : ∃ x1 x2 d1 d2, xs = [x1, x2] ∧ ds = [d1, d2] ∧ DaF b K H x1 d1 ∧ DaF b K H x2 d2 := by
  cases h with
  | nil => cases l
  | cons h1 h => cases h with
    | nil => cases l
    | cons h2 h => cases h with
      | nil => exact ⟨_, _, _, _, rfl, rfl, h1, h2⟩
      | cons _ _ => simp at l
/-- a window as data -/
def hiD : Option Int → PyData
  | none => .none
  | some h => .int h
def hiV : Option Int → V
  | none => .non
  | some h => .int h
def winD (w : Int × Option Int) : PyData := .tuple [.int w.1, hiD w.2]
def okW (w : Int × Option Int) : Prop := 0 ≤ w.1 ∧ ∀ h, w.2 = some h → w.1 ≤ h
theorem winP_D {w : Int × Option Int} (h : okW w) : winP (winD w) = some w := by
  obtain ⟨l, hi⟩ := w
  obtain ⟨h1, h2⟩ := h
  cases hi with
  | none => show (if 0 ≤ l then _ else _) = _; rw [if_pos h1]
  | some k =>
    have := h2 k rfl
    show (if 0 ≤ l ∧ 0 ≤ k ∧ l ≤ k then _ else _) = _
    rw [if_pos ⟨h1, by omega, this⟩]
theorem winP_some {d : PyData} {w : Int × Option Int} (h : winP d = some w) : d = winD w ∧ okW w := by
  unfold winP at h
  split at h
  · split at h
    · cases h; exact ⟨rfl, by assumption, fun k e => nomatch e⟩
    · cases h
  · split at h
    · next c => cases h; exact ⟨rfl, c.1, fun k e => by cases e; exact c.2.2⟩
    · cases h
  · cases h
theorem da_hi {b : Bool} {K : PySem.W.Frag} {H : Hp} : ∀ {o : Option Int} {v : V}, DaF b K H v (hiD o) → v = hiV o
  | none, _, h => by cases h; rfl
  | some _, _, h => by cases h; rfl
/-- a window among the values -/
theorem da_win {b : Bool} {K : PySem.W.Frag} {H : Hp} {w : Int × Option Int} {v : V} (h : DaF b K H v (winD w)) : ∃ a, v = .ref a ∧ SqT K H a [.int w.1, hiV w.2] := by
  cases h with
  | tup hq ha =>
    cases ha with
    | cons h1 r => cases r with
      | cons h2 r =>
        cases r
        cases h1
        have e := da_hi h2
        subst e
        exact ⟨_, rfl, hq⟩
theorem da_hiV {K : PySem.W.Frag} {H : Hp} : ∀ o : Option Int, DaS K H (hiV o) (hiD o)
  | none => DaF.non
  | some h => DaF.int h
theorem da_winT {K : PySem.W.Frag} {H : Hp} {a : Addr} {w : Int × Option Int} (h : SqT K H a [.int w.1, hiV w.2]) : DaS K H (.ref a) (winD w) := DaF.tup h (.cons (DaF.int _) (.cons (da_hiV _) .nil))
def sp_dat (K : PySem.W.Frag) (f : PyData → Bool) : Sp := fun vs H Q _ => ∃ v d, vs = [v] ∧ Da K H v d ∧ ∀ H', Same H H' → Q (.bl (f d)) H'
def sp_req (K : PySem.W.Frag) (f : PyData → Bool) (C : Addr) (n : Str) : Sp := fun vs H Q E => ∃ v d, vs = [v] ∧ Da K H v d ∧ (f d = true → ∀ H', Same H H' → Q .non H') ∧
  (f d = false → ∀ c H', H c = none → Same H H' → H' c = some (.xd [(n, v)]) → E (.ref C) (some c) H')
/-! ### numbers in texts -/
def dg : List Nat := (Str.ofString "0123456789").cps.toList
theorem dg_iff (c : Nat) : c ∈ dg ↔ 48 ≤ c ∧ c ≤ 57 := by
  have e : dg = [48, 49, 50, 51, 52, 53, 54, 55, 56, 57] := by decide +kernel
  rw [e]
  simp only [List.mem_cons, List.not_mem_nil, or_false]
  omega
def digs (x : Str) : Bool := x.cps.toList.all fun c => decide (c ∈ dg)
theorem digs_iff {x : Str} : digs x = true ↔ PySem.NumText.AllDigits x.cps.toList := by
  unfold digs
  rw [List.all_eq_true]
  exact ⟨fun h c hc => (dg_iff c).mp (of_decide_eq_true (h c hc)), fun h c hc => decide_eq_true ((dg_iff c).mpr (h c hc))⟩
def valS (x : Str) : Int := ((PySem.NumText.digitsVal x.cps.toList : Nat) : Int)
/-- decimal without leading zeros -/
def canS (x : Str) : Bool := !(decide (x.cps.toList.head? = some 48) && !decide (x = Str.ofString "0"))
/-- the program's reading: at most sixty digits -/
def pnum (x : Str) : Option Int := if (decide (1 ≤ x.length) && decide (x.length ≤ 60) && digs x) = true then (if canS x = true then some (valS x) else none) else none
theorem intS {x : Str} (h : digs x = true) (h1 : 1 ≤ x.length) (h2 : x.length ≤ 4300) : PySem.intText? x = some (valS x) :=
  PySem.intText_digits (digs_iff.mp h) (fun e => by
    have : x.length = x.cps.toList.length := rfl
    rw [this, e] at h1; simp at h1) h2
def oV : Option Int → V
  | none => .non
  | some i => .int i
theorem str1_eq (c : Nat) : decide (V.str ⟨#[c]⟩ = V.str (Str.ofString "0")) = decide (some c = some 48) := by
  have e : Str.ofString "0" = ⟨#[48]⟩ := by decide +kernel
  rw [e]
  by_cases h : c = 48
  · subst h; rfl
  · rw [decide_eq_false (by simpa using h), decide_eq_false (by simpa using h)]
theorem strV_eq (x y : Str) : decide (V.str x = V.str y) = decide (x = y) := by
  by_cases h : x = y
  · subst h; rw [decide_eq_true rfl, decide_eq_true rfl]
  · rw [decide_eq_false (by simpa using h), decide_eq_false h]
theorem valS_nonneg (x : Str) : 0 ≤ valS x := Int.natCast_nonneg _
/-- the program's reading of a window's text -/
def winAB (b : Str) : Option Int → Option Int → Option (Int × Option Int)
  | some l, some h => if l ≤ h then some (l, some h) else none
  | some l, none => if b = Str.ofString "" then some (l, none) else none
  | none, _ => none
def winS (x : Str) : Option (Int × Option Int) := match Txt.split x (Str.ofString "..") with
  | [a, b] => winAB b (pnum a) (pnum b)
  | _ => none
theorem winS_two {x a b : Str} (h : Txt.split x (Str.ofString "..") = [a, b]) : winS x = winAB b (pnum a) (pnum b) := by unfold winS; rw [h]
theorem winS_not {x : Str} (h : (Txt.split x (Str.ofString "..")).length ≠ 2) : winS x = none := by
  unfold winS
  split
  · next a b e => rw [e] at h; exact absurd rfl h
  · rfl
theorem pnum_nonneg {x : Str} {i : Int} (h : pnum x = some i) : 0 ≤ i := by
  unfold pnum at h
  split at h
  · split at h
    · cases h; exact valS_nonneg x
    · cases h
  · cases h
theorem da_oV {b : Bool} {K : PySem.W.Frag} {H : Hp} : ∀ o : Option Int, DaF b K H (oV o) (hiD o)
  | none => DaF.non
  | some _ => DaF.int _
theorem winS_ok {x : Str} {w : Int × Option Int} (h : winS x = some w) : okW w := by
  unfold winS at h
  split at h
  · next a b _ =>
    cases hl : pnum a with
    | none => rw [hl] at h; cases h
    | some l =>
      cases hk : pnum b with
      | none =>
        rw [hl, hk] at h
        unfold winAB at h
        dsimp only at h
        split at h
        · cases h; exact ⟨pnum_nonneg hl, fun k e => nomatch e⟩
        · cases h
      | some k =>
        rw [hl, hk] at h
        unfold winAB at h
        dsimp only at h
        split at h
        · cases h; exact ⟨pnum_nonneg hl, fun k e => by cases e; assumption⟩
        · cases h
  · cases h
/-- what is written of a window -/
def fmtS (w : Int × Option Int) : Str := match w.2 with
  | none => Str.empty ++ (toString w.1 : String) ++ ".."
  | some h => Str.empty ++ (toString w.1 : String) ++ ".." ++ (toString h : String)
def shortW (w : Int × Option Int) : Prop := w.1.natAbs < 2 ^ 200 ∧ ∀ h, w.2 = some h → h.natAbs < 2 ^ 200
theorem txt_le {i : Int} (h : i.natAbs < 2 ^ 200) : (Str.ofString (toString i)).length ≤ 1921 := int_text_len_1921 (log2_lt_1920 (k := 200) h (by decide) (by decide))
theorem log_of {i : Int} (h : i.natAbs < 2 ^ 200) : i.natAbs.log2 < 1920 := log2_lt_1920 (k := 200) h (by decide) (by decide)
end KX

namespace KX
open PySem PySem.Spec PyProof.Rows L2
/-! ### texts cut at two dots -/
abbrev DD : List Nat := [46, 46]
theorem tl_dd : TL.tl (Str.ofString "..") = DD := by decide +kernel
theorem spl_mem {S : List Nat} : ∀ {L : List Nat} {k : Nat} {acc p : List Nat}, p ∈ TL.spl S k acc L → p.length ≤ acc.length + L.length ∧ ∀ c ∈ p, c ∈ acc ∨ c ∈ L
  | [], k, acc, p, h => by
    rw [TL.spl_nil] at h
    rw [List.mem_singleton.mp h]
    exact ⟨by simp, fun c hc => .inl hc⟩
  | c :: r, k + 1, acc, p, h => by
    have ih := spl_mem (L := r) (k := k) (acc := acc) (p := p) h
    exact ⟨by have := ih.1; simp; omega, fun d hd => (ih.2 d hd).imp id (List.mem_cons_of_mem _)⟩
  | c :: r, 0, acc, p, h => by
    by_cases hp : TL.pre S (c :: r) = true
    · rw [TL.spl_hit hp] at h
      rcases List.mem_cons.mp h with e | h
      · rw [e]; exact ⟨by omega, fun d hd => .inl hd⟩
      · have ih := spl_mem h
        exact ⟨by have := ih.1; simp at this ⊢; omega, fun d hd => .inr ((ih.2 d hd).elim (fun z => by simp at z) (List.mem_cons_of_mem _))⟩
    · have hp' : TL.pre S (c :: r) = false := by simpa using hp
      rw [TL.spl_miss hp'] at h
      have ih := spl_mem h
      refine ⟨by have := ih.1; simp at this ⊢; omega, fun d hd => ?_⟩
      rcases ih.2 d hd with z | z
      · rcases List.mem_append.mp z with z | z
        · exact .inl z
        · exact .inr (by rw [List.mem_singleton.mp z]; exact List.mem_cons_self)
      · exact .inr (List.mem_cons_of_mem _ z)
theorem tl_split (x : Str) : (Txt.split x (Str.ofString "..")).map TL.tl = TL.spl DD 0 [] (TL.tl x) := by
  have h := TL.split_spl x (Str.ofString "..") (by rw [tl_dd]; simp) (TL.kind_ok (by decide +kernel))
  rw [tl_dd] at h
  exact h
theorem splits_ok {x : Str} {n : Nat} (h : okS x n) : ∀ z ∈ Txt.split x (Str.ofString ".."), okS z n := fun z hz => by
  have hm : TL.tl z ∈ TL.spl DD 0 [] (TL.tl x) := by rw [← tl_split]; exact List.mem_map_of_mem hz
  have k := spl_mem hm
  refine ⟨?_, fun c hc => ?_⟩
  · have e1 : z.length = (TL.tl z).length := rfl
    have e2 : x.length = (TL.tl x).length := rfl
    have := k.1; have := h.1
    simp at *; omega
  · rcases k.2 c hc with z | z
    · simp at z
    · exact h.2 c z
/-- the first cut -/
theorem par_spl {L acc : List Nat} : (∃ a r, TL.par DD acc L = some (acc ++ a, r) ∧ L = a ++ DD ++ r ∧ TL.spl DD 0 acc L = (acc ++ a) :: TL.spl DD 0 [] r ∧ ∀ i, i < a.length → TL.pre DD (L.drop i) = false) ∨
    (TL.par DD acc L = none ∧ TL.spl DD 0 acc L = [acc ++ L] ∧ ∀ i, TL.pre DD (L.drop i) = false) := by
  induction L generalizing acc with
  | nil => exact .inr ⟨rfl, by rw [TL.spl_nil, List.append_nil], fun i => by rw [List.drop_nil]; rfl⟩
  | cons c r ih =>
    by_cases hp : TL.pre DD (c :: r) = true
    · refine .inl ⟨[], (c :: r).drop 2, ?_, ?_, ?_, fun i hi => absurd hi (Nat.not_lt_zero _)⟩
      · rw [TL.par_hit hp, List.append_nil]; rfl
      · have e : (c :: r).take 2 = DD := eq_of_beq hp
        rw [List.nil_append, ← e, List.take_append_drop]
      · rw [TL.spl_hit hp, TL.spl_pass, List.append_nil]; rfl
    · have hp' : TL.pre DD (c :: r) = false := by simpa using hp
      rcases ih (acc := acc ++ [c]) with ⟨a, b, h1, h2, h3, h4⟩ | ⟨h1, h2, h3⟩
      · refine .inl ⟨c :: a, b, ?_, ?_, ?_, fun i hi => ?_⟩
        · rw [TL.par_miss hp', h1]; simp
        · rw [h2]; simp
        · rw [TL.spl_miss hp', h3]; simp
        · cases i with
          | zero => exact hp'
          | succ i => exact h4 i (by simpa using hi)
      · refine .inr ⟨?_, ?_, fun i => ?_⟩
        · rw [TL.par_miss hp', h1]
        · rw [TL.spl_miss hp', h2]; simp
        · cases i with
          | zero => exact hp'
          | succ i => exact h3 i
/-- find -/
theorem find_dd (x : Str) : (∃ a r, TL.par DD [] (TL.tl x) = some (a, r) ∧ TL.tl x = a ++ DD ++ r ∧ Txt.find x (Str.ofString "..") = (a.length : Int)) ∨
    (TL.par DD [] (TL.tl x) = none ∧ Txt.find x (Str.ofString "..") = -1) := by
  have hy : TL.tl (Str.ofString "..") ≠ [] := by rw [tl_dd]; simp
  have at_ := fun i => TL.at_iff (x := x) hy i
  rw [tl_dd] at at_
  have hd := PySem.StrLaws.occ_head x (Str.ofString "..") 1 (Nat.le_refl _)
  rcases par_spl (L := TL.tl x) (acc := []) with ⟨a, r, h1, h2, _, h4⟩ | ⟨h1, _, h3⟩
  · have here : TL.pre DD ((TL.tl x).drop a.length) = true := by
      have e : (TL.tl x).drop a.length = DD ++ r := by rw [h2, List.append_assoc]; exact List.drop_left
      rw [e]; exact TL.pre_self _ _
    refine .inl ⟨a, r, h1, h2, ?_⟩
    rcases hd with ⟨_, hn⟩ | ⟨i, s, e, hi, hk⟩
    · exact absurd ((at_ _).mpr here) (hn _)
    · have ei : i = a.length := by
        rcases Nat.lt_trichotomy i a.length with z | z | z
        · have := (at_ _).mp hi
          rw [h4 i z] at this
          cases this
        · exact z
        · exact absurd ((at_ _).mpr here) (hk _ z)
      unfold Txt.find
      rw [e, ei]
  · refine .inr ⟨h1, ?_⟩
    rcases hd with ⟨e, _⟩ | ⟨i, s, e, hi, hk⟩
    · unfold Txt.find; rw [e]
    · have := (at_ _).mp hi
      rw [h3 i] at this
      cases this
/-! ### the law's reading -/
def dgN (c : Nat) : Prop := 48 ≤ c ∧ c ≤ 57
instance (c : Nat) : Decidable (dgN c) := inferInstanceAs (Decidable (_ ∧ _))
abbrev dgs (l : List Nat) : Prop := PySem.NumText.AllDigits l
/-- decimal, without leading zeros -/
def canL (w : List Nat) : Prop := w ≠ [] ∧ dgs w ∧ (w.head? = some 48 → w = [48])
instance (w : List Nat) : Decidable (dgs w) := inferInstanceAs (Decidable (∀ c ∈ w, 48 ≤ c ∧ c ≤ 57))
instance (w : List Nat) : Decidable (canL w) := inferInstanceAs (Decidable (_ ∧ _ ∧ _))
def lnum (w : List Nat) : Option Int := if canL w then some ((PySem.NumText.digitsVal w : Nat) : Int) else none
def lAB (r : List Nat) (l : Option Int) : Option (Int × Option Int) := match l with
  | none => none
  | some l => if r = [] then some (l, none) else match lnum r with
    | none => none
    | some h => if h < l then none else some (l, some h)
def lread (x : Str) : Option (Int × Option Int) := match TL.par DD [] (TL.tl x) with
  | none => none
  | some (a, r) => lAB r (lnum a)
theorem pnum_l (x : Str) : pnum x = if x.length ≤ 60 then lnum (TL.tl x) else none := by
  have e1 : x.length = (TL.tl x).length := rfl
  have e2 : x = Str.ofString "0" ↔ TL.tl x = [48] := by
    have e : TL.tl (Str.ofString "0") = [48] := by decide +kernel
    rw [← e]
    exact ⟨fun z => by rw [z], fun z => TL.ext_tl z⟩
  have ec : canS x = true ↔ (x.cps.toList.head? = some 48 → TL.tl x = [48]) := by
    unfold canS
    simp only [Bool.not_eq_true', Bool.and_eq_false_iff, decide_eq_false_iff_not, Bool.not_eq_false', decide_eq_true_eq]
    rw [← e2]
    exact ⟨fun h k => h.elim (fun z => absurd k z) id, fun h => by
      by_cases k : x.cps.toList.head? = some 48
      · exact .inr (h k)
      · exact .inl k⟩
  have el : 1 ≤ x.length ↔ TL.tl x ≠ [] := by
    rw [e1]
    exact ⟨fun h z => by rw [z] at h; simp at h, fun h => List.length_pos_iff.mpr h⟩
  unfold pnum lnum
  by_cases h1 : x.length ≤ 60
  · rw [if_pos h1]
    by_cases h2 : TL.tl x ≠ [] ∧ dgs (TL.tl x)
    · have hd : digs x = true := digs_iff.mpr h2.2
      rw [if_pos (by simp [hd, h1, el.mpr h2.1])]
      by_cases h3 : canS x = true
      · rw [if_pos h3, if_pos ⟨h2.1, h2.2, ec.mp h3⟩]; rfl
      · rw [if_neg h3, if_neg (fun z => h3 (ec.mpr z.2.2))]
    · rw [if_neg ?_, if_neg (fun z => h2 ⟨z.1, z.2.1⟩)]
      intro z
      simp only [Bool.and_eq_true, decide_eq_true_eq] at z
      exact h2 ⟨el.mp z.1.1, digs_iff.mp z.2⟩
  · rw [if_neg h1, if_neg (by simp [h1])]
/-- where a text is short enough beside its dots, the two readings are one -/
def goodL (L : List Nat) : Prop := ∀ a r, L = a ++ DD ++ r → (dgs a → a.length ≤ 60) ∧ (dgs r → r.length ≤ 60)
theorem lnum_short {w : List Nat} (h : dgs w → w.length ≤ 60) : (if w.length ≤ 60 then lnum w else none) = lnum w := by
  by_cases k : w.length ≤ 60
  · rw [if_pos k]
  · rw [if_neg k]
    unfold lnum
    rw [if_neg fun z => k (h z.2.1)]
theorem read_eq {x : Str} (g : goodL (TL.tl x)) : winS x = lread x := by
  have hs := tl_split x
  rcases par_spl (L := TL.tl x) (acc := []) with ⟨a, r, h1, h2, h3, _⟩ | ⟨h1, h2, _⟩
  · have hr : lread x = lAB r (lnum a) := by unfold lread; rw [h1]; rfl
    obtain ⟨ga, gr⟩ := g a r h2
    rw [h3, List.nil_append] at hs
    rcases par_spl (L := r) (acc := []) with ⟨b, s, k1, k2, k3, _⟩ | ⟨k1, k2, _⟩
    · -- a further cut: neither reads it
      have e1 : winS x = none := winS_not fun z => by
        have l := congrArg List.length hs
        rw [List.length_map, z, k3] at l
        obtain ⟨p, q, e⟩ : ∃ p q, TL.spl DD 0 [] s = p :: q := by
          rcases par_spl (L := s) (acc := []) with ⟨_, _, _, _, z3, _⟩ | ⟨_, z2, _⟩
          · exact ⟨_, _, z3⟩
          · exact ⟨_, _, z2⟩
        rw [e] at l
        simp at l
      have nr : r ≠ [] := fun z => by rw [z] at k2; simp at k2
      have ln : lnum r = none := if_neg fun z => by
        have := z.2.1 46 (by rw [k2]; simp)
        omega
      rw [e1, hr]
      unfold lAB
      cases lnum a with
      | none => rfl
      | some l => dsimp only; rw [if_neg nr, ln]
    · rw [k2, List.nil_append] at hs
      obtain ⟨ys, hys⟩ : ∃ ys, Txt.split x (Str.ofString "..") = ys := ⟨_, rfl⟩
      rw [hys] at hs
      match ys, hs with
      | [y, z], hs =>
        have ey : TL.tl y = a := by injection hs
        have ez : TL.tl z = r := by injection hs with _ q; injection q
        rw [winS_two hys, hr, pnum_l, pnum_l, ey, ez]
        have l1 : y.length = a.length := by rw [← ey]; rfl
        have l2 : z.length = r.length := by rw [← ez]; rfl
        rw [l1, l2, lnum_short ga, lnum_short gr]
        have e0 : z = Str.ofString "" ↔ r = [] := by
          have e : TL.tl (Str.ofString "") = [] := by decide +kernel
          rw [← ez, ← e]
          exact ⟨fun q => by rw [q], fun q => TL.ext_tl q⟩
        unfold winAB lAB
        cases lnum a with
        | none => rfl
        | some l =>
          dsimp only
          by_cases nr : r = []
          · have ln : lnum r = none := by rw [nr]; exact if_neg fun z => z.1 rfl
            rw [ln, if_pos nr]
            dsimp only
            rw [if_pos (e0.mpr nr)]
          · rw [if_neg nr]
            cases lnum r with
            | none => dsimp only; rw [if_neg fun q => nr (e0.mp q)]
            | some k =>
              dsimp only
              by_cases c : l ≤ k
              · rw [if_pos c, if_neg (by omega)]
              · rw [if_neg c, if_pos (by omega)]
  · have e1 : winS x = none := winS_not fun z => by
      have l := congrArg List.length hs
      rw [List.length_map, z, h2] at l
      simp at l
    rw [e1]
    unfold lread
    rw [h1]
end KX

namespace KX
open PySem PySem.Spec PyProof.Rows L2
/-! ### numbers written -/
theorem val_snoc (a : List Nat) (c : Nat) : PySem.NumText.digitsVal (a ++ [c]) = PySem.NumText.digitsVal a * 10 + (c - 48) := by
  unfold PySem.NumText.digitsVal
  rw [List.foldl_append]; rfl
theorem val_pos : ∀ n (a : List Nat), a.length = n → a ≠ [] → dgs a → a.head? ≠ some 48 → 1 ≤ PySem.NumText.digitsVal a := by
  intro n
  induction n with
  | zero => intro a h n; exact absurd (List.length_eq_zero_iff.mp h) n
  | succ n ih =>
    intro a h hn hd hh
    obtain ⟨b, c, rfl⟩ : ∃ b c, a = b ++ [c] := ⟨a.dropLast, a.getLast hn, (List.dropLast_concat_getLast hn).symm⟩
    rw [val_snoc]
    cases b with
    | nil =>
      have hc := hd c (by simp)
      have : c ≠ 48 := fun z => hh (by rw [z]; rfl)
      omega
    | cons d b =>
      have := ih (d :: b) (by simp at h ⊢; omega) (by simp) (fun c hc => hd c (List.mem_append_left _ hc)) (by simpa using hh)
      omega
/-- a number without leading zeros is written as it stands -/
theorem num_back : ∀ n (a : List Nat), a.length = n → canL a → TL.numL (PySem.NumText.digitsVal a) = a := by
  intro n
  induction n with
  | zero => intro a h k; exact absurd (List.length_eq_zero_iff.mp h) k.1
  | succ n ih =>
    intro a h k
    obtain ⟨hn, hd, hz⟩ := k
    obtain ⟨b, c, rfl⟩ : ∃ b c, a = b ++ [c] := ⟨a.dropLast, a.getLast hn, (List.dropLast_concat_getLast hn).symm⟩
    have hc := hd c (by simp)
    cases b with
    | nil =>
      rw [val_snoc]
      show TL.numL (0 * 10 + (c - 48)) = [c]
      rw [TL.numL_lt (by omega)]
      congr 1; omega
    | cons d b =>
      have nh : (d :: b).head? ≠ some 48 := fun z => by
        have := hz (by simpa using z)
        simp at this
      have hb : dgs (d :: b) := fun c hc => hd c (List.mem_append_left _ hc)
      have p := val_pos _ (d :: b) rfl (by simp) hb nh
      have ih' := ih (d :: b) (by simp at h ⊢; omega) ⟨by simp, hb, fun z => absurd z nh⟩
      rw [val_snoc, TL.numL_step (by omega)]
      have e1 : (PySem.NumText.digitsVal (d :: b) * 10 + (c - 48)) / 10 = PySem.NumText.digitsVal (d :: b) := by omega
      have e2 : 48 + (PySem.NumText.digitsVal (d :: b) * 10 + (c - 48)) % 10 = c := by omega
      rw [e1, e2, ih']
theorem canL_num (n : Nat) : canL (TL.numL n) := by
  refine ⟨TL.numL_ne n, TL.numL_digits n, fun h => ?_⟩
  induction n using Nat.strongRecOn with
  | _ n ih =>
    by_cases k : n < 10
    · rw [TL.numL_lt k] at h ⊢
      simpa using h
    · rw [TL.numL_step (by omega)] at h
      have nn := TL.numL_ne (n / 10)
      have hh : (TL.numL (n / 10)).head? = some 48 := by
        cases e : TL.numL (n / 10) with
        | nil => exact absurd e nn
        | cons a b => rw [e] at h; simpa using h
      have := ih (n / 10) (by omega) hh
      have e0 : n / 10 = 0 := by
        have v := TL.numL_val (n / 10)
        rw [this] at v
        exact v.symm
      omega
theorem lnum_num (n : Nat) : lnum (TL.numL n) = some (n : Int) := by
  unfold lnum
  rw [if_pos (canL_num n), TL.numL_val]
/-! ### a window's text -/
def tailL : Option Int → List Nat
  | none => []
  | some h => TL.numL h.toNat
def fmtL (w : Int × Option Int) : List Nat := TL.numL w.1.toNat ++ DD ++ tailL w.2
theorem tl_int {i : Int} (h : 0 ≤ i) : TL.tl (Str.ofString (toString i)) = TL.numL i.toNat := by
  have e : i = ((i.toNat : Nat) : Int) := by omega
  have := TL.tl_num i.toNat
  rw [← e] at this
  exact this
theorem tl_app (x y : Str) : TL.tl (x ++ y) = TL.tl x ++ TL.tl y := TL.tl_append x y
theorem par_fmt {w : Int × Option Int} : TL.par DD [] (fmtL w) = some (TL.numL w.1.toNat, tailL w.2) := by
  have h := TL.par_part1 (s := 46) (S := [46]) (p := TL.numL w.1.toNat) (rest := tailL w.2) (acc := []) (TL.numL_free (by omega))
  rw [List.nil_append] at h
  rw [← h]
  unfold fmtL
  rw [List.append_assoc]
theorem lnum_tail {h : Int} (h0 : 0 ≤ h) : lnum (TL.numL h.toNat) = some h := by
  rw [lnum_num]
  congr 1; omega
theorem read_fmt {w : Int × Option Int} {x : Str} (ok : okW w) (e : TL.tl x = fmtL w) : lread x = some w := by
  unfold lread
  rw [e, par_fmt]
  obtain ⟨l, hi⟩ := w
  obtain ⟨h1, h2⟩ := ok
  dsimp only
  rw [lnum_tail h1]
  cases hi with
  | none => rfl
  | some k =>
    have hk := h2 k rfl
    unfold lAB tailL
    dsimp only at *
    rw [if_neg (TL.numL_ne _), lnum_tail (by omega)]
    dsimp only
    rw [if_neg (by omega)]
theorem lnum_some {a : List Nat} {l : Int} (h : lnum a = some l) : 0 ≤ l ∧ a = TL.numL l.toNat := by
  unfold lnum at h
  split at h
  · next c =>
    cases h
    exact ⟨Int.natCast_nonneg _, by rw [Int.toNat_natCast, num_back _ a rfl c]⟩
  · cases h
/-- what is read is written again -/
theorem fmt_read {w : Int × Option Int} {x : Str} (h : lread x = some w) : TL.tl x = fmtL w := by
  unfold lread at h
  rcases par_spl (L := TL.tl x) (acc := []) with ⟨a, r, h1, h2, _, _⟩ | ⟨h1, _, _⟩
  · rw [h1] at h
    dsimp only at h
    rw [List.nil_append] at h
    unfold lAB at h
    cases hl : lnum a with
    | none => rw [hl] at h; cases h
    | some l =>
      rw [hl] at h
      dsimp only at h
      have ea := (lnum_some hl).2
      by_cases nr : r = []
      · rw [if_pos nr] at h
        cases h
        rw [h2, nr, ea]; rfl
      · rw [if_neg nr] at h
        cases hk : lnum r with
        | none => rw [hk] at h; cases h
        | some k =>
          rw [hk] at h
          dsimp only at h
          split at h
          · cases h
          · cases h
            rw [h2, ea, (lnum_some hk).2]; rfl
  · rw [h1] at h; cases h
/-! ### runs of digits -/
def Run (n : Nat) (L : List Nat) : Prop := ∀ a u b, L = a ++ u ++ b → dgs u → u.length ≤ n
theorem Run.len {n : Nat} {L : List Nat} (h : L.length ≤ n) : Run n L := fun a u b e _ => by rw [e] at h; simp at h; omega
theorem Run.mono {n m : Nat} {L : List Nat} (h : Run n L) (k : n ≤ m) : Run m L := fun a u b e d => Nat.le_trans (h a u b e d) k
theorem Run.mid {n : Nat} {a L b : List Nat} (h : Run n (a ++ L ++ b)) : Run n L := fun p u q e d => h (a ++ p) u (q ++ b) (by rw [e]; simp) d
theorem Run.app {n : Nat} {A B : List Nat} {c : Nat} (ha : Run n A) (hb : Run n B) (nc : ¬ dgN c) : Run n (A ++ c :: B) := by
  intro p u q e d
  rw [List.append_assoc] at e
  rcases List.append_eq_append_iff.mp e with ⟨x, e1, e2⟩ | ⟨x, e1, e2⟩
  · -- p = A ++ x
    cases x with
    | nil =>
      cases u with
      | nil => exact Nat.zero_le _
      | cons v u =>
        rw [List.nil_append] at e2
        injection e2 with z _
        exact absurd (d v List.mem_cons_self) (by rw [← z]; exact nc)
    | cons y x =>
      injection e2 with _ z
      exact hb x u q (by rw [z]; simp) d
  · -- A = p ++ x, x ++ c :: B = u ++ q
    rcases List.append_eq_append_iff.mp e2 with ⟨y, f1, f2⟩ | ⟨y, f1, f2⟩
    · exact ha p u y (by rw [e1, f1]; simp) d
    · cases y with
      | nil =>
        rw [List.append_nil] at f1
        exact ha p u [] (by rw [e1, f1]; simp) d
      | cons v y =>
        injection f2 with z _
        exact absurd (d c (by rw [f1, z]; simp)) nc
theorem Run.rev {n : Nat} {L : List Nat} (h : Run n L) : Run n L.reverse := fun a u b e d => by
  have := h b.reverse u.reverse a.reverse (by rw [← L.reverse_reverse, e]; simp) (fun c hc => d c (List.mem_reverse.mp hc))
  simpa using this
theorem Run.good {L : List Nat} (h : Run 60 L) : goodL L := fun a r e => ⟨fun d => h [] a (DD ++ r) (by rw [e]; simp) d, fun d => h (a ++ DD) r [] (by rw [e]; simp) d⟩
theorem dots_good {L : List Nat} (h : L.count 46 ≤ 1) : goodL L := fun a r e => by
  rw [e] at h
  simp [List.count_append] at h
  omega
/-! ### changed in one place -/
/-- two signs that are no digits, at most one sign between them, beside them at most n signs -/
def Two (n : Nat) (L : List Nat) : Prop := ∃ A c M e B, L = A ++ c :: (M ++ e :: B) ∧ ¬ dgN c ∧ ¬ dgN e ∧ A.length ≤ n ∧ M.length ≤ 1 ∧ B.length ≤ n
def Low (n : Nat) (L : List Nat) : Prop := L.count 46 ≤ 1 ∧ Run n L
theorem Two.run {n : Nat} {L : List Nat} (h : Two n L) (k : 1 ≤ n) : Run n L := by
  obtain ⟨A, c, M, e, B, rfl, hc, he, a, m, b⟩ := h
  exact .app (.len a) (.app (.len (by omega)) (.len b) he) hc
/-- at place i k signs are taken out, X put in -/
def edit (L : List Nat) (i : Nat) (X : List Nat) (k : Nat) : List Nat := L.take i ++ X ++ L.drop (i + k)
theorem edit_left {U V X : List Nat} {i k : Nat} (h : i + k ≤ U.length) : edit (U ++ V) i X k = edit U i X k ++ V := by
  unfold edit
  rw [List.take_append_of_le_length (by omega), List.drop_append_of_le_length h]
  simp
theorem edit_right {U V X : List Nat} {i k : Nat} (h : U.length ≤ i) : edit (U ++ V) i X k = U ++ edit V (i - U.length) X k := by
  unfold edit
  rw [List.take_append, List.drop_append, List.take_of_length_le h, List.drop_of_length_le (l := U) (by omega), List.nil_append]
  have e : i + k - U.length = i - U.length + k := by omega
  rw [e]
  simp
theorem edit_len {L X : List Nat} {i k n : Nat} (h : L.length ≤ n) (hx : X.length ≤ 1) : (edit L i X k).length ≤ n + 1 := by
  unfold edit
  simp only [List.length_append, List.length_take, List.length_drop]
  omega
/-- from two to one: the runs stay short -/
theorem Two.edit {n : Nat} {L X : List Nat} {i k : Nat} (h : Two n L) (hx : X.length ≤ 1) (hk : k ≤ 1) : Run (n + 3) (KX.edit L i X k) := by
  obtain ⟨A, c, M, e, B, rfl, hc, he, a, m, b⟩ := h
  by_cases hi : i ≤ A.length
  · have eq : A ++ c :: (M ++ e :: B) = (A ++ c :: M) ++ e :: B := by simp
    rw [eq, edit_left (by simp; omega)]
    exact .app (.len (Nat.le_trans (edit_len (n := n + 2) (by simp; omega) hx) (by omega))) (.len (by omega)) he
  · have eq : A ++ c :: (M ++ e :: B) = (A ++ [c]) ++ (M ++ e :: B) := by simp
    rw [eq, edit_right (by simp; omega)]
    have eq2 : A ++ [c] ++ KX.edit (M ++ e :: B) (i - (A ++ [c]).length) X k = A ++ c :: KX.edit (M ++ e :: B) (i - (A ++ [c]).length) X k := by simp
    rw [eq2]
    exact .app (.len (by omega)) (.len (Nat.le_trans (edit_len (n := n + 2) (by simp; omega) hx) (by omega))) hc
theorem count_edit {L : List Nat} {i k : Nat} {X : List Nat} (hX : X.count 46 = 0) : (edit L i X k).count 46 ≤ L.count 46 := by
  unfold edit
  have e : L.count 46 = (L.take i).count 46 + (L.drop i).count 46 := by rw [← List.count_append, List.take_append_drop]
  have f : (L.drop (i + k)).count 46 ≤ (L.drop i).count 46 := by
    rw [← List.drop_drop]
    exact (List.drop_sublist _ _).count_le 46
  rw [List.count_append, List.count_append, hX]
  omega
theorem Low.edit {n : Nat} {L X : List Nat} {i k : Nat} (h : Low n L) (hx : X.length ≤ 1) : goodL (KX.edit L i X k) ∨ Run n (KX.edit L i X k) := by
  obtain ⟨h1, h2⟩ := h
  match X, hx with
  | [], _ => exact .inl (dots_good (Nat.le_trans (count_edit rfl) h1))
  | [s], _ =>
    by_cases hs : dgN s
    · exact .inl (dots_good (Nat.le_trans (count_edit (by
        have : s ≠ 46 := fun z => by rw [z] at hs; revert hs; unfold dgN; omega
        simp [this])) h1))
    · right
      have e : KX.edit L i [s] k = L.take i ++ s :: L.drop (i + k) := by unfold KX.edit; simp
      rw [e]
      refine .app ?_ ?_ hs
      · exact Run.mid (a := []) (b := L.drop i) (by rw [List.nil_append, List.take_append_drop]; exact h2)
      · exact Run.mid (a := L.take (i + k)) (b := []) (by rw [List.append_nil, List.take_append_drop]; exact h2)
/-- the text of a window -/
theorem fmt_two {n : Nat} {A B : List Nat} (a : A.length ≤ n) (b : B.length ≤ n) : Two n (A ++ DD ++ B) := ⟨A, 46, [], 46, B, by simp, by decide, by decide, a, by simp, b⟩
theorem fmt_edit {n : Nat} {A B X : List Nat} {i k : Nat} (a : A.length ≤ n) (b : B.length ≤ n) (da : dgs A) (db : dgs B) (hx : X.length ≤ 1) (hk : k ≤ 1) : Two (n + 1) (edit (A ++ DD ++ B) i X k) ∨ Low (n + 1) (edit (A ++ DD ++ B) i X k) := by
  have ca : A.count 46 = 0 := List.count_eq_zero.mpr fun z => by have := da _ z; omega
  have cb : B.count 46 = 0 := List.count_eq_zero.mpr fun z => by have := db _ z; omega
  have e0 : A ++ DD ++ B = A ++ (46 :: 46 :: B) := by simp
  rw [e0]
  by_cases h1 : i + k ≤ A.length
  · left
    rw [edit_left h1]
    exact ⟨edit A i X k, 46, [], 46, B, by simp, by decide, by decide, edit_len a hx, by simp, by omega⟩
  · by_cases h2 : i ≤ A.length
    · -- i = |A|, k = 1: the first dot goes
      have hi : i = A.length := by omega
      have hk1 : k = 1 := by omega
      subst hi hk1
      rw [edit_right (Nat.le_refl _), Nat.sub_self]
      have e : A ++ edit (46 :: 46 :: B) 0 X 1 = A ++ X ++ 46 :: B := by unfold edit; simp
      rw [e]
      match X, hx with
      | [], _ =>
        refine .inr ⟨by simp [List.count_append, ca, cb], ?_⟩
        rw [List.append_nil]
        exact .app (.len (by omega)) (.len (by omega)) (by decide)
      | [s], _ =>
        by_cases hs : dgN s
        · have : s ≠ 46 := fun z => by rw [z] at hs; revert hs; unfold dgN; omega
          exact .inr ⟨by simp [List.count_append, ca, cb, this], .app (.len (by simp; omega)) (.len (by omega)) (by decide)⟩
        · exact .inl ⟨A, s, [], 46, B, by simp, hs, by decide, by omega, by simp, by omega⟩
    · have h3 : A.length < i := by omega
      by_cases h4 : i ≤ A.length + 1
      · have hi : i = A.length + 1 := by omega
        subst hi
        have e1 : A ++ (46 :: 46 :: B) = (A ++ [46]) ++ (46 :: B) := by simp
        rw [e1, edit_right (by simp)]
        have e2 : A.length + 1 - (A ++ [46]).length = 0 := by simp
        rw [e2]
        by_cases hk0 : k = 0
        · subst hk0
          have e : A ++ [46] ++ edit (46 :: B) 0 X 0 = A ++ 46 :: (X ++ 46 :: B) := by unfold edit; simp
          rw [e]
          exact .inl ⟨A, 46, X, 46, B, rfl, by decide, by decide, by omega, hx, by omega⟩
        · have hk1 : k = 1 := by omega
          subst hk1
          have e : A ++ [46] ++ edit (46 :: B) 0 X 1 = A ++ 46 :: (X ++ B) := by unfold edit; simp
          rw [e]
          match X, hx with
          | [], _ => exact .inr ⟨by simp [List.count_append, ca, cb], .app (.len (by omega)) (.len (by simp; omega)) (by decide)⟩
          | [s], _ =>
            by_cases hs : dgN s
            · have : s ≠ 46 := fun z => by rw [z] at hs; revert hs; unfold dgN; omega
              exact .inr ⟨by simp [List.count_append, ca, cb, this], .app (.len (by omega)) (.len (by simp; omega)) (by decide)⟩
            · exact .inl ⟨A, 46, [], s, B, by simp, by decide, hs, by omega, by simp, by omega⟩
      · have e1 : A ++ (46 :: 46 :: B) = (A ++ DD) ++ B := by simp
        rw [e1, edit_right (by simp; omega)]
        exact .inl ⟨A, 46, [], 46, edit B (i - (A ++ DD).length) X k, by simp, by decide, by decide, by omega, by simp, edit_len b hx⟩
/-- what the law's change may make -/
inductive Chg (L : List Nat) : List Nat → Prop
  | ed (i : Nat) (X : List Nat) (k : Nat) : X.length ≤ 1 → k ≤ 1 → Chg L (edit L i X k)
  | rev : Chg L L.reverse
  | turn : Chg L (TL.joinL DD (TL.spl DD 0 [] L).reverse)
theorem joinL_run {n : Nat} : ∀ ps : List (List Nat), (∀ p ∈ ps, Run n p) → Run n (TL.joinL DD ps)
  | [], _ => .len (by simp [TL.joinL])
  | [p], h => h p (by simp)
  | p :: q :: r, h => by
    have ih := joinL_run (q :: r) fun x hx => h x (List.mem_cons_of_mem _ hx)
    show Run n (p ++ 46 :: ([] ++ 46 :: TL.joinL DD (q :: r)))
    exact .app (h p (by simp)) (.app (.len (by simp)) ih (by decide)) (by decide)
theorem spl_run' {n : Nat} : ∀ m (L : List Nat), L.length ≤ m → Run n L → ∀ p ∈ TL.spl DD 0 [] L, Run n p
  | m, L, hm, h, p, hp => by
    rcases par_spl (L := L) (acc := []) with ⟨a, r, _, e, s, _⟩ | ⟨_, s, _⟩
    · rw [s] at hp
      rcases List.mem_cons.mp hp with z | z
      · rw [z, List.nil_append]
        exact Run.mid (a := []) (b := DD ++ r) (by rw [List.nil_append, ← List.append_assoc, ← e]; exact h)
      · match m, hm with
        | 0, hm => rw [e] at hm; simp at hm
        | m + 1, hm => exact spl_run' m r (by rw [e] at hm; simp at hm; omega) (Run.mid (a := a ++ DD) (b := []) (by rw [List.append_nil, ← e]; exact h)) p z
    · rw [s] at hp
      rw [List.mem_singleton.mp hp, List.nil_append]
      exact h
def St0 (L : List Nat) : Prop := ∃ A B, L = A ++ DD ++ B ∧ A.length ≤ 56 ∧ B.length ≤ 56 ∧ dgs A ∧ dgs B
def St1 (L : List Nat) : Prop := Two 57 L ∨ Low 57 L
theorem St0.good {L : List Nat} (h : St0 L) : goodL L := by
  obtain ⟨A, B, rfl, a, b, _, _⟩ := h
  exact ((fmt_two a b).run (by decide)).mono (by decide) |>.good
theorem St1.good {L : List Nat} (h : St1 L) : goodL L := h.elim (fun z => ((z.run (by decide)).mono (by decide)).good) fun z => dots_good z.1
theorem St0.step {L L' : List Nat} (h : St0 L) (c : Chg L L') : St1 L' := by
  obtain ⟨A, B, rfl, a, b, da, db⟩ := h
  cases c with
  | ed i X k hx hk => exact fmt_edit a b da db hx hk
  | rev => exact .inl ⟨B.reverse, 46, [], 46, A.reverse, by simp, by decide, by decide, by simp; omega, by simp, by simp; omega⟩
  | turn =>
    have ha : 46 ∉ A := fun z => by have := da _ z; omega
    have hb : 46 ∉ B := fun z => by have := db _ z; omega
    have e : TL.spl DD 0 [] (A ++ DD ++ B) = [A, B] := by
      have h1 := TL.spl_part1 (s := 46) (S := [46]) (p := A) (rest := B) (acc := []) ha
      have h2 := TL.spl_last1 (s := 46) (S := [46]) (p := B) (acc := []) hb
      rw [h2] at h1
      rw [List.append_assoc]
      exact h1
    rw [e]
    show St1 (B ++ (DD ++ A))
    exact .inl ⟨B, 46, [], 46, A, rfl, by decide, by decide, by omega, by simp, by omega⟩
theorem St1.step {L L' : List Nat} (h : St1 L) (c : Chg L L') : goodL L' := by
  rcases h with h | h
  · cases c with
    | ed i X k hx hk => exact (h.edit hx hk).good
    | rev => exact ((h.run (by decide)).rev.mono (by decide)).good
    | turn =>
      have r := h.run (by decide)
      exact ((joinL_run _ fun p hp => spl_run' _ L (Nat.le_refl _) r p (List.mem_reverse.mp hp)).mono (by decide)).good
  · cases c with
    | ed i X k hx hk => exact (h.edit hx).elim id fun z => (z.mono (by decide)).good
    | rev => exact dots_good (by rw [List.count_reverse]; exact h.1)
    | turn =>
      have e : TL.spl DD 0 [] L = [L] := by
        rcases par_spl (L := L) (acc := []) with ⟨a, r, _, e, _, _⟩ | ⟨_, s, _⟩
        · have := h.1
          rw [e] at this
          simp [List.count_append] at this
          omega
        · rw [s, List.nil_append]
      rw [e]
      exact dots_good h.1
/-! ### slices by places -/
theorem tl_cut_to {z : Str} {i : Int} (h : 0 ≤ i) : TL.tl (cutS z none (some i)) = (TL.tl z).take i.toNat := by
  have e : TL.tl (cutS z none (some i)) = ((TL.tl z).drop (HT.sIx z.length 0 none)).take (HT.sIx z.length z.length (some i) - HT.sIx z.length 0 none) := rfl
  rw [e]
  have l : z.length = (TL.tl z).length := rfl
  unfold HT.sIx
  dsimp only
  rw [List.drop_zero, Nat.sub_zero, if_neg (by omega)]
  by_cases k : i.toNat ≤ z.length
  · congr 1; omega
  · rw [List.take_of_length_le (by omega), List.take_of_length_le (by omega)]
theorem tl_cut_from {z : Str} {i : Int} (h : 0 ≤ i) : TL.tl (cutS z (some i) none) = (TL.tl z).drop i.toNat := by
  have e : TL.tl (cutS z (some i) none) = ((TL.tl z).drop (HT.sIx z.length 0 (some i))).take (HT.sIx z.length z.length none - HT.sIx z.length 0 (some i)) := rfl
  rw [e]
  have l : z.length = (TL.tl z).length := rfl
  unfold HT.sIx
  dsimp only
  rw [if_neg (by omega)]
  by_cases k : i.toNat ≤ z.length
  · rw [List.take_of_length_le (by rw [List.length_drop]; omega)]
    congr 1; omega
  · rw [List.drop_of_length_le (by omega), List.drop_of_length_le (by omega)]; simp
theorem fmtW_tl {w : Int × Option Int} (ok : okW w) : TL.tl (fmtS w) = fmtL w := by
  obtain ⟨l, hi⟩ := w
  obtain ⟨h1, h2⟩ := ok
  have h1 : 0 ≤ l := h1
  unfold fmtS fmtL
  cases hi with
  | none =>
    show TL.tl (Str.empty ++ Str.ofString (toString l) ++ Str.ofString "..") = _
    rw [tl_app, tl_app, tl_dd, tl_int h1]
    show [] ++ _ ++ _ = _
    simp [tailL]
  | some k =>
    have hk : l ≤ k := h2 k rfl
    show TL.tl (Str.empty ++ Str.ofString (toString l) ++ Str.ofString ".." ++ Str.ofString (toString k)) = _
    rw [tl_app, tl_app, tl_app, tl_dd, tl_int h1, tl_int (by omega)]
    show [] ++ _ ++ _ ++ _ = _
    simp [tailL]
theorem joinL_len : ∀ ps : List (List Nat), (TL.joinL DD ps).length = (ps.map (·.length)).sum + 2 * (ps.length - 1)
  | [] => rfl
  | [p] => by simp [TL.joinL]
  | p :: q :: r => by
    have ih := joinL_len (q :: r)
    show (p ++ (DD ++ TL.joinL DD (q :: r))).length = _
    rw [List.length_append, List.length_append, ih]
    simp only [List.map_cons, List.sum_cons, List.length_cons, List.length_nil]
    omega
theorem spl_sum : ∀ m (L : List Nat), L.length ≤ m → ((TL.spl DD 0 [] L).map (·.length)).sum + 2 * ((TL.spl DD 0 [] L).length - 1) = L.length ∧ 1 ≤ (TL.spl DD 0 [] L).length
  | m, L, hm => by
    rcases par_spl (L := L) (acc := []) with ⟨a, r, _, e, s, _⟩ | ⟨_, s, _⟩
    · match m, hm with
      | 0, hm => rw [e] at hm; simp at hm
      | m + 1, hm =>
        have ih := spl_sum m r (by rw [e] at hm; simp at hm; omega)
        have ei : L.length = a.length + 2 + r.length := by rw [e]; simp; omega
        rw [s]
        simp only [List.nil_append, List.map_cons, List.sum_cons, List.length_cons]
        omega
    · rw [s]; simp
theorem turn_len (L : List Nat) : (TL.joinL DD (TL.spl DD 0 [] L).reverse).length = L.length := by
  rw [joinL_len, List.map_reverse, List.length_reverse]
  have e : (((TL.spl DD 0 [] L).map (·.length)).reverse).sum = ((TL.spl DD 0 [] L).map (·.length)).sum := List.sum_reverse _
  rw [e]
  exact (spl_sum _ L (Nat.le_refl _)).1
end KX

namespace KX
open PySem PySem.Spec PyProof.Rows L2
/-! ### where the two dots of a text are, behind some changes -/
/-- the dots in the first n signs are at least m more than those behind -/
def Lead (n : Nat) (m : Int) (L : List Nat) : Prop := m + (L.count 46 : Int) ≤ 2 * ((L.take n).count 46 : Int)
theorem count_take_le {a b : Nat} (h : a ≤ b) (R : List Nat) : (R.take a).count 46 ≤ (R.take b).count 46 := by
  have e : R.take a = (R.take b).take a := by rw [List.take_take]; congr 1; omega
  rw [e]
  exact (List.take_sublist _ _).count_le 46
theorem count_split (R : List Nat) (k : Nat) : R.count 46 = (R.take k).count 46 + (R.drop k).count 46 := by
  rw [← List.count_append, List.take_append_drop]
theorem count_take_two (R : List Nat) (a k : Nat) : (R.take a).count 46 ≤ (R.take k).count 46 + ((R.drop k).take (a - k)).count 46 := by
  by_cases h : k ≤ a
  · have e : a = k + (a - k) := by omega
    have : R.take a = R.take k ++ (R.drop k).take (a - k) := by
      conv => lhs; rw [e]
      rw [List.take_add]
    rw [this, List.count_append]
    exact Nat.le_refl _
  · exact Nat.le_trans (count_take_le (by omega) R) (Nat.le_add_right _ _)
theorem Lead.edit {n : Nat} {m : Int} {L X : List Nat} {i k : Nat} (h : Lead n m L) (hx : X.length ≤ 1) (hk : k ≤ 1) : Lead (n + 1) (m - 1) (KX.edit L i X k) := by
  unfold Lead at *
  unfold KX.edit
  have x1 : X.count 46 ≤ 1 := Nat.le_trans List.count_le_length hx
  have y1 : ((L.drop i).take k).count 46 ≤ 1 := Nat.le_trans List.count_le_length (by rw [List.length_take]; omega)
  have c1 := count_split L i
  have c2 := count_split (L.drop i) k
  rw [List.drop_drop] at c2
  rw [List.count_append, List.count_append]
  by_cases hi : i ≤ n
  · have t1 : (L.take n).count 46 ≤ (L.take i).count 46 + ((L.drop i).take (n - i)).count 46 := count_take_two L n i
    have t2 := count_take_two (L.drop i) (n - i) k
    rw [List.drop_drop] at t2
    have li : (L.take i).length ≤ i := by rw [List.length_take]; omega
    have t3 : (L.take i).count 46 + X.count 46 + ((L.drop (i + k)).take (n - i - k)).count 46 ≤ ((L.take i ++ X ++ L.drop (i + k)).take (n + 1)).count 46 := by
      rw [List.take_append, List.take_of_length_le (l := L.take i ++ X) (by rw [List.length_append]; omega), List.count_append, List.count_append]
      have := count_take_le (a := n - i - k) (b := n + 1 - (L.take i ++ X).length) (by rw [List.length_append]; omega) (L.drop (i + k))
      omega
    omega
  · have t1 : (L.take n).count 46 ≤ ((L.take i ++ X ++ L.drop (i + k)).take (n + 1)).count 46 := by
      have e : (L.take n) = (L.take i ++ X ++ L.drop (i + k)).take (min n L.length) := by
        rw [List.append_assoc, List.take_append_of_le_length (by rw [List.length_take]; omega), List.take_take]
        by_cases z : n ≤ L.length
        · congr 1; omega
        · rw [List.take_of_length_le (by omega), List.take_of_length_le (by omega)]
      rw [e]
      exact count_take_le (by omega) _
    omega
theorem edit_rev (L X : List Nat) (i k : Nat) (hi : i ≤ L.length) : (edit L i X k).reverse = edit L.reverse (L.length - (i + k)) X.reverse ((L.length - i) - (L.length - (i + k))) := by
  unfold edit
  rw [List.reverse_append, List.reverse_append, List.reverse_take, List.reverse_drop, ← List.append_assoc]
  congr 2
  omega
structure Near (n : Nat) (m : Int) (L : List Nat) : Prop where
  a : Lead n m L
  b : Lead n m L.reverse
theorem Near.edit {n : Nat} {m : Int} {L X : List Nat} {i k : Nat} (h : Near n m L) (hi : i ≤ L.length) (hx : X.length ≤ 1) (hk : k ≤ 1) : Near (n + 1) (m - 1) (KX.edit L i X k) :=
  ⟨h.a.edit hx hk, by rw [edit_rev _ _ _ _ hi]; exact h.b.edit (by rw [List.length_reverse]; exact hx) (by omega)⟩
theorem Lead.left {n : Nat} {m : Int} {a r : List Nat} (h : Lead n m (a ++ [46, 46] ++ r)) (hm : -1 ≤ m) (ha : a.count 46 = 0) : a.length ≤ n := by
  unfold Lead at h
  rcases Nat.lt_or_ge n a.length with z | z
  · rw [List.append_assoc, List.take_append_of_le_length (by omega)] at h
    have : (a.take n).count 46 ≤ a.count 46 := (List.take_sublist _ _).count_le 46
    simp only [List.count_append] at h
    have e : List.count 46 [46, 46] = 2 := by decide
    rw [e] at h
    omega
  · exact z
theorem Near.of {n : Nat} {A B : List Nat} (ha : A.count 46 = 0) (hb : B.count 46 = 0) (la : A.length ≤ n) (lb : B.length ≤ n) : Near (n + 2) 2 (A ++ [46, 46] ++ B) := by
  have one : ∀ A B : List Nat, A.count 46 = 0 → B.count 46 = 0 → A.length ≤ n → Lead (n + 2) 2 (A ++ [46, 46] ++ B) := fun A B ha hb la => by
    unfold Lead
    have e : List.count 46 [46, 46] = 2 := by decide
    have t : List.count 46 (A ++ [46, 46]) ≤ List.count 46 (List.take (n + 2) (A ++ [46, 46] ++ B)) := by
      rw [List.take_append, List.take_of_length_le (l := A ++ [46, 46]) (by simp; omega)]
      simp only [List.count_append]
      omega
    simp only [List.count_append] at t ⊢
    rw [e] at t ⊢
    omega
  refine ⟨one A B ha hb la, ?_⟩
  have e : (A ++ [46, 46] ++ B).reverse = B.reverse ++ [46, 46] ++ A.reverse := by simp
  rw [e]
  exact one _ _ (by rw [List.count_reverse]; exact hb) (by rw [List.count_reverse]; exact ha) (by rw [List.length_reverse]; exact lb)
theorem dgs_count {a : List Nat} (h : dgs a) : a.count 46 = 0 := List.count_eq_zero.mpr fun z => by have := h _ z; omega
theorem Near.good {n : Nat} {m : Int} {L : List Nat} (h : Near n m L) (hn : n ≤ 60) (hm : -1 ≤ m) : goodL L := fun a r e => by
  refine ⟨fun d => ?_, fun d => ?_⟩
  · have := h.a
    rw [e] at this
    exact Nat.le_trans (this.left hm (dgs_count d)) hn
  · have := h.b
    have e2 : L.reverse = r.reverse ++ [46, 46] ++ a.reverse := by rw [e]; simp
    rw [e2] at this
    have k := this.left hm (by rw [List.count_reverse]; exact dgs_count d)
    rw [List.length_reverse] at k
    exact Nat.le_trans k hn
end KX

namespace KX
open PySem PySem.Spec PyProof.Rows L2
/-! ### a zip whose pair is held by another -/
/-- a zip over the iterators in TI; f0, f1: what it knows of the pair it has handed out -/
abbrev ZipO (h : Heap) (z TI TO : Addr) (f0 : Value) (f1 : Bool) : Prop :=
  h.get? z = some { cls := .type "zip", dict := none, data := .fields #[f0, .bool f1, .bool false, .ref TI, .ref TO], slots := #[] }
section
variable {prog : Program} {w : World} {A : Around} {E : Value → Shared → Prop} {s : Shared}
theorem alive_any {a : Addr} {Q : Option Obj → Shared → Prop} (h : Q (s.heap.get? a) s) : wpAny (model prog w) A (loadIfAlive a) Q E s := fun _ _ _ => h
/-- its own pair is free -/
theorem free_none {z TI TO : Addr} {f1 : Bool} (hz : ZipO s.heap z TI TO .none f1) {Q : Bool → Shared → Prop} (h : Q true s) : wpAny (model prog w) A (Builtin.SmallTypes.ownedTupleIsFree (.ref z)) Q E s := by
  unfold Builtin.SmallTypes.ownedTupleIsFree
  exact wpAny_bind (wpAny_field hz rfl (x := .none) rfl (wpAny_pure h))
theorem free_gone {z TI TO T : Addr} {f1 : Bool} (hz : ZipO s.heap z TI TO (rawInt T) f1) (hT : s.heap.get? T = none) {Q : Bool → Shared → Prop} (h : Q true s) : wpAny (model prog w) A (Builtin.SmallTypes.ownedTupleIsFree (.ref z)) Q E s := by
  unfold Builtin.SmallTypes.ownedTupleIsFree
  refine wpAny_bind (wpAny_field hz rfl (x := rawInt T) rfl ?_)
  show wpAny _ _ (loadIfAlive ((T : Int).toNat) >>= _) _ _ _
  rw [Int.toNat_natCast]
  refine wpAny_bind (alive_any ?_)
  rw [hT]
  exact wpAny_pure h
/-- the next pair, made anew from its own -/
theorem zipnext_free {z TI TO i1 i2 l1 l2 : Addr} {f0 : Value} {f1 : Bool} {k1 k2 : Nat} {xs ys : Array Value} {x y a b : Value} {Q : Value → Shared → Prop} (D : ZipApart z TI TO i1 i2 l1 l2)
    (hfree : ∀ {Q : Bool → Shared → Prop}, Q true s → wpAny (model prog w) A (Builtin.SmallTypes.ownedTupleIsFree (.ref z)) Q E s) (hz : ZipO s.heap z TI TO f0 f1) (hTI : IsPair s.heap TI (.ref i1) (.ref i2)) (hTO : IsPair s.heap TO a b)
    (h1 : s.heap.IsListIter i1 l1 k1) (h2 : s.heap.IsListIter i2 l2 k2) (hl1 : s.heap.IsList l1 xs) (hl2 : s.heap.IsList l2 ys) (hx : xs[k1]? = some x) (hy : ys[k2]? = some y)
    (hQ : ∀ h', ZipO h' z TI TO (rawInt s.heap.objs.size) false → IsPair h' TO x y → h'.IsListIter i1 l1 (k1 + 1) → h'.IsListIter i2 l2 (k2 + 1) → IsPair h' s.heap.objs.size x y → h'.objs.size = s.heap.objs.size + 1 →
      (∀ c o, c ≠ z → c ≠ TO → c ≠ i1 → c ≠ i2 → s.heap.get? c = some o → h'.get? c = some o) → Q (.ref s.heap.objs.size) { s with heap := h' }) :
    wpAny (model prog w) A (Builtin.«zip.__next__» ⟨[.ref z], []⟩) (fun fin s' => ∃ v, fin = .done (.ret v) ∧ Q v s') E s := by
  show wpAny _ _ (field (.ref z) 2 >>= _) _ _ _
  refine wpAny_bind (wpAny_field hz rfl (x := .bool false) rfl ?_)
  show wpAny _ _ (field (.ref z) 3 >>= _) _ _ _
  refine wpAny_bind (wpAny_field hz rfl (x := .ref TI) rfl ?_)
  refine wpAny_bind (wpAny_seqItems hTI rfl ?_)
  show wpAny _ _ (Builtin.SmallTypes.ownedTupleIsFree (.ref z) >>= _) _ _ _
  refine wpAny_bind (hfree ?_)
  simp only [if_true]
  refine wpAny_bind (wpAny_rule (wpAny_bind (wpAny_field hz rfl (x := .ref TO) rfl (wpAny_bind (wpAny_setField_rec hz (by simp) fun g1 z1 s1 => ?_)))))
  replace z1 : ZipO g1 z TI TO .ellipsis f1 := z1
  refine wpAny_bind ?_
  simp only [List.zipIdx_cons, List.zipIdx_nil, List.forIn_cons, List.forIn_nil]
  refine wpAny_bind (wpAny_bind (wpAny_onRaise ?_))
  show wpAny _ _ (Builtin.SmallTypes.nextOf (.ref i1) >>= _) _ _ _
  refine wpAny_bind (wpAny_nextOf_list_item (h1.extBut s1.extBut D.i1z) (hl1.extBut s1.extBut D.l1z) hx fun g2 a2 s2 => wpAny_pure ?_)
  have p2 : IsPair g2 TO a b := s2.extBut _ _ D.TOi1 (s1.extBut _ _ D.TOz hTO)
  refine wpAny_bind (wpAny_seqItems p2 rfl (wpAny_bind (wpAny_updateSeq_pair p2 fun g3 p3 s3 => ?_)))
  replace p3 : IsPair g3 TO x b := p3
  refine wpAny_bind (wpAny_letGo (wpAny_pure ?_))
  refine wpAny_bind (wpAny_bind (wpAny_onRaise ?_))
  show wpAny _ _ (Builtin.SmallTypes.nextOf (.ref i2) >>= _) _ _ _
  refine wpAny_bind (wpAny_nextOf_list_item (((h2.extBut s1.extBut D.i2z).extBut s2.extBut D.i12.symm).extBut s3.extBut D.TOi2.symm) (((hl2.extBut s1.extBut D.l2z).extBut s2.extBut D.l2i1).extBut s3.extBut D.l2TO) hy fun g4 a4 s4 => wpAny_pure ?_)
  have p4 : IsPair g4 TO x b := s4.extBut _ _ D.TOi2 p3
  refine wpAny_bind (wpAny_seqItems p4 rfl (wpAny_bind (wpAny_updateSeq_pair p4 fun g5 p5 s5 => ?_)))
  replace p5 : IsPair g5 TO x y := p5
  refine wpAny_bind (wpAny_letGo (wpAny_pure (wpAny_pure ?_)))
  refine wpAny_bind (wpAny_seqItems p5 rfl (wpAny_bind (wpAny_newTuple ?_)))
  have sz : g5.objs.size = s.heap.objs.size := by rw [s5.1, s4.1, s3.1, s2.1, s1.1]
  have z5 : ZipO g5 z TI TO .ellipsis f1 := s5.extBut _ _ D.TOz.symm (s4.extBut _ _ D.i2z.symm (s3.extBut _ _ D.TOz.symm (s2.extBut _ _ D.i1z.symm z1)))
  have k5 : ∀ c o, c ≠ z → c ≠ TO → c ≠ i1 → c ≠ i2 → s.heap.get? c = some o → g5.get? c = some o := fun c o c1 c2 c3 c4 e =>
    s5.extBut _ _ c2 (s4.extBut _ _ c4 (s3.extBut _ _ c2 (s2.extBut _ _ c3 (s1.extBut _ _ c1 e))))
  have a5 : g5.IsListIter i1 l1 (k1 + 1) := ((a2.extBut s3.extBut D.TOi1.symm).extBut s4.extBut D.i12).extBut s5.extBut D.TOi1.symm
  have b5 : g5.IsListIter i2 l2 (k2 + 1) := a4.extBut s5.extBut D.TOi2.symm
  have zlt : z < g5.objs.size := Heap.lt_size z5
  show wpAny _ _ (Builtin.SmallTypes.ownedTupleHandOut (.ref z) (.ref g5.objs.size) >>= _) _ _ _
  refine wpAny_bind ?_
  unfold Builtin.SmallTypes.ownedTupleHandOut
  have z6 : ZipO (g5.push { cls := .type "tuple", data := .seq #[x, y] }) z TI TO .ellipsis f1 := Heap.get?_push_of_some _ z5
  refine wpAny_bind (wpAny_setField_rec z6 (by simp) fun g7 z7 s7 => ?_)
  replace z7 : ZipO g7 z TI TO (rawInt g5.objs.size) f1 := z7
  refine wpAny_setField_rec z7 (by simp) fun g8 z8 s8 => ?_
  replace z8 : ZipO g8 z TI TO (rawInt g5.objs.size) false := z8
  have up : ∀ c o, c ≠ z → g5.get? c = some o → g8.get? c = some o := fun c o c1 e => s8.extBut _ _ c1 (s7.extBut _ _ c1 (Heap.get?_push_of_some _ e))
  have T8 : IsPair g8 g5.objs.size x y := s8.extBut _ _ (Nat.ne_of_gt zlt) (s7.extBut _ _ (Nat.ne_of_gt zlt) (Heap.get?_push_size _ rfl))
  have sz8 : g8.objs.size = g5.objs.size + 1 := by rw [s8.1, s7.1, Heap.size_push]
  rw [sz] at z8 T8 sz8
  refine wpAny_pure ⟨_, rfl, ?_⟩
  show Q (.ref g5.objs.size) _
  rw [sz]
  exact hQ g8 z8 (up _ _ D.TOz p5) (a5.at fun o e => up _ o D.i1z e) (b5.at fun o e => up _ o D.i2z e) T8 sz8 fun c o c1 c2 c3 c4 e => up c o c1 (k5 c o c1 c2 c3 c4 e)
theorem zipend_free {z TI TO i1 i2 l1 l2 : Addr} {f0 : Value} {f1 : Bool} {k1 k2 : Nat} {xs ys : Array Value} {a b : Value} {Q : Fin → Shared → Prop} (hh : A.handled = none) (D : ZipApart z TI TO i1 i2 l1 l2)
    (hfree : ∀ {Q : Bool → Shared → Prop}, Q true s → wpAny (model prog w) A (Builtin.SmallTypes.ownedTupleIsFree (.ref z)) Q E s) (hz : ZipO s.heap z TI TO f0 f1) (hTI : IsPair s.heap TI (.ref i1) (.ref i2)) (hTO : IsPair s.heap TO a b)
    (h1 : s.heap.IsListIter i1 l1 k1) (h2 : s.heap.IsListIter i2 l2 k2) (hl1 : s.heap.IsList l1 xs) (hl2 : s.heap.IsList l2 ys) (hend : xs[k1]? = none ∨ ys[k2]? = none)
    (hE : ∀ h' e, (∀ c o, c ≠ z → c ≠ TO → c ≠ i1 → c ≠ i2 → s.heap.get? c = some o → h'.get? c = some o) → (∃ o, h'.get? e = some o ∧ o.cls = .type "StopIteration") → E (.ref e) { s with heap := h' }) :
    wpAny (model prog w) A (Builtin.«zip.__next__» ⟨[.ref z], []⟩) Q E s := by
  show wpAny _ _ (field (.ref z) 2 >>= _) _ _ _
  refine wpAny_bind (wpAny_field hz rfl (x := .bool false) rfl ?_)
  show wpAny _ _ (field (.ref z) 3 >>= _) _ _ _
  refine wpAny_bind (wpAny_field hz rfl (x := .ref TI) rfl ?_)
  refine wpAny_bind (wpAny_seqItems hTI rfl ?_)
  show wpAny _ _ (Builtin.SmallTypes.ownedTupleIsFree (.ref z) >>= _) _ _ _
  refine wpAny_bind (hfree ?_)
  simp only [if_true]
  refine wpAny_bind (wpAny_rule (wpAny_bind (wpAny_field hz rfl (x := .ref TO) rfl (wpAny_bind (wpAny_setField_rec hz (by simp) fun g1 z1 s1 => ?_)))))
  replace z1 : ZipO g1 z TI TO .ellipsis f1 := z1
  refine wpAny_bind ?_
  simp only [List.zipIdx_cons, List.zipIdx_nil, List.forIn_cons, List.forIn_nil]
  refine wpAny_bind (wpAny_bind (wpAny_onRaise ?_))
  show wpAny _ _ (Builtin.SmallTypes.nextOf (.ref i1) >>= _) _ _ _
  cases hx : xs[k1]? with
  | none =>
    refine wpAny_bind (wpAny_nextOf_list_end hh (h1.extBut s1.extBut D.i1z) (hl1.extBut s1.extBut D.l1z) hx fun g2 e s2 he => ?_)
    obtain ⟨oe, hoe, hce⟩ := he
    have z2 : ZipO g2 z TI TO .ellipsis f1 := s2 _ _ D.i1z.symm z1
    have ez : e ≠ z := fun q => by subst q; rw [z2] at hoe; cases hoe; simp at hce
    exact wpAny_setField_rec z2 (by simp) fun g3 _ s3 => hE g3 e (fun c o c1 _ c3 _ q => s3.extBut _ _ c1 (s2 _ _ c3 (s1.extBut _ _ c1 q))) ⟨oe, s3.extBut _ _ ez hoe, hce⟩
  | some x =>
    have hy : ys[k2]? = none := by rcases hend with h | h; rw [hx] at h; cases h; exact h
    refine wpAny_bind (wpAny_nextOf_list_item (h1.extBut s1.extBut D.i1z) (hl1.extBut s1.extBut D.l1z) hx fun g2 a2 s2 => wpAny_pure ?_)
    have p2 : IsPair g2 TO a b := s2.extBut _ _ D.TOi1 (s1.extBut _ _ D.TOz hTO)
    refine wpAny_bind (wpAny_seqItems p2 rfl (wpAny_bind (wpAny_updateSeq_pair p2 fun g3 p3 s3 => ?_)))
    refine wpAny_bind (wpAny_letGo (wpAny_pure ?_))
    refine wpAny_bind (wpAny_bind (wpAny_onRaise ?_))
    show wpAny _ _ (Builtin.SmallTypes.nextOf (.ref i2) >>= _) _ _ _
    refine wpAny_bind (wpAny_nextOf_list_end hh (((h2.extBut s1.extBut D.i2z).extBut s2.extBut D.i12.symm).extBut s3.extBut D.TOi2.symm) (((hl2.extBut s1.extBut D.l2z).extBut s2.extBut D.l2i1).extBut s3.extBut D.l2TO) hy fun g4 e s4 he => ?_)
    obtain ⟨oe, hoe, hce⟩ := he
    have z4 : ZipO g4 z TI TO .ellipsis f1 := s4 _ _ D.i2z.symm (s3.extBut _ _ D.TOz.symm (s2.extBut _ _ D.i1z.symm z1))
    have ez : e ≠ z := fun q => by subst q; rw [z4] at hoe; cases hoe; simp at hce
    exact wpAny_setField_rec z4 (by simp) fun g5 _ s5 => hE g5 e (fun c o c1 c2 c3 c4 q => s5.extBut _ _ c1 (s4 _ _ c4 (s3.extBut _ _ c2 (s2.extBut _ _ c3 (s1.extBut _ _ c1 q))))) ⟨oe, s5.extBut _ _ ez hoe, hce⟩
/-- what it knows: nothing as yet, or a pair handed out before -/
def ZipS (h : Heap) (z TI TO : Addr) : Prop := ∃ f0 f1, ZipO h z TI TO f0 f1 ∧ (f0 = .none ∨ ∃ T : Addr, f0 = rawInt T)
/-- its next pair, whatever it knows -/
theorem zipnext_any {z TI TO i1 i2 l1 l2 : Addr} {k1 k2 : Nat} {xs ys : Array Value} {x y a b : Value} {Q : Value → Shared → Prop} (D : ZipApart z TI TO i1 i2 l1 l2)
    (hz : ZipS s.heap z TI TO) (hTI : IsPair s.heap TI (.ref i1) (.ref i2)) (hTO : IsPair s.heap TO a b)
    (h1 : s.heap.IsListIter i1 l1 k1) (h2 : s.heap.IsListIter i2 l2 k2) (hl1 : s.heap.IsList l1 xs) (hl2 : s.heap.IsList l2 ys) (hx : xs[k1]? = some x) (hy : ys[k2]? = some y)
    (hQ : ∀ h', ZipS h' z TI TO → (∃ x y, IsPair h' TO x y) → h'.IsListIter i1 l1 (k1 + 1) → h'.IsListIter i2 l2 (k2 + 1) → IsPair h' s.heap.objs.size x y → h'.objs.size = s.heap.objs.size + 1 →
      (∀ c o, c ≠ z → c ≠ TO → c ≠ i1 → c ≠ i2 → s.heap.get? c = some o → h'.get? c = some o) → Q (.ref s.heap.objs.size) { s with heap := h' }) :
    wpAny (model prog w) A (Builtin.SmallTypes.nextOf (.ref z)) Q E s := by
  obtain ⟨f0, f1, hz, hf⟩ := hz
  have hTy : s.TypeIs (.ref z) "zip" := ⟨_, hz, rfl⟩
  unfold Builtin.SmallTypes.nextOf
  have fin : ∀ Q' : Value → Shared → Prop, (∀ v s', Q v s' → Q' v s') → wpAny (model prog w) A.in1 (Builtin.«zip.__next__» ⟨[.ref z], []⟩) (fun fin s' => ∃ v, fin = .done (.ret v) ∧ Q' v s') E s := by
    intro Q' hQ'
    rcases hf with rfl | ⟨T, rfl⟩
    · exact zipnext_free D (fun h => free_none hz h) hz hTI hTO h1 h2 hl1 hl2 hx hy fun h' q1 q2 q3 q4 q5 q6 q7 => hQ' _ _ (hQ h' ⟨_, _, q1, .inr ⟨_, rfl⟩⟩ ⟨_, _, q2⟩ q3 q4 q5 q6 q7)
    · cases hT : s.heap.get? T with
      | none => exact zipnext_free D (fun h => free_gone hz hT h) hz hTI hTO h1 h2 hl1 hl2 hx hy fun h' q1 q2 q3 q4 q5 q6 q7 => hQ' _ _ (hQ h' ⟨_, _, q1, .inr ⟨_, rfl⟩⟩ ⟨_, _, q2⟩ q3 q4 q5 q6 q7)
      | some o => exact PySem.zip_next_item_held D hz hT hTI h1 h2 hl1 hl2 hx hy fun h' q1 q3 q4 q5 q6 q7 => hQ' _ _ (hQ h' ⟨_, _, q1, .inr ⟨_, rfl⟩⟩ ⟨_, _, q7 _ _ D.TOz D.TOi1 D.TOi2 hTO⟩ q3 q4 q5 q6 fun c o c1 _ c3 c4 e => q7 c o c1 c3 c4 e)
  refine wpAny_bind (wpAny_callSpecial?_slot (name := Str.ofString "__next__") hTy F.slot_zip_next
    (wpAny_call_entry F.slot_zip_next hTy F.entry_zip_next (fin _ fun v s' h => wpAny_pure h) (F.args_zip_next_1 _)))
theorem zipend_any {z TI TO i1 i2 l1 l2 : Addr} {k1 k2 : Nat} {xs ys : Array Value} {a b : Value} {Q : Value → Shared → Prop} (hh : A.handled = none) (D : ZipApart z TI TO i1 i2 l1 l2)
    (hz : ZipS s.heap z TI TO) (hTI : IsPair s.heap TI (.ref i1) (.ref i2)) (hTO : IsPair s.heap TO a b)
    (h1 : s.heap.IsListIter i1 l1 k1) (h2 : s.heap.IsListIter i2 l2 k2) (hl1 : s.heap.IsList l1 xs) (hl2 : s.heap.IsList l2 ys) (hend : xs[k1]? = none ∨ ys[k2]? = none)
    (hE : ∀ h' e, (∀ c o, c ≠ z → c ≠ TO → c ≠ i1 → c ≠ i2 → s.heap.get? c = some o → h'.get? c = some o) → (∃ o, h'.get? e = some o ∧ o.cls = .type "StopIteration") → E (.ref e) { s with heap := h' }) :
    wpAny (model prog w) A (Builtin.SmallTypes.nextOf (.ref z)) Q E s := by
  obtain ⟨f0, f1, hz, hf⟩ := hz
  have hTy : s.TypeIs (.ref z) "zip" := ⟨_, hz, rfl⟩
  unfold Builtin.SmallTypes.nextOf
  have fin : ∀ Q' : Fin → Shared → Prop, wpAny (model prog w) A.in1 (Builtin.«zip.__next__» ⟨[.ref z], []⟩) Q' E s := by
    intro Q'
    rcases hf with rfl | ⟨T, rfl⟩
    · exact zipend_free hh D (fun h => free_none hz h) hz hTI hTO h1 h2 hl1 hl2 hend hE
    · cases hT : s.heap.get? T with
      | none => exact zipend_free hh D (fun h => free_gone hz hT h) hz hTI hTO h1 h2 hl1 hl2 hend hE
      | some o => exact PySem.zip_next_end_held hh D hz hT hTI h1 h2 hl1 hl2 hend fun h' e k q => hE h' e (fun c o c1 _ c3 c4 x => k c o c1 c3 c4 x) q
  refine wpAny_bind (wpAny_callSpecial?_slot (name := Str.ofString "__next__") hTy F.slot_zip_next
    (wpAny_call_entry F.slot_zip_next hTy F.entry_zip_next (fin _) (F.args_zip_next_1 _)))
/-- the next number and item of an enumerate, its inner iterator told by what it gives -/
theorem enumnext_of {e it : Addr} {c : Int} {x old : Value} {Q : Value → Shared → Prop} {R : Heap → Prop} (he : IsEnum s.heap e it c old)
    (inner : ∀ {Q' : Value → Shared → Prop}, (∀ h₁, R h₁ → Q' x { s with heap := h₁ }) → wpAny (model prog w) A (Builtin.SmallTypes.nextOf (.ref it)) Q' E s)
    (kE : ∀ h₁, R h₁ → IsEnum h₁ e it c old)
    (hQ : ∀ h₁ h', R h₁ → IsEnumOut h' e it (c + 1) x h₁.objs.size → h'.get? h₁.objs.size = some { cls := .type "tuple", data := .seq #[.int c s.toks, x] } → h'.objs.size = h₁.objs.size + 1 →
      (∀ b o, b ≠ e → h₁.get? b = some o → h'.get? b = some o) → Q (.ref h₁.objs.size) { s with heap := h', toks := s.toks + 1 }) :
    wpAny (model prog w) A (Builtin.«enumerate.__next__» ⟨[.ref e], []⟩) (fun fin s' => ∃ v, fin = .done (.ret v) ∧ Q v s') E s := by
  obtain ⟨hp, g, d, tk, os⟩ := s
  show wpAny _ _ (field (.ref e) 2 >>= _) _ _ _
  refine wpAny_bind (wpAny_field he rfl (x := .ref it) rfl (wpAny_bind (inner fun g1 r1 => ?_)))
  have e1 : IsEnum g1 e it c old := kE g1 r1
  show wpAny _ _ (field (.ref e) 3 >>= _) _ _ ⟨g1, g, d, tk, os⟩
  refine wpAny_bind (wpAny_field e1 rfl (x := rawInt c) rfl ?_)
  show wpAny _ _ (field (.ref e) 4 >>= _) _ _ ⟨g1, g, d, tk, os⟩
  refine wpAny_bind (wpAny_field e1 rfl (x := .none) rfl ?_)
  show wpAny _ _ (mkInt c >>= _) _ _ ⟨g1, g, d, tk, os⟩
  refine wpAny_bind (wpAny_mkInt ?_)
  show wpAny _ _ (setField (.ref e) 3 (rawInt (c + 1)) >>= _) _ _ ⟨g1, g, d, tk + 1, os⟩
  refine wpAny_bind (wpAny_setField_rec e1 (by simp) fun g2 e2 s2 => ?_)
  replace e2 : IsEnum g2 e it (c + 1) old := e2
  show wpAny _ _ (setField (.ref e) 4 .none >>= _) _ _ ⟨g2, g, d, tk + 1, os⟩
  refine wpAny_bind (wpAny_setField_rec e2 (by simp) fun g3 e3 s3 => ?_)
  replace e3 : IsEnum g3 e it (c + 1) old := e3
  show wpAny _ _ (newTuple [.int c tk, x] >>= _) _ _ ⟨g3, g, d, tk + 1, os⟩
  refine wpAny_bind (wpAny_newTuple ?_)
  have sz : g3.objs.size = g1.objs.size := by rw [s3.1, s2.1]
  have elt : e < g1.objs.size := Heap.lt_size e1
  have e4 : IsEnum (g3.push { cls := .type "tuple", data := .seq #[.int c tk, x] }) e it (c + 1) old := Heap.get?_push_of_some _ e3
  show wpAny _ _ (Builtin.SmallTypes.ownedTupleIsFree (.ref e) >>= _) _ _ ⟨_, g, d, tk + 1, os⟩
  refine wpAny_bind ?_
  unfold Builtin.SmallTypes.ownedTupleIsFree
  refine wpAny_bind (wpAny_field e4 rfl (x := .none) rfl (wpAny_pure ?_))
  simp only [if_true]
  refine wpAny_bind (wpAny_rule (wpAny_bind (wpAny_field e4 rfl (x := old) rfl (wpAny_bind (wpAny_setField_rec e4 (by simp) fun g5 e5 s5 => ?_)))))
  replace e5 : IsEnum g5 e it (c + 1) x := e5
  show wpAny _ _ (Builtin.SmallTypes.ownedTupleHandOut (.ref e) (.ref g3.objs.size) >>= _) _ _ ⟨g5, g, d, tk + 1, os⟩
  refine wpAny_bind ?_
  unfold Builtin.SmallTypes.ownedTupleHandOut
  refine wpAny_bind (wpAny_setField_rec e5 (by simp) fun g6 e6 s6 => ?_)
  replace e6 : IsEnumOut g6 e it (c + 1) x g3.objs.size := e6
  refine wpAny_setField_rec e6 (by simp) fun g7 e7 s7 => ?_
  replace e7 : IsEnumOut g7 e it (c + 1) x g3.objs.size := e7
  have up : ∀ b o, b ≠ e → (g3.push { cls := .type "tuple", data := .seq #[.int c tk, x] }).get? b = some o → g7.get? b = some o := fun b o n q => s7.extBut _ _ n (s6.extBut _ _ n (s5.extBut _ _ n q))
  have t7 : g7.get? g3.objs.size = some { cls := .type "tuple", data := .seq #[.int c tk, x] } := up _ _ (by rw [sz]; exact Nat.ne_of_gt elt) (Heap.get?_push_size _ rfl)
  have z7 : g7.objs.size = g3.objs.size + 1 := by rw [s7.1, s6.1, s5.1, Heap.size_push]
  rw [sz] at e7 t7 z7
  refine wpAny_bind (wpAny_letGo (wpAny_pure ⟨_, rfl, ?_⟩))
  rw [sz]
  exact hQ g1 g7 r1 e7 t7 z7 fun b o n q => up b o n (Heap.get?_push_of_some _ (s3.extBut _ _ n (s2.extBut _ _ n q)))
theorem enumend_of {e it : Addr} {c : Int} {old : Value} {Q : Fin → Shared → Prop} (he : IsEnum s.heap e it c old) (inner : ∀ {Q' : Value → Shared → Prop}, wpAny (model prog w) A (Builtin.SmallTypes.nextOf (.ref it)) Q' E s) :
    wpAny (model prog w) A (Builtin.«enumerate.__next__» ⟨[.ref e], []⟩) Q E s := by
  show wpAny _ _ (field (.ref e) 2 >>= _) _ _ _
  exact wpAny_bind (wpAny_field he rfl (x := .ref it) rfl (wpAny_bind inner))
end
/-! ### enumerate(zip(a, b), k) -/
/-- the lists at a and b as they stand at each turn, the items in new pairs, each in a new pair with its number -/
def Itez (K : PySem.W.Frag) (k0 : Int) (a b : Addr) : It :=
  ⟨fun i H => ∃ (xs ys : List V) (x y : V), SqL K H a xs ∧ SqL K H b ys ∧ xs[i]? = some x ∧ ys[i]? = some y,
    fun i H v H' => ∃ T U x y, v = .ref T ∧ H U = none ∧ H T = none ∧ T ≠ U ∧ H' = upd (upd H U (.tup [x, y])) T (.tup [.int (k0 + (i : Nat)), .ref U]) ∧ (∀ xs, SqL K H a xs → xs[i]? = some x) ∧ ∀ ys, SqL K H b ys → ys[i]? = some y,
    fun i H => ∃ xs ys : List V, SqL K H a xs ∧ SqL K H b ys ∧ (xs.length ≤ i ∨ ys.length ≤ i)⟩
/-- the enumerate lies apart from the zip's cells -/
structure EzApart (e z TI TO i1 i2 : Addr) : Prop where
  ez : e ≠ z
  eTI : e ≠ TI
  eTO : e ≠ TO
  ei1 : e ≠ i1
  ei2 : e ≠ i2
def EzSt (e z TI TO i1 i2 a b : Addr) (k0 : Int) (i : Nat) (h : Heap) : Prop :=
  (∃ old, IsEnum h e z (k0 + (i : Nat)) old) ∧ ZipS h z TI TO ∧ PySem.IsPair h TI (.ref i1) (.ref i2) ∧ (∃ x y, PySem.IsPair h TO x y) ∧ h.IsListIter i1 a i ∧ h.IsListIter i2 b i
theorem turn_ez {P : Program} {w : World} {K : PySem.W.Frag} {elts : List Expr} {kk : Nat} {tpos : Pos} {a b e z TI TO i1 i2 : Addr} (k0 : Int) (D : ZipApart z TI TO i1 i2 a b) (S : EzApart e z TI TO i1 i2) :
    Turn P w K (.Tuple elts kk tpos) (Itez K k0 a b) [e, z, TI, TO, i1, i2] e (EzSt e z TI TO i1 i2 a b k0) where
  mem := by simp
  obj := fun i h st c hc => by
    obtain ⟨⟨old, he⟩, ⟨f0, f1, hz, _⟩, hTI, ⟨x, y, hTO⟩, ⟨o1, e1, _, d1⟩, ⟨o2, e2, _, d2⟩⟩ := st
    have e' : c = e ∨ c = z ∨ c = TI ∨ c = TO ∨ c = i1 ∨ c = i2 := by simpa using hc
    rcases e' with q | q | q | q | q | q
    · rw [q]; exact ⟨_, he, fun v q => nomatch q⟩
    · rw [q]; exact ⟨_, hz, fun v q => nomatch q⟩
    · rw [q]; exact ⟨_, hTI, fun v q => nomatch q⟩
    · rw [q]; exact ⟨_, hTO, fun v q => nomatch q⟩
    · rw [q]; exact ⟨o1, e1, fun v q => by rw [d1] at q; cases q⟩
    · rw [q]; exact ⟨o2, e2, fun v q => by rw [d2] at q; cases q⟩
  keep := fun i h h' st k => by
    obtain ⟨⟨old, he⟩, ⟨f0, f1, hz, hf⟩, hTI, ⟨x, y, hTO⟩, h1, h2⟩ := st
    exact ⟨⟨old, k e (by simp) _ he⟩, ⟨f0, f1, k z (by simp) _ hz, hf⟩, k TI (by simp) _ hTI, ⟨x, y, k TO (by simp) _ hTO⟩, h1.at fun o q => k i1 (by simp) o q, h2.at fun o q => k i2 (by simp) o q⟩
  item := by
    intro X hP hw hK hc i pins s σ H E I hf st hg
    subst hP hw hK
    obtain ⟨⟨old, he⟩, hz, hTI, ⟨x0, y0, hTO⟩, h1, h2⟩ := st
    obtain ⟨xs, ys, x, y, hqx, hqy, hx, hy⟩ := hg
    obtain ⟨its, rv, p, _⟩ := I.list hqx
    obtain ⟨its2, rv2, p2, _⟩ := I.list hqy
    obtain ⟨u, hu, ru⟩ := rv.get hx
    obtain ⟨u2, hu2, ru2⟩ := rv2.get hy
    have lte : e < s.heap.objs.size := Heap.lt_size he
    have ltz : z < s.heap.objs.size := by obtain ⟨_, _, q, _⟩ := hz; exact Heap.lt_size q
    have ltTI : TI < s.heap.objs.size := Heap.lt_size hTI
    have ltTO : TO < s.heap.objs.size := Heap.lt_size hTO
    have lt1 : i1 < s.heap.objs.size := by obtain ⟨_, q, _⟩ := h1; exact Heap.lt_size q
    have lt2 : i2 < s.heap.objs.size := by obtain ⟨_, q, _⟩ := h2; exact Heap.lt_size q
    have all : ∀ c ∈ [e, z, TI, TO, i1, i2], c < s.heap.objs.size := fun c hcm => by
      have e' : c = e ∨ c = z ∨ c = TI ∨ c = TO ∨ c = i1 ∨ c = i2 := by simpa using hcm
      rcases e' with q | q | q | q | q | q <;> (rw [q]; assumption)
    have hT : s.TypeIs (.ref e) "enumerate" := ⟨_, he, rfl⟩
    unfold pyNext
    refine wpAny_bind (wpAny_attempt (wpAny_callSpecial?_slot (name := Str.ofString "__next__") hT PySem.F.slot_enumerate_next
      (wpAny_call_entry PySem.F.slot_enumerate_next hT PySem.F.entry_enumerate_next ?_ (PySem.F.args_enumerate_next_1 _))))
    refine enumnext_of (x := .ref s.heap.objs.size) (R := fun g => ZipS g z TI TO ∧ (∃ x y, PySem.IsPair g TO x y) ∧ g.IsListIter i1 a (i + 1) ∧ g.IsListIter i2 b (i + 1) ∧ PySem.IsPair g s.heap.objs.size u u2 ∧ g.objs.size = s.heap.objs.size + 1 ∧
      ∀ c o, c ≠ z → c ≠ TO → c ≠ i1 → c ≠ i2 → s.heap.get? c = some o → g.get? c = some o) he (fun {Q'} q => zipnext_any D hz hTI hTO h1 h2 p.isList p2.isList (x := u) (y := u2) (by simpa using hu) (by simpa using hu2) fun g a1 a2 a3 a4 a5 a6 a7 => q g ⟨a1, a2, a3, a4, a5, a6, a7⟩)
      (fun g r => r.2.2.2.2.2.2 _ _ S.ez S.eTO S.ei1 S.ei2 he) fun g g' r oe tT sz k => ?_
    obtain ⟨gz, ⟨x1, y1, gTO⟩, g1, g2, gU, gs, gk⟩ := r
    refine wpAny_pure ⟨_, rfl, wpAny_letOwnedTupleGo_enum (s := { s with heap := g', toks := s.toks + 1 }) oe fun h'' he' sb => ?_⟩
    have ge : e ≠ g.objs.size := by rw [gs]; exact Nat.ne_of_lt (Nat.lt_succ_of_lt lte)
    have eU : e ≠ s.heap.objs.size := Nat.ne_of_lt lte
    have UT : s.heap.objs.size ≠ g.objs.size := by rw [gs]; exact Nat.ne_of_lt (Nat.lt_succ_self _)
    have kk : ∀ c o, c ≠ e → g.get? c = some o → h''.get? c = some o := fun c o n q => (sb.2 c n).trans (k c o n q)
    have kall : ∀ c o, c ∉ [e, z, TI, TO, i1, i2] → s.heap.get? c = some o → h''.get? c = some o := fun c o hn q => kk c o (fun q' => hn (by simp [q'])) (gk c o (fun q' => hn (by simp [q'])) (fun q' => hn (by simp [q'])) (fun q' => hn (by simp [q'])) (fun q' => hn (by simp [q'])) q)
    have hU2 : PySem.IsPair h'' s.heap.objs.size u u2 := kk _ _ eU.symm gU
    have hT2 : h''.get? g.objs.size = some { cls := .type "tuple", data := .seq #[.int (k0 + (i : Nat)) s.toks, .ref s.heap.objs.size] } := (sb.2 _ ge.symm).trans tT
    have fU : H s.heap.objs.size = none := I.hok.fresh (Nat.le_refl _)
    have newU : ObjOk X.prog X.w (upd H s.heap.objs.size (.tup [x, y])) g s.heap.objs.size (.tup [x, y]) :=
      ⟨by show 2 ≤ sizeLine; decide, [u, u2], .cons ru (.cons ru2 .nil), ⟨_, gU, rfl, _, rfl⟩⟩
    have I1 : Inv X pins σ (upd H s.heap.objs.size (.tup [x, y])) { s with heap := g, toks := s.toks } := I.turnedNew (ch := [e, z, TI, TO, i1, i2]) (fun c o hn q => gk c o (fun q' => hn (by simp [q'])) (fun q' => hn (by simp [q'])) (fun q' => hn (by simp [q'])) (fun q' => hn (by simp [q'])) q) hf (Nat.le_refl _) newU
    have hf1 : ∀ c ∈ [e, z, TI, TO, i1, i2], FpOk X pins (upd H s.heap.objs.size (.tup [x, y])) c := fun c hcm => ⟨by rw [upd_ne (Nat.ne_of_lt (all c hcm))]; exact (hf c hcm).1, (hf c hcm).2⟩
    have fT : H g.objs.size = none := I.hok.fresh (by rw [gs]; exact Nat.le_succ _)
    have fT1 : upd H s.heap.objs.size (.tup [x, y]) g.objs.size = none := by rw [upd_ne UT.symm]; exact fT
    have newT : ObjOk X.prog X.w (upd (upd H s.heap.objs.size (.tup [x, y])) g.objs.size (.tup [.int (k0 + (i : Nat)), .ref s.heap.objs.size])) h'' g.objs.size (.tup [.int (k0 + (i : Nat)), .ref s.heap.objs.size]) :=
      ⟨by show 2 ≤ sizeLine; decide, [.int (k0 + (i : Nat)) s.toks, .ref s.heap.objs.size], .cons ⟨_, rfl⟩ (.cons rfl .nil), ⟨_, hT2, rfl, _, rfl⟩⟩
    have I2 : Inv X pins σ (upd (upd H s.heap.objs.size (.tup [x, y])) g.objs.size (.tup [.int (k0 + (i : Nat)), .ref s.heap.objs.size])) { s with heap := h'', toks := s.toks + 1 } :=
      I1.turnedNew (ch := [e, z, TI, TO, i1, i2]) (fun c o hn q => kk c o (fun q' => hn (by simp [q'])) q) hf1 (Nat.le_refl _) newT
    refine ⟨.ref g.objs.size, _, I2, rfl, ⟨_, _, x, y, rfl, fU, fT, UT.symm, rfl, fun l hl => by rw [I.list_inj hl hqx]; exact hx, fun l hl => by rw [I.list_inj hl hqy]; exact hy⟩, ⟨⟨.ref s.heap.objs.size, ?_⟩, ?_, ?_, ⟨x1, y1, ?_⟩, ?_, ?_⟩, fun c hcm => ?_⟩
    · have q : k0 + ((i + 1 : Nat) : Int) = k0 + (i : Nat) + 1 := by omega
      rw [q]; exact he'
    · obtain ⟨f0, f1, q, r⟩ := gz
      exact ⟨f0, f1, kk _ _ S.ez.symm q, r⟩
    · exact kk _ _ S.eTI.symm (gk _ _ D.TIz D.TITO D.TIi1 D.TIi2 hTI)
    · exact kk _ _ S.eTO.symm gTO
    · exact g1.at fun o q => kk _ o S.ei1.symm q
    · exact g2.at fun o q => kk _ o S.ei2.symm q
    · have lt := all c hcm
      rw [upd_ne (Nat.ne_of_lt (by rw [gs]; exact Nat.lt_succ_of_lt lt)), upd_ne (Nat.ne_of_lt lt)]
      exact (hf c hcm).1
  done := by
    intro X hP hw hK hc i pins s σ H E I hf st hg
    subst hP hw hK
    obtain ⟨⟨old, he⟩, hz, hTI, ⟨x0, y0, hTO⟩, h1, h2⟩ := st
    obtain ⟨xs, ys, hqx, hqy, hend⟩ := hg
    obtain ⟨its, rv, p, _⟩ := I.list hqx
    obtain ⟨its2, rv2, p2, _⟩ := I.list hqy
    have l1 := rv.length
    have l2 := rv2.length
    have hn : its.toArray[i]? = none ∨ its2.toArray[i]? = none := by
      rcases hend with q | q
      · exact .inl (by simp; omega)
      · exact .inr (by simp; omega)
    have hT : s.TypeIs (.ref e) "enumerate" := ⟨_, he, rfl⟩
    unfold pyNext
    refine wpAny_bind (wpAny_attempt (wpAny_callSpecial?_slot (name := Str.ofString "__next__") hT PySem.F.slot_enumerate_next
      (wpAny_call_entry PySem.F.slot_enumerate_next hT PySem.F.entry_enumerate_next (enumend_of he fun {Q'} => zipend_any (I.ok.hd hc) D hz hTI hTO h1 h2 p.isList p2.isList hn fun h' x k hx => ?_) (PySem.F.args_enumerate_next_1 _))))
    obtain ⟨o, ho, hcl⟩ := hx
    refine wpAny_bind (wpAny_isInstance (T := "StopIteration") (b := true) ⟨o, ho, hcl⟩ isSubtype_stop ?_)
    exact wpAny_pure ⟨rfl, I.turnedL (t' := s.toks) (ch := [e, z, TI, TO, i1, i2]) (fun c o hb q => k c o (fun q' => hb (by simp [q'])) (fun q' => hb (by simp [q'])) (fun q' => hb (by simp [q'])) (fun q' => hb (by simp [q'])) q) hf⟩
  self := fun A i s Q E st h => let ⟨⟨_, he⟩, _⟩ := st; wpAny_pyIter_enum he h
/-- enumerate(z, k), z a zip: one new cell -/
theorem meets_ez {z TI TO : Addr} (k : Int) (t : Tok) (hfit : Builtin.SmallTypes.fitsIndex k = true) :
    Meets (Builtin.«enumerate.__new__» ⟨[.type "enumerate", .ref z, .int k t], []⟩) (fun _ R s => PySem.IsZip s.heap z TI TO .none ∧
      R (.ok (.ret (.ref s.heap.objs.size))) { s with heap := s.heap.push { cls := .type "enumerate", data := .fields #[.none, .bool false, .ref z, rawInt k, .none, .none] } }) :=
  .of_wp fun prog w A R s h => by
    obtain ⟨hp, g, d, tk, os⟩ := s; obtain ⟨h1, h⟩ := h
    have hsub := sub_enumerate
    have hnf : (!Builtin.SmallTypes.fitsIndex k) = false := by rw [hfit]; rfl
    have q1 : ∀ {A' : Around} {E : Value → Shared → Prop} {Q : Value → Shared → Prop}, Q (.ref z) ⟨hp, g, d, tk, os⟩ → wpAny (model prog w) A' (pyIter (.ref z)) Q E ⟨hp, g, d, tk, os⟩ :=
      fun q => wpAny_pyIter_zip h1 q
    wp_walk using q1
    refine wpAny_stack_any fun st => wpAny_pure ?_
    split
    · rename_i c _ _ _ _ _
      cases (c == Value.type "enumerate")
      · wp_walk using q1
        exact ⟨_, rfl, h⟩
      · wp_walk using q1
        exact ⟨_, rfl, h⟩
    · wp_walk using q1
      exact ⟨_, rfl, h⟩
theorem ez_begins {prog : Program} {w : World} {A : Around} {E : Value → Shared → Prop} {s : Shared} {z TI TO : Addr} {k : Int} {t : Tok} {Q : Value → Shared → Prop} (hz : PySem.IsZip s.heap z TI TO .none) (hk0 : -(2 ^ 63) ≤ k) (hk1 : k < 2 ^ 63)
    (h : ∀ h', IsEnum h' s.heap.objs.size z k .none → (∀ b o, s.heap.get? b = some o → h'.get? b = some o) → Q (.ref s.heap.objs.size) { s with heap := h' }) :
    wpAny (model prog w) A (call (.type "enumerate") [.ref z, .int k t]) Q E s := by
  refine callType_new PySem.F.called_enumerate (by decide) (PySem.F.typeCall_enumerate_2 _ _) (PySem.F.newCall_enumerate_2 _ _) (fun obj => PySem.F.args_object_init_3 obj _ _) PySem.F.entry_enumerate_new
    (meets_ez k t (fits_start hk0 hk1)) ⟨hz, ?_⟩
  have he : IsEnum (s.heap.push { cls := .type "enumerate", data := .fields #[.none, .bool false, .ref z, rawInt k, .none, .none] }) s.heap.objs.size z k .none := Heap.get?_push_size _ rfl
  exact ⟨⟨_, he, rfl⟩, h _ he fun b o x => Heap.get?_push_of_some _ x⟩
def iEnumZip (K : PySem.W.Frag) (k : Int) (ta : TA) : TI := fun σ H R => ta σ H fun vs H1 => ∃ a b xs ys, vs = [.ref a, .ref b] ∧ SqL K H1 a xs ∧ SqL K H1 b ys ∧ R (Itez K k a b) H1
theorem pi_enumzip {X : Cx} {e e2 : Expr} {ta : TA} {p p2 p3 pos pos2 tpos : Pos} {elts : List Expr} {kk j : Nat} {k : Int} (hg : Gl X "enumerate") (hm : X.mg "enumerate" = none) (hg2 : Gl X "zip") (hm2 : X.mg "zip" = none) (ha : PA X [e, e2] ta) (hk0 : -(2 ^ 63) ≤ k := by decide) (hk1 : k < 2 ^ 63 := by decide)
    (hs : starEach [e, e2] X.env = (false, eval e X.env) :: starEach [e2] X.env := by rfl) (hpl : (backTo pos2 (starEach [e2] X.env)).any (·.1) = false := by rfl)
    (hs2 : starEach [.Call (.Name "zip" p2) [e, e2] [] pos2, .Constant (.int k) j p3] X.env = (false, eval (.Call (.Name "zip" p2) [e, e2] [] pos2) X.env) :: starEach [.Constant (.int k) j p3] X.env := by rfl)
    (hpl2 : (backTo pos (starEach [.Constant (.int k) j p3] X.env)).any (·.1) = false := by rfl) :
    PI X (.Tuple elts kk tpos) (.Call (.Name "enumerate" p) [.Call (.Name "zip" p2) [e, e2] [] pos2, .Constant (.int k) j p3] [] pos) (iEnumZip X.K k ta) := by
  refine ⟨fun pins s σ H R I h => ?_⟩
  refine Call_ (ld_blt I hg hm boot_enumerate (PyProof.Rows.callWith_type1 ?_ hs2 hpl2))
  rw [hs2]
  show wpAny _ _ (spliced ((false, eval (.Call (.Name "zip" p2) [e, e2] [] pos2) X.env) :: backTo pos (starEach [.Constant (.int k) j p3] X.env))) _ _ s
  refine Calls.spliced_cons ?_
  refine Call_ (ld_blt I hg2 hm2 PyProof.Rows.boot_zip (PyProof.Rows.callWith_type1 (thn (ha.run pos2 pins s σ H _ I h) fun us s1 ⟨vs, H1, I1, r1, q1⟩ => ?_) hs hpl))
  obtain ⟨a, b, xs, ys, ex, hqx, hqy, q⟩ := q1
  subst ex
  cases r1 with
  | cons r rr =>
    cases rr with
    | cons r' rr =>
      cases rr
      cases r
      cases r'
      obtain ⟨its, rv, p1, _⟩ := I1.list hqx
      obtain ⟨its2, rv2, p2, _⟩ := I1.list hqy
      have la : a < s1.heap.objs.size := p1.lt
      have lb : b < s1.heap.objs.size := p2.lt
      refine call_zip_2 p1.isList p2.isList fun h' hz hTI hTO h1 h2 hsz hk => ?_
      have I2 : Inv X pins σ H1 { s1 with heap := h' } := I1.kept (t' := s1.toks) hk
      show wpAny _ _ (spliced ((false, eval (.Constant (.int k) j p3) X.env) :: backTo pos (starEach [] X.env))) _ _ _
      refine Calls.spliced_cons (wpAny_Constant_int (Calls.spliced_nil ?_))
      refine ez_begins (TI := s1.heap.objs.size + 2) (TO := s1.heap.objs.size + 3) hz hk0 hk1 fun h'' he hk' => wpAny_pyIter_enum he ?_
      have I3 : Inv X pins σ H1 { s1 with heap := h'', toks := s1.toks + 1 } := I1.kept fun c o q => hk' _ _ (hk _ _ q)
      refine ⟨_, [_, s1.heap.objs.size + 4, s1.heap.objs.size + 2, s1.heap.objs.size + 3, s1.heap.objs.size, s1.heap.objs.size + 1], _, _, H1, rfl, I3, turn_ez k (PySem.W.ktu_apart s1.heap.objs.size a b la lb) ⟨?_, ?_, ?_, ?_, ?_⟩,
        ⟨⟨.none, ?_⟩, ⟨_, _, hk' _ _ hz, .inl rfl⟩, hk' _ _ hTI, ⟨_, _, hk' _ _ hTO⟩, h1.at fun o q => hk' _ o q, h2.at fun o q => hk' _ o q⟩, fun c hcm => ?_, q⟩
      any_goals (show h'.objs.size ≠ _; rw [hsz]; exact Nat.ne_of_gt (by omega))
      · have e0 : k + ((0 : Nat) : Int) = k := by omega
        rw [e0]; exact he
      · have e' : c = h'.objs.size ∨ c = s1.heap.objs.size + 4 ∨ c = s1.heap.objs.size + 2 ∨ c = s1.heap.objs.size + 3 ∨ c = s1.heap.objs.size ∨ c = s1.heap.objs.size + 1 := by simpa using hcm
        have hle : s1.heap.objs.size ≤ c := by
          rcases e' with z | z | z | z | z | z
          · rw [z, hsz]; exact Nat.le_add_right _ _
          · rw [z]; exact Nat.le_add_right _ _
          · rw [z]; exact Nat.le_add_right _ _
          · rw [z]; exact Nat.le_add_right _ _
          · rw [z]; exact Nat.le_refl _
          · rw [z]; exact Nat.le_add_right _ _
        exact I1.fpOk hle (I1.hok.fresh hle)
end KX

namespace KX
open PySem PySem.Spec PyProof.Rows L2
/-! ### walks that may lay new pairs: n turns, what comes at turn i is told by R -/
structure Wq (J : It) (n : Nat) (G : Hp → Prop) (R : Nat → V → Hp → Prop) : Prop where
  go : ∀ i H, G H → i < n → J.go i H
  yl : ∀ i H x H', G H → J.yld i H x H' → i < n → Same H H' ∧ R i x H'
  st : ∀ H, G H → J.stop n H
theorem Wk.q {J : It} {xs : List V} {G : Hp → Prop} (W : Wk J xs G) : Wq J xs.length G fun i x _ => xs[i]? = some x :=
  ⟨W.go, fun i H x H' g y h => by obtain ⟨e, k⟩ := W.yl i H x H' g y h; subst e; exact ⟨Same.refl _, k⟩, fun H g => W.st _ H g (Nat.le_refl _)⟩
/-- a pair at its address -/
def PairAt (f g : Nat → Option V) : Nat → V → Hp → Prop := fun i v H => ∃ T x y, v = .ref T ∧ H T = some (.tup [x, y]) ∧ f i = some x ∧ g i = some y
theorem wq_enum {K : PySem.W.Frag} {a : Addr} {xs : List V} : Wq (Ite K a) xs.length (fun H => SqL K H a xs) (PairAt (fun i => some (.int (i : Nat))) (fun i => xs[i]?)) := by
  have W := walk_enum (K := K) (a := a) (xs := xs)
  refine ⟨fun i H g h => W.goes i H h g, fun i H x H' g y h => ?_, fun H g => W.stops H g⟩
  obtain ⟨T, u, v, e, n, e2, h1, h2⟩ := W.yields i H x H' h g y
  subst e2
  exact ⟨same_new n, T, u, v, e, upd_same, h1, h2⟩
theorem wq_zip {K : PySem.W.Frag} {a b : Addr} {xs ys : List V} {n : Nat} (hn : n = min xs.length ys.length) : Wq (Itz K a b) n (fun H => SqL K H a xs ∧ SqL K H b ys) (PairAt (fun i => xs[i]?) (fun i => ys[i]?)) := by
  have W := walk_zip (K := K) (a := a) (b := b) (xs := xs) (ys := ys) hn
  refine ⟨fun i H g h => W.goes i H h g, fun i H x H' g y h => ?_, fun H g => W.stops H g⟩
  obtain ⟨T, u, v, e, n, e2, h1, h2⟩ := W.yields i H x H' h g y
  subst e2
  exact ⟨same_new n, T, u, v, e, upd_same, h1, h2⟩
def PairAt2 (k0 : Int) (f g : Nat → Option V) : Nat → V → Hp → Prop := fun i v H => ∃ T U x y, v = .ref T ∧ H T = some (.tup [.int (k0 + (i : Nat)), .ref U]) ∧ H U = some (.tup [x, y]) ∧ f i = some x ∧ g i = some y
theorem wq_ez {K : PySem.W.Frag} {k0 : Int} {a b : Addr} {xs ys : List V} {n : Nat} (hn : n = min xs.length ys.length) : Wq (Itez K k0 a b) n (fun H => SqL K H a xs ∧ SqL K H b ys) (PairAt2 k0 (fun i => xs[i]?) (fun i => ys[i]?)) := by
  subst hn
  refine ⟨fun i H g h => ?_, fun i H v H' g y h => ?_, fun H g => ⟨xs, ys, g.1, g.2, by omega⟩⟩
  · have h1 : i < xs.length := by omega
    have h2 : i < ys.length := by omega
    exact ⟨xs, ys, xs[i], ys[i], g.1, g.2, by simp [h1], by simp [h2]⟩
  · obtain ⟨T, U, x, z, e, hU, hT, ne, eH, k1, k2⟩ := y
    subst eH
    have n1 : upd H U (.tup [x, z]) T = none := by rw [upd_ne ne]; exact hT
    exact ⟨(same_new hU).trans (same_new n1), T, U, x, z, e, upd_same, by rw [upd_ne ne.symm]; exact upd_same, k1 xs g.1, k2 ys g.2⟩
theorem f_wq {J : It} {n : Nat} {G : Hp → Prop} {R : Nat → V → Hp → Prop} (W : Wq J n G R) {g : TG} {tb : TS} {f b k : L2.St → Hp → Prop} {Q : VK} {σ : L2.St} {H : Hp} (Pv : Nat → L2.St → Hp → Prop) (h0 : Pv 0 σ H) (hG : ∀ i σ H, Pv i σ H → G H)
    (hs : ∀ i x σ H H', i < n → Pv i σ H → Same H H' → R i x H' → g x σ H' fun σ2 H2 => tb ⟨Pv (i + 1), Q, f, Pv (i + 1)⟩ σ2 H2) (hd : ∀ σ H, Pv n σ H → f σ H) : ForR J g tb ⟨f, Q, b, k⟩ σ H := by
  refine ⟨fun i m σ H => m = n - i ∧ i ≤ n ∧ Pv i σ H, ⟨n, by simp, Nat.zero_le _, h0⟩, ?_⟩
  rintro i m σ H ⟨rfl, hi, p⟩
  by_cases hlt : i < n
  · refine .inr ⟨W.go i H (hG _ _ _ p) hlt, Pv (i + 1), fun σ' H' p' => ⟨n - (i + 1), by omega, rfl, hlt, p'⟩, fun x H' y => ?_⟩
    obtain ⟨s, r⟩ := W.yl i H x H' (hG _ _ _ p) y hlt
    exact hs i x σ H H' hlt p s r
  · have e : i = n := by omega
    subst e
    exact .inl ⟨W.st H (hG _ _ _ p), hd σ H p⟩
theorem l_wq {J : It} {n : Nat} {G : Hp → Prop} {R : Nat → V → Hp → Prop} (W : Wq J n G R) {g : TG} {tt : TT} {te : TE} {vs : List Nat} {Q : VK} {σ : L2.St} {H1 : Hp}
    (q : ∀ D H0, H1 D = none → Same H1 H0 → H0 D = some (.lst []) → ∃ Pv : Nat → List V → Hp → Prop, Pv 0 [] H0 ∧ (∀ i ys H, Pv i ys H → G H) ∧
      (∀ i ys x H H', i < n → Pv i ys H → Same H H' → R i x H' → g x (wipe σ vs) H' fun σ2 H2 => wipe σ2 vs = wipe σ vs ∧ tt σ2 H2 fun b H3 =>
        if b = true then te σ2 H3 fun y H4 => LcEl D (Pv (i + 1)) y H4 else ∃ ys, Pv (i + 1) ys H3) ∧
      (∀ ys H, Pv n ys H → Q (.ref D) H)) : LcR J g tt te vs σ H1 Q := by
  intro D hD
  obtain ⟨Pv, h0, hG, hs, hd⟩ := q D _ hD (same_new hD) upd_same
  refine ⟨fun i m H => m = n - i ∧ i ≤ n ∧ ∃ ys, Pv i ys H, ⟨n, by simp, Nat.zero_le _, _, h0⟩, ?_⟩
  rintro i m H ⟨rfl, hi, ys, p⟩
  by_cases hlt : i < n
  · refine .inr ⟨W.go i H (hG _ _ _ p) hlt, fun H => ∃ ys, Pv (i + 1) ys H, fun H' p' => ⟨n - (i + 1), by omega, rfl, hlt, p'⟩, fun x H' y => ?_⟩
    obtain ⟨s, r⟩ := W.yl i H x H' (hG _ _ _ p) y hlt
    exact hs i ys x H H' hlt p s r
  · have e : i = n := by omega
    subst e
    exact .inl ⟨W.st H (hG _ _ _ p), hd ys H p⟩
/-- .. the test and the element change nothing of what was tracked, the elements are no new objects -/
theorem l_fq {J : It} {n : Nat} {G : Hp → Prop} {R : Nat → V → Hp → Prop} (W : Wq J n G R) {g : TG} {tt : TT} {te : TE} {vs : List Nat} {Q : VK} {σ : L2.St} {H1 : Hp} (p : Nat → Bool) (F : Nat → V) (hlen : n < sizeLine) (hG : ∀ H', Same H1 H' → G H')
    (hs : ∀ (i : Nat) x H' (S : VK) (N : Hp → Prop), i < n → R i x H' → Same H1 H' → (p i = true → ∀ H'', Same H' H'' → S (F i) H'') → (p i = false → ∀ H'', Same H' H'' → N H'') →
      g x (wipe σ vs) H' fun σ2 H2 => wipe σ2 vs = wipe σ vs ∧ tt σ2 H2 fun b H3 => if b = true then te σ2 H3 S else N H3)
    (q : ∀ D H', H1 D = none → Same H1 H' → H' D = some (.lst (((List.range n).filter p).map F)) → Q (.ref D) H') : LcR J g tt te vs σ H1 Q := by
  refine l_wq W fun D H0 n0 s0 e0 => ⟨fun i ys H => Same H1 H ∧ H D = some (.lst ys) ∧ ys = ((List.range i).filter p).map F ∧ ys.length ≤ i, ⟨s0, e0, rfl, Nat.le_refl _⟩, fun i ys H h => hG _ h.1, fun i ys x Ha H hi h sa hr => ?_, fun ys H h => ?_⟩
  · obtain ⟨s1, e1, hy, hl⟩ := h
    replace s1 := s1.trans sa
    replace e1 := sa _ _ e1
    have ht : List.range (i + 1) = List.range i ++ [i] := List.range_succ
    refine hs i x H (fun y H4 => LcEl D (fun ys H => Same H1 H ∧ H D = some (.lst ys) ∧ ys = ((List.range (i + 1)).filter p).map F ∧ ys.length ≤ i + 1) y H4) (fun H3 => ∃ ys, Same H1 H3 ∧ H3 D = some (.lst ys) ∧ ys = ((List.range (i + 1)).filter p).map F ∧ ys.length ≤ i + 1) hi hr s1 (fun hp H'' s2 => ?_) fun hp H'' s2 => ?_
    · refine i_lcEl (s2 _ _ e1) (by omega) fun H5 o5 e5 => ⟨Off.new n0 (s1.trans s2) o5, e5, ?_, by simp; omega⟩
      rw [ht, List.filter_append, List.map_append, hy]
      simp [hp]
    · refine ⟨ys, s1.trans s2, s2 _ _ e1, ?_, by omega⟩
      rw [ht, List.filter_append, List.map_append, hy]
      simp [hp]
  · obtain ⟨s1, e1, hy, hl⟩ := h
    rw [hy] at e1
    exact q D H n0 s1 e1
theorem lc_yes {g : TG} {te : TE} {x : V} {σ σ1 : L2.St} {H : Hp} {vs : List Nat} {S : VK} {N : Hp → Prop} (h : g x σ1 H fun σ2 H2 => wipe σ2 vs = wipe σ vs ∧ te σ2 H2 S) : g x σ1 H fun σ2 H2 => wipe σ2 vs = wipe σ vs ∧ tYes σ2 H2 fun b H3 => if b = true then te σ2 H3 S else N H3 := by
  have e : (fun (σ2 : L2.St) H2 => wipe σ2 vs = wipe σ vs ∧ tYes σ2 H2 fun b H3 => if b = true then te σ2 H3 S else N H3) = fun σ2 H2 => wipe σ2 vs = wipe σ vs ∧ te σ2 H2 S := by
    funext σ2 H2
    show (_ ∧ if true = true then te σ2 H2 S else N H2) = _
    rw [if_pos rfl]
  rw [e]; exact h
theorem l_mq {J : It} {n : Nat} {G : Hp → Prop} {R : Nat → V → Hp → Prop} (W : Wq J n G R) {g : TG} {te : TE} {vs : List Nat} {Q : VK} {σ : L2.St} {H1 : Hp} (F : Nat → V) (hlen : n < sizeLine) (hG : ∀ H', Same H1 H' → G H')
    (hs : ∀ (i : Nat) x H' (S : VK), i < n → R i x H' → Same H1 H' → (∀ H'', Same H' H'' → S (F i) H'') → g x (wipe σ vs) H' fun σ2 H2 => wipe σ2 vs = wipe σ vs ∧ te σ2 H2 S)
    (q : ∀ D H', H1 D = none → Same H1 H' → H' D = some (.lst ((List.range n).map F)) → Q (.ref D) H') : LcR J g tYes te vs σ H1 Q :=
  l_fq W (fun _ => true) F hlen hG (fun i x H' S N hi hr s1 hS _ => lc_yes (hs i x H' S hi hr s1 (hS rfl))) (fun D H' n0 s e => q D H' n0 s (by rw [e, List.filter_eq_self.mpr (by simp)]))
/-- .. each element is data that is laid anew -/
theorem Off.newP {D : Addr} {H0 H H' : Hp} (s : Off D H H') : Same (KX.wo D (KX.newP H0 H)) (KX.wo D (KX.newP H0 H')) := fun b o e => by
  by_cases h : b = D
  · have e' : KX.wo D (KX.newP H0 H) b = none := if_pos h
    rw [e'] at e; cases e
  · rw [wo_get h] at e ⊢
    unfold KX.newP at e ⊢
    split at e
    · next z => rw [if_pos z]; exact s _ _ h e
    · cases e
theorem l_dq {J : It} {n : Nat} {G : Hp → Prop} {R : Nat → V → Hp → Prop} {b : Bool} {K : PySem.W.Frag} (W : Wq J n G R) {g : TG} {te : TE} {vs : List Nat} {Q : VK} {σ : L2.St} {H1 : Hp} (dd : Nat → PyData) (hlen : n < sizeLine) (hG : ∀ H', Same H1 H' → G H')
    (hs : ∀ (i : Nat) x H' (S : VK) (D : Addr) (zs : List V), i < n → R i x H' → Same H1 H' → H1 D = none → H' D = some (.lst zs) → (∀ y H'', Same H' H'' → DaF b K (wo D (newP H1 H'')) y (dd i) → S y H'') → g x (wipe σ vs) H' fun σ2 H2 => wipe σ2 vs = wipe σ vs ∧ te σ2 H2 S)
    (q : ∀ D H' ys, H1 D = none → Same H1 H' → H' D = some (.lst ys) → DaAllF b K (wo D (newP H1 H')) ys ((List.range n).map dd) → Q (.ref D) H') : LcR J g tYes te vs σ H1 Q := by
  refine l_wq W fun D H0 n0 s0 e0 => ⟨fun i ys H => Same H1 H ∧ H D = some (.lst ys) ∧ DaAllF b K (wo D (newP H1 H)) ys ((List.range i).map dd), ⟨s0, e0, .nil⟩, fun i ys H h => hG _ h.1, fun i ys x Ha H hi h sa hr => lc_yes ?_, fun ys H h => q D H ys n0 h.1 h.2.1 h.2.2⟩
  obtain ⟨s1, e1, hy⟩ := h
  replace s1 := s1.trans sa
  replace e1 := sa _ _ e1
  replace hy := hy.same (Off.newP (.of_same sa))
  refine hs i x H (fun y H4 => LcEl D (fun ys H => Same H1 H ∧ H D = some (.lst ys) ∧ DaAllF b K (wo D (newP H1 H)) ys ((List.range (i + 1)).map dd)) y H4) D ys hi hr s1 n0 e1 fun y H'' s2 hd => ?_
  have ll : ys.length = i := by rw [hy.len]; simp
  refine i_lcEl (s2 _ _ e1) (by omega) fun H5 o5 e5 => ⟨Off.new n0 (s1.trans s2) o5, e5, ?_⟩
  rw [List.range_succ, List.map_append]
  exact ((hy.same (Off.newP (.of_same s2))).same (Off.newP o5)).app (.cons (hd.same (Off.newP o5)) .nil)
/-- .. the test or the element draws -/
theorem l_rq {J : It} {n : Nat} {G : Hp → Prop} {R : Nat → V → Hp → Prop} (W : Wq J n G R) {g : TG} {tt : TT} {te : TE} {vs : List Nat} {Q : VK} {σ : L2.St} {H1 : Hp} (r : Addr) (ok : V → Prop) (hlen : n < sizeLine) (h0 : Rok H1 r) (hG : ∀ H', Off r H1 H' → G H')
    (hs : ∀ (i : Nat) x H' (S : VK) (N : Hp → Prop), i < n → R i x H' → Off r H1 H' → Rok H' r → (∀ y H'', ok y → Off r H' H'' → Rok H'' r → S y H'') → (∀ H'', Off r H' H'' → Rok H'' r → N H'') →
      g x (wipe σ vs) H' fun σ2 H2 => wipe σ2 vs = wipe σ vs ∧ tt σ2 H2 fun b H3 => if b = true then te σ2 H3 S else N H3)
    (q : ∀ D H' ys, H1 D = none → D ≠ r → Off r H1 H' → Rok H' r → H' D = some (.lst ys) → ys.length ≤ n → (∀ y ∈ ys, ok y) → Q (.ref D) H') : LcR J g tt te vs σ H1 Q := by
  refine l_wq W fun D H0 n0 s0 e0 => ⟨fun i ys H => Off r H1 H ∧ Rok H r ∧ H D = some (.lst ys) ∧ ys.length ≤ i ∧ ∀ y ∈ ys, ok y, ⟨.of_same s0, h0.same s0, e0, Nat.le_refl _, fun y h => by cases h⟩, fun i ys H h => hG _ h.1, fun i ys x Ha H hi h sa hr => ?_, fun ys H h => q D H ys n0 (h0.ne n0) h.1 h.2.1 h.2.2.1 h.2.2.2.1 h.2.2.2.2⟩
  obtain ⟨o1, r1, e1, hl, hy⟩ := h
  have hDr : D ≠ r := h0.ne n0
  replace o1 := o1.trans (.of_same sa)
  replace r1 := r1.same sa
  replace e1 := sa _ _ e1
  refine hs i x H (fun y H4 => LcEl D (fun ys H => Off r H1 H ∧ Rok H r ∧ H D = some (.lst ys) ∧ ys.length ≤ i + 1 ∧ ∀ y ∈ ys, ok y) y H4) (fun H3 => ∃ ys, Off r H1 H3 ∧ Rok H3 r ∧ H3 D = some (.lst ys) ∧ ys.length ≤ i + 1 ∧ ∀ y ∈ ys, ok y) hi hr o1 r1 (fun y H'' hk o2 r2 => ?_) fun H'' o2 r2 => ?_
  · refine i_lcEl (Off.get o2 hDr e1) (by omega) fun H5 o5 e5 => ⟨Off.thenF o5 n0 (Off.refl _ _) (o1.trans o2), r2.off o5 hDr.symm, e5, by simp; omega, fun z hz => ?_⟩
    rcases List.mem_append.mp hz with hz | hz
    · exact hy z hz
    · rw [List.mem_singleton.mp hz]; exact hk
  · exact ⟨ys, o1.trans o2, r2, Off.get o2 hDr e1, by omega, hy⟩
/-! ### readings -/
section
variable {K : PySem.W.Frag} {σ : L2.St} {H : Hp} {Q : VK}
theorem i_iEnum {ta : TA} {R : It → Hp → Prop} (q : ta σ H fun vs H1 => ∃ a xs, vs = [.ref a] ∧ SqL K H1 a xs ∧ R (Ite K a) H1) : iEnum K ta σ H R := q
theorem i_exen {p : Addr} {xs : List V} {F : Addr → Prop} (h : SqL K H p xs) (q : F p) : ∃ a xs, [V.ref p] = [.ref a] ∧ SqL K H a xs ∧ F a := ⟨p, xs, rfl, h, q⟩
theorem i_iZip {ta : TA} {R : It → Hp → Prop} (q : ta σ H fun vs H1 => ∃ a b xs ys, vs = [.ref a, .ref b] ∧ SqL K H1 a xs ∧ SqL K H1 b ys ∧ R (Itz K a b) H1) : iZip K ta σ H R := q
theorem i_exz {p r : Addr} {xs ys : List V} {F : Addr → Addr → Prop} (h : SqL K H p xs) (k : SqL K H r ys) (q : F p r) : ∃ a b xs ys, [V.ref p, V.ref r] = [.ref a, .ref b] ∧ SqL K H a xs ∧ SqL K H b ys ∧ F a b := ⟨p, r, xs, ys, rfl, h, k, q⟩
theorem i_ez {k0 : Int} {ta : TA} {R : It → Hp → Prop} (q : ta σ H fun vs H1 => ∃ a b xs ys, vs = [.ref a, .ref b] ∧ SqL K H1 a xs ∧ SqL K H1 b ys ∧ R (Itez K k0 a b) H1) : iEnumZip K k0 ta σ H R := q
/-- list(xs), xs a list -/
def rListN (K : PySem.W.Frag) : List V → Hp → VK → Prop := fun xs H Q => ∃ p ys, xs = [.ref p] ∧ SqL K H p ys ∧ NewR H (.lst ys) Q
theorem call_listN {X : Cx} : CallR X (.type "list") (rListN X.K) := fun pins s σ H xs us Q I r ⟨p, ys, e, h, q⟩ => call_list_of pins s σ H xs us Q I r ⟨p, ys, e, .inl h, q⟩
theorem i_listN {p : Addr} {ys : List V} (h : SqL K H p ys) (q : NewR H (.lst ys) Q) : rListN K [.ref p] H Q := ⟨p, ys, rfl, h, q⟩
/-- int(b), b a bool -/
def rIntB : List V → Hp → VK → Prop := fun xs H Q => ∃ k, xs = [.bl k] ∧ Q (.int (if k then 1 else 0)) H
theorem call_intB {X : Cx} : CallR X (.type "int") rIntB := fun pins s σ H xs us Q I r h => call_int1 pins s σ H xs us Q I r (.inr h)
theorem i_intB {k : Bool} (q : Q (.int (if k then 1 else 0)) H) : rIntB [.bl k] H Q := ⟨k, rfl, q⟩
theorem i_tyL {p : Addr} {xs : List V} {B : Prop} (h : SqL K H p xs) (q : B) : tyV K "list" (.ref p) H ∧ B := ⟨.inl ⟨rfl, xs, h⟩, q⟩
theorem i_isBl {a b : Bool} (q : Q (.bl (decide (a = b))) H) : rIsB (.bl a) (.bl b) H Q := ⟨a, b, rfl, rfl, q⟩
end
/-! ### rules within a comprehension: the written part by its own name -/
section
variable {X : Cx} {K : PySem.W.Frag}
theorem ix_tupK (h : X.K = K) : IxR X (rIxT K) := h ▸ ix_tup
theorem ix_listK (h : X.K = K) : IxR X (rIxL K) := h ▸ ix_list
theorem call_lenNK (h : X.K = K) : CallR X (.builtin "len") (rLen K) := h ▸ call_lenN
theorem call_reprNK (h : X.K = K) (hr : Rg 1 X.A) : CallR X (.builtin "repr") (rRepr K) := h ▸ call_reprN hr
theorem call_isiDK (h : X.K = K) : CallR X (.builtin "isinstance") (rIsiD K) := h ▸ call_isiD
theorem op_neDK (h : X.K = K) (hu : X.A.units + 64 < cLine) : OpR X (compareOp .NotEq) (rNeD K) := h ▸ op_neD hu
theorem op_eqDK (h : X.K = K) (hu : X.A.units + 64 < cLine) : OpR X (compareOp .Eq) (rEqD K) := h ▸ op_eqD hu
theorem lit_peK {e : Expr} {d : PyData} (h : X.K = K) (l : Lit e d) : PE X e (tLit K d) := h ▸ l.pe
end
/-! ### calls by keywords alone -/
def pmL {α : Type} (pm : List Nat) (l : List α) : List α := pm.filterMap (l[·]?)
theorem vals_get {vs : List V} {us : List Value} (r : Vals vs us) : ∀ i : Nat, (vs[i]? = none ∧ us[i]? = none) ∨ ∃ x u, vs[i]? = some x ∧ us[i]? = some u ∧ RelV x u := by
  induction r with
  | nil => exact fun i => .inl ⟨rfl, rfl⟩
  | cons r _ ih => exact fun i => match i with
    | 0 => .inr ⟨_, _, rfl, rfl, r⟩
    | i + 1 => ih i
theorem pmL_vals {vs : List V} {us : List Value} (r : Vals vs us) : ∀ pm : List Nat, Vals (pmL pm vs) (pmL pm us)
  | [] => .nil
  | i :: pm => by
    have ih := pmL_vals r pm
    unfold pmL at ih ⊢
    rcases vals_get r i with ⟨h1, h2⟩ | ⟨x, u, h1, h2, h3⟩
    · rw [List.filterMap_cons, List.filterMap_cons, h1, h2]; exact ih
    · rw [List.filterMap_cons, List.filterMap_cons, h1, h2]; exact .cons h3 ih
structure KB0 (K : PySem.W.Frag) (fd : FuncData) (ps ks : List Str) (pm : List Nat) : Prop where
  to : ∀ (s : Shared) (ws : List Value), K.In s.heap → ws.length = ks.length → BindsTo s fd ⟨[], ks.zip ws⟩ (ps.zip (pmL pm ws))
theorem _root_.L2.Fun.kb0 {K : PySem.W.Frag} {x qual : Str} {st : Stmt} {f : Addr} {fd : FuncData} {ps ks : List Str} {pm : List Nat} (F : Fun K x qual st f fd)
    (h : ∀ (kV doc pm' : Value) (an : Option Addr) (cdv ct : Value) (ws : List Value), ws.length = ks.length → bindArgs (PySem.W.fnOf x qual (defArgs st) (defBody st) (defScope st) .none kV doc pm' an cdv ct) ⟨[], ks.zip ws⟩ = pure (ps.zip (pmL pm ws))) : KB0 K fd ps ks pm := by
  obtain ⟨oc, od, kV, doc, pm', an, cdv, ct, osl, rfl, lk, hcd⟩ := F.ex
  exact ⟨fun s ws _ hl => .of_eq (h kV doc pm' an cdv ct ws hl)⟩
def tCallW (sp : Sp) (n : Nat) (pm : List Nat) (E : XK) (tk : TA) : TE := fun σ H Q => tk σ H fun zs H2 => zs.length = n ∧ sp (pmL pm zs) H2 Q E
theorem pe_callW {X : Cx} {CX : CXT} {k : Nat} {f : Addr} {fd : FuncData} {ps ks : List Str} {sp : Sp} {E : XK} {x : Str} {p pos : Pos} {kws : List Keyword} {tk : TA} {pm : List Nat}
    (F : FnOk X.prog X.w X.K X.mg X.base CX k f fd ps sp) (hr : Room k X.A) (hg : Gl X x) (hm : X.mg x = some (.ref f)) (hk : PySem.W.keepIn X.K (.ref f) = true) (hb : KB0 X.K fd ps ks pm) (hx : Passes CX X E) (hkw : PK X kws tk)
    (hall : (backToKw pos (keywordEach kws X.env)).all (·.1.isSome) = true := by rfl) (hks : (backToKw pos (keywordEach kws X.env)).filterMap (·.1) = ks := by rfl) (hdb : (x == ("__debug__" : Str)) = false := by decide)
    (hpl : ((backTo pos (starEach [] X.env)).any (·.1) || (backToKw pos (keywordEach kws X.env)).any (·.1.isNone)) = false := by rfl) :
    PE X (.Call (.Name x p) [] kws pos) (tCallW sp ks.length pm E tk) := by
  refine ⟨fun pins s σ H Q I h => ?_⟩
  refine wpAny_Call_Name_kw (ld_glob I hg hm ?_ hdb)
  refine PySem.W.callWith_KW0 (h₀ := X.base) I.ok.mod.kin hk hall ?_ hpl
  refine thn (hkw.run pos pins s σ H _ I h) fun ws s2 ⟨zs, H2, I2, rz, lz, q2⟩ => ⟨I2.kIn, ?_⟩
  rw [hks]
  have r2 := pmL_vals rz pm
  have hl : (pmL pm ws).length = ps.length := by rw [← r2.length]; exact F.len _ _ _ _ q2
  refine wpAny_call (codeAny_mono (F.run X.A X.stack s2 H2 ⟨[], ks.zip ws⟩ (pmL pm ws) (pmL pm zs) Q E hr I2.env0 (hb.to s2 ws I2.kIn (by rw [← rz.length]; exact lz)) r2 q2) fun r s' hq => ?_)
  cases r with
  | error e => exact hx pins σ H2 s2 e s' I2 hq
  | ok fl =>
    cases fl with
    | ret u => exact I2.after hq
    | next => exact False.elim hq
    | brk => exact False.elim hq
    | cont => exact False.elim hq
theorem i_callW {sp : Sp} {n : Nat} {pm : List Nat} {E : XK} {tk : TA} {σ : L2.St} {H : Hp} {Q : VK} (q : tk σ H fun zs H2 => zs.length = n ∧ sp (pmL pm zs) H2 Q E) : tCallW sp n pm E tk σ H Q := q
end KX

namespace KX
open PySem PySem.Spec PyProof.Rows L2
/-! ### lists of windows -/
theorem da_list {b : Bool} {K : PySem.W.Frag} {H : Hp} {v : V} {d : PyData} (h : DaF b K H v d) (e : isi d "list" = true) : ∃ a xs ds, v = .ref a ∧ d = .list ds ∧ SqL K H a xs ∧ DaAllF b K H xs ds := by
  cases h with
  | lst hq _ ha => exact ⟨_, _, _, rfl, rfl, hq, ha⟩
  | _ => cases e
theorem da_get {b : Bool} {K : PySem.W.Frag} {H : Hp} : ∀ {xs : List V} {ds : List PyData}, DaAllF b K H xs ds → ∀ {i : Nat} {x : V}, xs[i]? = some x → ∃ d, ds[i]? = some d ∧ DaF b K H x d
  | _, _, .nil, i, x, h => by simp at h
  | _, _, .cons h r, 0, x, e => by cases e; exact ⟨_, rfl, h⟩
  | _, _, .cons h r, i + 1, x, e => da_get r (by simpa using e)
/-- the position of the first one that is no window, None for what is no list -/
def badV : PyData → Option V
  | .list ds => (ds.findIdx? fun d => !winB d).map fun i => .int (i : Nat)
  | _ => some .non
theorem badV_not {d : PyData} (h : isi d "list" = false) : badV d = some .non := by
  cases d <;> first | rfl | cases h
theorem badV_none {ds : List PyData} (h : ∀ d ∈ ds, winB d = true) : badV (.list ds) = none := by
  show (ds.findIdx? fun d => !winB d).map (fun i => V.int (i : Nat)) = none
  rw [List.findIdx?_eq_none_iff.mpr fun d hd => by rw [h d hd]; rfl]; rfl
theorem badV_at {ds : List PyData} {i : Nat} {d : PyData} (hj : ∀ j, j < i → ∀ d, ds[j]? = some d → winB d = true) (hd : ds[i]? = some d) (h : winB d = false) : badV (.list ds) = some (.int i) := by
  obtain ⟨hi, e⟩ := List.getElem?_eq_some_iff.mp hd
  have : ds.findIdx? (fun d => !winB d) = some i := by
    rw [List.findIdx?_eq_some_iff_getElem]
    refine ⟨hi, by rw [e, h]; rfl, fun j hji => ?_⟩
    have hl : j < ds.length := Nat.lt_trans hji hi
    rw [hj j hji _ (List.getElem?_eq_getElem hl)]; decide
  show (ds.findIdx? fun d => !winB d).map (fun i => V.int (i : Nat)) = _
  rw [this]; rfl
theorem badV_all {ds : List PyData} (h : badV (.list ds) = none) : ∀ d ∈ ds, winB d = true := by
  replace h : (ds.findIdx? fun d => !winB d).map (fun i => V.int (i : Nat)) = none := h
  have h' : ds.findIdx? (fun d => !winB d) = none := by simpa using h
  intro d hd
  have := List.findIdx?_eq_none_iff.mp h' d hd
  simpa using this
/-- a list of windows, as windows -/
theorem wins_of : ∀ {ds : List PyData}, (∀ d ∈ ds, winB d = true) → ∃ ws : List (Int × Option Int), ds = ws.map winD ∧ ∀ w ∈ ws, okW w
  | [], _ => ⟨[], rfl, by simp⟩
  | d :: ds, h => by
    obtain ⟨w, hw⟩ := Option.isSome_iff_exists.mp (show (winP d).isSome = true from h d (by simp))
    obtain ⟨e, ok⟩ := winP_some hw
    obtain ⟨ws, e2, k⟩ := wins_of (ds := ds) fun x hx => h x (List.mem_cons_of_mem _ hx)
    exact ⟨w :: ws, by rw [e, e2]; rfl, List.forall_mem_cons.mpr ⟨ok, k⟩⟩
theorem badV_wins {ws : List (Int × Option Int)} (h : ∀ w ∈ ws, okW w) : badV (.list (ws.map winD)) = none := badV_none fun d hd => by
  obtain ⟨w, hw, rfl⟩ := List.mem_map.mp hd
  unfold winB
  rw [winP_D (h w hw)]; rfl
/-- what reaches, contains, rises -/
def reachW (w : Int × Option Int) (n : Int) : Bool := match w.2 with
  | none => true
  | some h => decide (h ≥ n)
def contW (w : Int × Option Int) (n : Int) : Bool := decide (w.1 ≤ n) && reachW w n
def risesW (w u : Int × Option Int) : Bool := !decide (u.1 < w.1) && (match w.2 with
  | none => u.2.isNone
  | some h => reachW u h)
def posV : Option Nat → V
  | none => .non
  | some i => .int (i : Nat)
/-- the first fall, from place i on -/
def fallAt : Nat → (Int × Option Int) → List (Int × Option Int) → Option Nat
  | _, _, [] => none
  | i, w, u :: r => if risesW w u = true then fallAt (i + 1) u r else some i
def fallI : List (Int × Option Int) → Option Nat
  | [] => none
  | w :: r => fallAt 1 w r
def leastI (n : Int) (ws : List (Int × Option Int)) : Option Nat := ws.findIdx? fun w => reachW w n
theorem fallAt_none {i : Nat} {w : Int × Option Int} {r : List (Int × Option Int)} : fallAt i w r = none ↔ ∀ (j : Nat) a b, (w :: r)[j]? = some a → r[j]? = some b → risesW a b = true := by
  induction r generalizing i w with
  | nil => simp [fallAt]
  | cons u r ih =>
    unfold fallAt
    by_cases h : risesW w u = true
    · rw [if_pos h, ih]
      constructor
      · intro k j a b ha hb
        cases j with
        | zero => simp at ha hb; rw [← ha, ← hb]; exact h
        | succ j => exact k j a b (by simpa using ha) (by simpa using hb)
      · intro k j a b ha hb
        exact k (j + 1) a b (by simpa using ha) (by simpa using hb)
    · rw [if_neg h]
      constructor
      · intro k; cases k
      · intro k; exact absurd (k 0 w u rfl rfl) h
theorem fallAt_some {i : Nat} {w : Int × Option Int} {r : List (Int × Option Int)} {j : Nat} (hj : ∀ k, k < j → ∀ a b, (w :: r)[k]? = some a → r[k]? = some b → risesW a b = true) {a b : Int × Option Int} (ha : (w :: r)[j]? = some a) (hb : r[j]? = some b) (h : risesW a b = false) : fallAt i w r = some (i + j) := by
  induction r generalizing i w j with
  | nil => simp at hb
  | cons u r ih =>
    unfold fallAt
    cases j with
    | zero =>
      simp at ha hb
      rw [ha, hb, if_neg (by rw [h]; decide)]; rfl
    | succ j =>
      rw [if_pos (hj 0 (Nat.succ_pos _) w u rfl rfl)]
      rw [ih (j := j) (fun k hk a b ha hb => hj (k + 1) (by omega) a b (by simpa using ha) (by simpa using hb)) (by simpa using ha) (by simpa using hb)]
      congr 1; omega
theorem fallI_none {ws : List (Int × Option Int)} (h : ∀ (j : Nat) a b, ws[j]? = some a → ws[j + 1]? = some b → risesW a b = true) : fallI ws = none := by
  cases ws with
  | nil => rfl
  | cons w r => exact fallAt_none.mpr fun j a b ha hb => h j a b ha (by simpa using hb)
theorem fallI_some {ws : List (Int × Option Int)} {j : Nat} (hj : ∀ k, k < j → ∀ a b, ws[k]? = some a → ws[k + 1]? = some b → risesW a b = true) {a b : Int × Option Int} (ha : ws[j]? = some a) (hb : ws[j + 1]? = some b) (h : risesW a b = false) : fallI ws = some (1 + j) := by
  cases ws with
  | nil => simp at ha
  | cons w r => exact fallAt_some (fun k hk a b ha hb => hj k hk a b ha (by simpa using hb)) ha (by simpa using hb) h
theorem badV_list {d : PyData} (h : badV d = none) : ∃ ws : List (Int × Option Int), d = .list (ws.map winD) ∧ ∀ w ∈ ws, okW w := by
  cases d with
  | list ds =>
    obtain ⟨ws, e, k⟩ := wins_of (badV_all h)
    exact ⟨ws, by rw [e], k⟩
  | _ => cases h
theorem wins_get {ws : List (Int × Option Int)} {i : Nat} {d : PyData} (h : (ws.map winD)[i]? = some d) : ∃ w, ws[i]? = some w ∧ d = winD w := by
  rw [List.getElem?_map] at h
  cases e : ws[i]? with
  | none => rw [e] at h; cases h
  | some w => rw [e] at h; cases h; exact ⟨w, rfl, rfl⟩
theorem cutV_from {xs : List V} {i : Int} (h : 0 ≤ i) : cutV xs (some i) none = xs.drop i.toNat := by
  unfold cutV HT.sIx
  dsimp only
  rw [if_neg (by omega)]
  by_cases k : i.toNat ≤ xs.length
  · rw [List.take_of_length_le (by rw [List.length_drop]; omega)]
    congr 1; omega
  · rw [List.drop_of_length_le (by omega), List.drop_of_length_le (by omega)]; simp
theorem cutV_to {xs : List V} {i : Int} (h : 0 ≤ i) : cutV xs none (some i) = xs.take i.toNat := by
  unfold cutV HT.sIx
  dsimp only
  rw [List.drop_zero, Nat.sub_zero, if_neg (by omega)]
  by_cases k : i.toNat ≤ xs.length
  · congr 1; omega
  · rw [List.take_of_length_le (by omega), List.take_of_length_le (by omega)]
theorem leastI_some {n : Int} {ws : List (Int × Option Int)} {i : Nat} (hj : ∀ j, j < i → ∀ w, ws[j]? = some w → reachW w n = false) {w : Int × Option Int} (hw : ws[i]? = some w) (h : reachW w n = true) : leastI n ws = some i := by
  obtain ⟨hi, e⟩ := List.getElem?_eq_some_iff.mp hw
  unfold leastI
  rw [List.findIdx?_eq_some_iff_getElem]
  refine ⟨hi, by rw [e, h], fun j hji => ?_⟩
  rw [hj j hji _ (List.getElem?_eq_getElem (Nat.lt_trans hji hi))]; decide
theorem leastI_none {n : Int} {ws : List (Int × Option Int)} (hj : ∀ (j : Nat) w, ws[j]? = some w → reachW w n = false) : leastI n ws = none := by
  unfold leastI
  rw [List.findIdx?_eq_none_iff]
  intro w hw
  obtain ⟨j, hj2, rfl⟩ := List.getElem_of_mem hw
  exact hj j _ (by simp)
/-! ### a list of windows at a, apart from the law's numbers at r -/
def WLs (K : PySem.W.Frag) (H : Hp) (r a : Addr) (ws : List (Int × Option Int)) : Prop := a ≠ r ∧ ∃ xs, H a = some (.lst xs) ∧ DaAll K (wo a (wo r H)) xs (ws.map winD)
theorem wo_off {r a : Addr} {H H' : Hp} (s : Off r H H') : Same (wo a (wo r H)) (wo a (wo r H')) := Same.wo s.wo
theorem wo_off2 {r a : Addr} {H H' : Hp} (s : Off a H H') : Same (wo a (wo r H)) (wo a (wo r H')) := fun b o e => by
  by_cases h : b = a
  · have e' : wo a (wo r H) b = none := if_pos h
    rw [e'] at e; cases e
  · rw [wo_get h] at e ⊢
    by_cases k : b = r
    · have e' : wo r H b = none := if_pos k
      rw [e'] at e; cases e
    · rw [wo_get k] at e ⊢
      exact s _ _ h e
theorem WLs.off {K : PySem.W.Frag} {H H' : Hp} {r a : Addr} {ws : List (Int × Option Int)} (h : WLs K H r a ws) (s : Off r H H') : WLs K H' r a ws := by
  obtain ⟨n, xs, e, d⟩ := h
  exact ⟨n, xs, s.get n e, d.same (wo_off s)⟩
theorem WLs.da {K : PySem.W.Frag} {H : Hp} {r a : Addr} {ws : List (Int × Option Int)} (h : WLs K H r a ws) : Da K H (.ref a) (.list (ws.map winD)) := by
  obtain ⟨n, xs, e, d⟩ := h
  exact Da.lst (SqL.of e) ((d.same wo_same).same wo_same)
theorem da_set {b : Bool} {K : PySem.W.Frag} {H : Hp} {v : V} {d : PyData} (h : DaF b K H v d) : ∀ {xs : List V} {ds : List PyData}, DaAllF b K H xs ds → ∀ i : Nat, DaAllF b K H (xs.set i v) (ds.set i d)
  | _, _, .nil, _ => .nil
  | _, _, .cons _ r, 0 => .cons h r
  | _, _, .cons k r, i + 1 => .cons k (da_set h r i)
/-- one more, or another one: v a window laid anew -/
theorem da_win2 {K : PySem.W.Frag} {H : Hp} {r a p : Addr} {w : Int × Option Int} (h1 : p ≠ a) (h2 : p ≠ r) (e : H p = some (.tup [.int w.1, hiV w.2])) : Da K (wo a (wo r H)) (.ref p) (winD w) :=
  (da_winT (SqT.of (by rw [wo_get h1, wo_get h2]; exact e))).da
theorem WLs.app {K : PySem.W.Frag} {H H' : Hp} {r a : Addr} {ws : List (Int × Option Int)} {w : Int × Option Int} {v : V} {xs : List V} (h : WLs K H r a ws) (e : H a = some (.lst xs)) (o : Off a H H') (e' : H' a = some (.lst (xs ++ [v]))) (d : Da K (wo a (wo r H)) v (winD w)) : WLs K H' r a (ws ++ [w]) := by
  obtain ⟨n, xs', e2, k⟩ := h
  rw [e] at e2
  cases e2
  refine ⟨n, _, e', ?_⟩
  rw [List.map_append]
  exact (k.same (wo_off2 o)).app (.cons (d.same (wo_off2 o)) .nil)
theorem WLs.set {K : PySem.W.Frag} {H H' : Hp} {r a : Addr} {ws : List (Int × Option Int)} {w : Int × Option Int} {v : V} {xs : List V} {i : Nat} (h : WLs K H r a ws) (e : H a = some (.lst xs)) (o : Off a H H') (e' : H' a = some (.lst (xs.set i v))) (d : Da K (wo a (wo r H)) v (winD w)) : WLs K H' r a (ws.set i w) := by
  obtain ⟨n, xs', e2, k⟩ := h
  rw [e] at e2
  cases e2
  refine ⟨n, _, e', ?_⟩
  rw [List.map_set]
  exact da_set (d.same (wo_off2 o)) (k.same (wo_off2 o)) i
theorem WLs.len {K : PySem.W.Frag} {H : Hp} {r a : Addr} {ws : List (Int × Option Int)} {xs : List V} (h : WLs K H r a ws) (e : H a = some (.lst xs)) : xs.length = ws.length := by
  obtain ⟨_, xs', e2, k⟩ := h
  rw [e] at e2
  cases e2
  rw [k.len]; simp
/-! ### the law's own look -/
def topW (w : Int × Option Int) : Int := match w.2 with
  | none => 10 ^ Int.toNat 64
  | some h => h
def fallsW (w u : Int × Option Int) : Bool := decide (u.1 < w.1) || decide (topW u < topW w)
/-- what the law's numbers stay below -/
def W60 (w : Int × Option Int) : Prop := okW w ∧ w.1 < 10 ^ 60 ∧ ∀ h, w.2 = some h → h < 10 ^ 60
theorem falls_rises {w u : Int × Option Int} (hw : W60 w) (hu : W60 u) : fallsW w u = !risesW w u := by
  obtain ⟨l, o⟩ := w
  obtain ⟨l2, o2⟩ := u
  have z : (10 : Int) ^ 60 < 10 ^ Int.toNat 64 := by decide +kernel
  unfold fallsW risesW reachW topW
  have h1 := hw.2.2
  have h2 := hu.2.2
  dsimp only at h1 h2 ⊢
  generalize (10 : Int) ^ Int.toNat 64 = m at z ⊢
  cases o <;> cases o2 <;> simp
  · rename_i k
    have := h2 k rfl
    exact .inr (by omega)
  · rename_i k
    have := h1 k rfl
    omega
  · rw [← decide_not]
    congr 2
    exact propext (by omega)
theorem atI_zero {v : V} {xs : List V} : atI (v :: xs) 0 = some v := by
  unfold atI ixN
  simp
def firstI (bs : List Bool) : Option Nat := (List.range bs.length).find? fun i => bs.getD i false
theorem first_get {bs : List Bool} : atI ((((List.range bs.length).filter fun i => bs.getD i false).map fun i => V.int ((i : Nat) : Int)) ++ [V.non]) 0 = some (posV (firstI bs)) := by
  unfold firstI
  rw [← List.head?_filter]
  cases (List.range bs.length).filter fun i => bs.getD i false with
  | nil => rfl
  | cons i r => exact atI_zero
theorem firstI_some {bs : List Bool} {i : Nat} (h : bs[i]? = some true) (hj : ∀ j, j < i → ∀ b, bs[j]? = some b → b = false) : firstI bs = some i := by
  obtain ⟨hi, e⟩ := List.getElem?_eq_some_iff.mp h
  unfold firstI
  rw [List.find?_range_eq_some]
  refine ⟨by rw [List.getD_eq_getElem?_getD, h]; rfl, by simpa using hi, fun j hji => ?_⟩
  have hl : j < bs.length := Nat.lt_trans hji hi
  rw [List.getD_eq_getElem?_getD, List.getElem?_eq_getElem hl]
  have := hj j hji _ (List.getElem?_eq_getElem hl)
  simp [this]
theorem firstI_none {bs : List Bool} (hj : ∀ (j : Nat) b, bs[j]? = some b → b = false) : firstI bs = none := by
  unfold firstI
  rw [List.find?_eq_none]
  intro j hm
  have hl : j < bs.length := by simpa using hm
  rw [List.getD_eq_getElem?_getD, List.getElem?_eq_getElem hl]
  have := hj j _ (List.getElem?_eq_getElem hl)
  simp [this]
/-- the law's flags: none at the first window, then where it falls -/
def flagI (ws : List (Int × Option Int)) (i : Nat) : Bool := match ws[i]?, ws[i + 1]? with
  | some a, some b => !risesW a b
  | _, _ => false
def flagsB (ws : List (Int × Option Int)) : List Bool := false :: (List.range (ws.length - 1)).map (flagI ws)
theorem pair_of {b : Bool} {K : PySem.W.Frag} {H : Hp} {xs : List V} {ws : List (Int × Option Int)} (ha : DaAllF b K H xs (ws.map winD)) {i : Nat} {x1 x2 : V} (h1 : xs[i]? = some x1) (h2 : xs[Int.toNat 1 + i]? = some x2) :
    ∃ w1 w2, ws[i]? = some w1 ∧ ws[i + 1]? = some w2 ∧ DaF b K H x1 (winD w1) ∧ DaF b K H x2 (winD w2) ∧ flagI ws i = !risesW w1 w2 := by
  obtain ⟨d1, hd1, k1⟩ := da_get ha h1
  obtain ⟨d2, hd2, k2⟩ := da_get ha h2
  obtain ⟨w1, hw1, rfl⟩ := wins_get hd1
  obtain ⟨w2, hw2, rfl⟩ := wins_get hd2
  have i1 : Int.toNat 1 + i = i + 1 := by omega
  rw [i1] at hw2
  exact ⟨w1, w2, hw1, hw2, k1, k2, by unfold flagI; rw [hw1, hw2]⟩
theorem flags_get {ws : List (Int × Option Int)} {i : Nat} {a b : Int × Option Int} (ha : ws[i]? = some a) (hb : ws[i + 1]? = some b) : (flagsB ws)[i + 1]? = some (!risesW a b) := by
  have := (List.getElem?_eq_some_iff.mp hb).1
  unfold flagsB
  rw [List.getElem?_cons_succ, List.getElem?_map, List.getElem?_range (by omega)]
  simp [flagI, ha, hb]
theorem first_fall {ws : List (Int × Option Int)} : firstI ((flagsB ws).take ws.length) = fallI ws := by
  by_cases hall : ∀ (j : Nat) a b, ws[j]? = some a → ws[j + 1]? = some b → risesW a b = true
  · rw [fallI_none hall]
    refine firstI_none fun j c hc => ?_
    rw [List.getElem?_take] at hc
    split at hc
    · next hl =>
      cases j with
      | zero => cases hc; rfl
      | succ j =>
        have h1 : j < ws.length := by omega
        rw [flags_get (List.getElem?_eq_getElem h1) (List.getElem?_eq_getElem hl)] at hc
        cases hc
        rw [hall j _ _ (List.getElem?_eq_getElem h1) (List.getElem?_eq_getElem hl)]; rfl
    · cases hc
  · obtain ⟨j, hj, hm⟩ : ∃ j, (∃ a b, ws[j]? = some a ∧ ws[j + 1]? = some b ∧ risesW a b = false) ∧ ∀ k, k < j → ∀ a b, ws[k]? = some a → ws[k + 1]? = some b → risesW a b = true := by
      have ex : ∃ j, ∃ a b, ws[j]? = some a ∧ ws[j + 1]? = some b ∧ risesW a b = false := by
        false_or_by_contra
        rename_i hn
        refine hall fun j a b ha hb => ?_
        cases h : risesW a b with
        | true => rfl
        | false => exact absurd ⟨j, a, b, ha, hb, h⟩ hn
      obtain ⟨j, hj⟩ := ex
      induction j using Nat.strongRecOn with
      | _ j ih =>
        by_cases hk : ∃ k, k < j ∧ ∃ a b, ws[k]? = some a ∧ ws[k + 1]? = some b ∧ risesW a b = false
        · obtain ⟨k, hkj, hk⟩ := hk
          exact ih k hkj hk
        · refine ⟨j, hj, fun k hkj a b ha hb => ?_⟩
          cases h : risesW a b with
          | true => rfl
          | false => exact absurd ⟨k, hkj, a, b, ha, hb, h⟩ hk
    obtain ⟨a, b, ha, hb, h⟩ := hj
    have hl := (List.getElem?_eq_some_iff.mp hb).1
    rw [fallI_some hm ha hb h, Nat.add_comm]
    refine firstI_some ?_ fun k hk c hc => ?_
    · rw [List.getElem?_take, if_pos hl, flags_get ha hb, h]; rfl
    · rw [List.getElem?_take, if_pos (by omega)] at hc
      cases k with
      | zero => cases hc; rfl
      | succ k =>
        have h1 : k < ws.length := by omega
        have h2 : k + 1 < ws.length := by omega
        rw [flags_get (List.getElem?_eq_getElem h1) (List.getElem?_eq_getElem h2)] at hc
        cases hc
        rw [hm k (by omega) _ _ (List.getElem?_eq_getElem h1) (List.getElem?_eq_getElem h2)]; rfl
theorem first_least {ws : List (Int × Option Int)} {n : Int} : firstI (ws.map fun w => reachW w n) = leastI n ws := by
  by_cases hall : ∀ (j : Nat) w, ws[j]? = some w → reachW w n = false
  · rw [leastI_none hall]
    refine firstI_none fun j b hb => ?_
    rw [List.getElem?_map] at hb
    cases e : ws[j]? with
    | none => rw [e] at hb; cases hb
    | some w => rw [e] at hb; cases hb; exact hall j w e
  · cases hf : leastI n ws with
    | none =>
      unfold leastI at hf
      rw [List.findIdx?_eq_none_iff] at hf
      exact absurd (fun j w hw => hf w (List.mem_of_getElem? hw)) hall
    | some i =>
      unfold leastI at hf
      rw [List.findIdx?_eq_some_iff_getElem] at hf
      obtain ⟨hi, h1, h2⟩ := hf
      refine firstI_some (by rw [List.getElem?_map, List.getElem?_eq_getElem hi]; simp [h1]) fun j hj b hb => ?_
      have hl : j < ws.length := Nat.lt_trans hj hi
      rw [List.getElem?_map, List.getElem?_eq_getElem hl] at hb
      cases hb
      simpa using h2 j hj
theorem wo_new {r a p : Addr} {H G : Hp} (n : H p = none) (s : Same H G) : Same (wo a (wo r H)) (wo p (wo r G)) := fun b o e => by
  by_cases h : b = a
  · have e' : wo a (wo r H) b = none := if_pos h
    rw [e'] at e; cases e
  · rw [wo_get h] at e
    by_cases k : b = r
    · have e' : wo r H b = none := if_pos k
      rw [e'] at e; cases e
    · rw [wo_get k] at e
      rw [wo_get (ne_of_none e n), wo_get k]
      exact s _ _ e
theorem nd_win {w : Int × Option Int} : PyData.hasDict (winD w) = false := by
  obtain ⟨l, hi⟩ := w
  cases hi <;> rfl
theorem shaped_win {w : Int × Option Int} : SeqAt.shaped (winD w) = true := by
  obtain ⟨l, hi⟩ := w
  cases hi <;> (unfold SeqAt.shaped; simp [winD, hiD, PyData.canLay0, PyData.canLayAll0, PyData.depth, PyData.depthAll])
theorem lay_all : ∀ {ds : List PyData}, (∀ d ∈ ds, d.canLay0 = true) → PyData.canLayAll0 ds = true
  | [], _ => rfl
  | d :: ds, h => by
    show (PyData.canLay0 d && PyData.canLayAll0 ds) = true
    rw [h d (by simp), lay_all fun x hx => h x (List.mem_cons_of_mem _ hx)]; rfl
theorem nd_all : ∀ {ds : List PyData}, (∀ d ∈ ds, d.hasDict = false) → PyData.hasDictAll ds = false
  | [], _ => rfl
  | d :: ds, h => by
    show (PyData.hasDict d || PyData.hasDictAll ds) = false
    rw [h d (by simp), nd_all fun x hx => h x (List.mem_cons_of_mem _ hx)]; rfl
theorem shaped_list {ds : List PyData} (h : ∀ d ∈ ds, d.canLay0 = true ∧ d.depth ≤ 60) : SeqAt.shaped (.list ds) = true := by
  unfold SeqAt.shaped
  have e1 : PyData.canLay0 (.list ds) = true := lay_all fun d hd => (h d hd).1
  have e2 : PyData.depth (.list ds) ≤ 64 := by
    have := depthAll_le fun d hd => (h d hd).2
    simp only [PyData.depth]; omega
  rw [e1]
  simpa using e2
theorem shaped_wins (ws : List (Int × Option Int)) : SeqAt.shaped (.list (ws.map winD)) = true := shaped_list fun d hd => by
  obtain ⟨⟨l, o⟩, _, rfl⟩ := List.mem_map.mp hd
  refine ⟨shaped_lay shaped_win, ?_⟩
  cases o <;> simp [winD, hiD, PyData.depth, PyData.depthAll]
theorem nd_wins (ws : List (Int × Option Int)) : PyData.hasDict (.list (ws.map winD)) = false := nd_all fun d hd => by
  obtain ⟨w, _, rfl⟩ := List.mem_map.mp hd
  exact nd_win
theorem eqv_nil (ds : List PyData) : PyData.eqv (.list ds) (.list []) = ds.isEmpty := by cases ds <;> rfl
def posD : Option Nat → PyData
  | none => .none
  | some i => .int (i : Nat)
theorem da_pos {b : Bool} {K : PySem.W.Frag} {H : Hp} : ∀ o : Option Nat, DaF b K H (posV o) (posD o)
  | none => DaF.non
  | some _ => DaF.int _
theorem sh_pos2 {o : Option Nat} (h : ∀ i, o = some i → i < 100000) : Shw (.list [posD o, posD o]) := (Sh.lst (ds := [posD o, posD o]) (n := 1921) (k := 0) fun d hd => by
  simp only [List.mem_cons, List.not_mem_nil, or_false, or_self] at hd
  subst hd
  cases o with
  | none => exact Sh.non.mono (by decide) (by decide)
  | some i => exact Sh.int (Nat.lt_of_le_of_lt (Nat.log2_le_self _) (by have := h i rfl; simp only [Int.natAbs_natCast]; omega) |> fun (q : ((i : Int)).natAbs.log2 < 100000) => log2_lt_1920 (k := 200) (Nat.lt_trans (by simpa using h i rfl) (by decide : 100000 < 2 ^ 200)) (by decide) (by decide))).shw (by show 2 * 1923 + 2 ≤ _; decide) (by decide)
theorem nd_pos2 (o : Option Nat) : PyData.hasDict (.list [posD o, posD o]) = false := by cases o <;> rfl
theorem firstI_lt {bs : List Bool} {i : Nat} (h : firstI bs = some i) : i < bs.length := by
  unfold firstI at h
  rw [List.find?_range_eq_some] at h
  simpa using h.2.1
theorem winD_inj {w u : Int × Option Int} (h : winD w = winD u) : w = u := by
  obtain ⟨l, o⟩ := w
  obtain ⟨k, o2⟩ := u
  cases o <;> cases o2 <;> simp [winD, hiD] at h ⊢ <;> exact h
theorem wins_inj {ws us : List (Int × Option Int)} (h : PyData.list (ws.map winD) = .list (us.map winD)) : ws = us := by
  injection h with h
  induction ws generalizing us with
  | nil => cases us with
    | nil => rfl
    | cons _ _ => cases h
  | cons w ws ih => cases us with
    | nil => cases h
    | cons u us =>
      injection h with h1 h2
      rw [winD_inj h1, ih h2]
theorem winB_ok {w : Int × Option Int} (h : okW w) : winB (winD w) = true := by
  unfold winB
  rw [winP_D h]; rfl
theorem cutV_flags {ws : List (Int × Option Int)} {xs : List V} (h : xs.length = ws.length) : cutV ((flagsB ws).map V.bl) (some 1) (some xs.length) = ((List.range (ws.length - 1)).map (flagI ws)).map V.bl := by
  unfold cutV HT.sIx flagsB
  dsimp only
  rw [if_neg (by omega), if_neg (by omega)]
  simp only [List.map_cons, List.length_cons, List.length_map, List.length_range]
  cases ws with
  | nil => simp at h; simp [h]
  | cons w ws =>
    have h1 : xs.length = ws.length + 1 := by simpa using h
    have e1 : min (Int.toNat 1) ((w :: ws).length - 1 + 1) = 1 := by simp
    have e2 : min (Int.toNat xs.length) ((w :: ws).length - 1 + 1) = ws.length + 1 := by rw [h1]; simp
    rw [e1, e2]
    simp
    exact List.take_of_length_le (by simp)
theorem da_bools {K : PySem.W.Frag} {H : Hp} {a : Addr} {bs : List Bool} (h : H a = some (.lst (bs.map V.bl))) : DaF false K H (.ref a) (.list (bs.map PyData.bool)) := by
  refine Da.lst (SqL.of h) ?_
  clear h
  induction bs with
  | nil => exact .nil
  | cons c bs ih => exact .cons (.bl c) ih
theorem nd_bools (bs : List Bool) : PyData.hasDict (.list (bs.map PyData.bool)) = false := nd_all fun d hd => by
  obtain ⟨c, _, rfl⟩ := List.mem_map.mp hd
  rfl
theorem shaped_bools (bs : List Bool) : SeqAt.shaped (.list (bs.map PyData.bool)) = true := shaped_list fun d hd => by
  obtain ⟨c, _, rfl⟩ := List.mem_map.mp hd
  exact ⟨rfl, by simp [PyData.depth]⟩
theorem ne_of_rok {H : Hp} {r p : Addr} (h : Rok H r) (n : H p = none) : p ≠ r := h.ne n
end KX

namespace KX
open PySem PySem.Spec PyProof.Rows L2
/-! ### exceptions as values -/
section
open PySem.HandSPX PySem.Builtin
variable {prog : Program} {w : World} {M : Model} {A : Around} {E : Value → Shared → Prop} {R : Result → Shared → Prop} {h : Heap} {g : Array GenState} {d : Drawn} {t : Nat} {os : OsState}
variable {nm q : Str} {C N : Addr} {bs bm bmB : List Value} {hdct : Bool} {sn : List Str} {sub : List Value} {ab : Bool} {col : Option Bool} {dd : Option Addr} {k0 k1 k2 k3 k5 : Option Value} {B newId initId : String} {kw : List (Str × Value)}
/-- .. named arguments: BaseException.__new__ takes them and forgets them -/
theorem kwn_check (F : ExcBaseFacts B newId initId bmB) (hT : ∀ X : String, bm.contains (.type X) = bmB.contains (.type X)) {rest : List Value} {Q : Unit → Shared → Prop}
    (hC : h.get? C = some (excClassObj nm q C N bs bm hdct sn sub ab col dd k0 k1 k2 k3 k5 newId)) (hq : Q () ⟨h, g, d, t, os⟩) : wpAny M A (checkBuiltinCall newId ⟨.ref C :: rest, kw⟩) Q E ⟨h, g, d, t, os⟩ := by
  have hcont : (Value.ref C :: bm).contains (.type B) = true := by rw [List.contains_cons, hT, F.hasB, Bool.or_true]
  have hstar := F.noStar
  simp only [checkBuiltinCall, F.newKind, F.newSplit, F.newRow]
  repeat (first | refine wpAny_loadPart_at hC ?_ | (refine wpAny_isSubtype_exc hC ?_; rw [hcont]) | refine wpAny_staticBase_exc hC ?_ | refine wpAny_madeBy_exc hC ?_ | simp only [bne_self_eq_false, Bool.false_eq_true, if_false] | wp_step)
  exact hq
theorem kwn_new (F : ExcBaseFacts B newId initId bmB) (hT : ∀ X : String, bm.contains (.type X) = bmB.contains (.type X)) {rest : List Value}
    (hC : h.get? C = some (excClassObj nm q C N bs bm hdct sn sub ab col dd k0 k1 k2 k3 k5 newId))
    (hq : R (.ok (.ret (.ref (h.objs.size + 1)))) ⟨(h.push { cls := .type "tuple", data := .seq rest.toArray }).push (excO C h.objs.size), g, d, t, os⟩) (hrest : rest.length ≤ sizeLine) :
    codeAny (model prog w) A (.builtin newId ⟨.ref C :: rest, kw⟩) R ⟨h, g, d, t, os⟩ := by
  have hends := F.ends
  have hcB : (Value.ref C :: bm).contains (.type B) = true := by rw [List.contains_cons, hT, F.hasB, Bool.or_true]
  have hcA : (Value.ref C :: bm).contains (.type "AttributeError") = false := by rw [List.contains_cons, hT, F.noAttr]; rfl
  have hcN : (Value.ref C :: bm).contains (.type "NameError") = false := by rw [List.contains_cons, hT, F.noName]; rfl
  refine codeAny_builtinAt F.entry ?_
  unfold Builtin.«BaseException.__new__»
  refine PySem.wpAt_bind ?_
  show PySem.wpAt _ _ _ (stack >>= _) _ _ _
  refine PySem.wpAt_bind (PySem.wpAt_stack fun p below => PySem.wpAt_of_wpAny ?_)
  wp_walk
  refine PySem.wpAt_of_wpAny ?_
  rw [F.owner]
  repeat (first | with_reducible refine wpAny_madeHere_exc F.canon hC ?_ | with_reducible refine wpAny_loadPart_at hC ?_ | (with_reducible refine wpAny_isSubtype_exc hC ?_; first | rw [hcB] | rw [hcA] | rw [hcN]) | wp_step)
  show R _ _
  rw [Heap.size_push]
  exact hq
theorem kwn_type (F : ExcBaseFacts B newId initId bmB) (hT : ∀ X : String, bm.contains (.type X) = bmB.contains (.type X)) {rest : List Value} {fI : Addr} {Q : Fin → Shared → Prop}
    (hC : h.get? C = some (excClassObj nm q C N bs bm hdct sn sub ab col dd k0 k1 k2 k3 k5 newId))
    (hi : PySem.W.Looks (model prog w) h (typeLookup (.ref C) "__init__") (some (.ref fI))) (hb : ∀ self, PySem.W.Looks (model prog w) h (bindSpecial (.ref fI) self) (.ref fI, [self])) (hrest : rest.length ≤ sizeLine)
    (hq : codeAny (model prog w) A (.call (.ref fI) ⟨.ref (h.objs.size + 1) :: rest, kw⟩)
      (fun r s' => match r with | .ok (.ret v) => v = .none ∧ Q (.done (.ret (.ref (h.objs.size + 1)))) s' | .ok _ => False | .error e => E e s')
      ⟨(h.push (PySem.W.kdv_tup rest)).push (excO C h.objs.size), g, d, t, os⟩) :
    wpAny (model prog w) A (Builtin.«type.__call__» ⟨.ref C :: rest, kw⟩) Q E ⟨h, g, d, t, os⟩ := by
  repeat (first | with_reducible refine wpAny_loadPart_at hC ?_ | with_reducible refine wpAny_madeBy_exc hC ?_ | wp_step)
  refine codeAny_call_builtin_code (Code.quiet_builtin _ F.quiet) (kwn_check F hT hC ?_)
  refine kwn_new F hT hC ?_ hrest
  show wpAny _ _ _ _ _ _
  have k : ∀ b o, h.get? b = some o → ((h.push (PySem.W.kdv_tup rest)).push (excO C h.objs.size)).get? b = some o := fun b o e => Heap.get?_push_of_some _ (Heap.get?_push_of_some _ e)
  have hC₁ := k _ _ hC
  have hget : ((h.push (PySem.W.kdv_tup rest)).push (excO C h.objs.size)).get? (h.objs.size + 1) = some (excO C h.objs.size) := by heap_get
  have hcC : (Value.ref C :: bm).contains (.ref C) = true := by simp
  have i1 := hi.keeps k
  have b1 := (hb (.ref (h.objs.size + 1))).keeps k
  unfold isInstance
  repeat (first | with_reducible refine wpAny_loadPart_at hget ?_ | (with_reducible refine wpAny_isSubtype_exc hC₁ ?_; rw [hcC]) | wp_step)
  show wpAny _ _ (typeLookup (.ref C) _) _ _ _
  refine i1.at ?_
  refine wpAny_holding (wpAny_bind (b1.at ?_))
  refine wpAny_bind (wpAny_call (codeAny_mono hq fun r s' z => ?_))
  rcases r with e | (v | _ | _ | _) <;> first | exact z | exact z.elim | skip
  obtain ⟨rfl, z⟩ := z
  first
    | exact wpAny_pure (wpAny_pure z)
    | (wp_walk; exact z)
theorem kwn_checkT {rest : List Value} {Q : Unit → Shared → Prop} (hC : h.get? C = some (excClassObj nm q C N bs bm hdct sn sub ab col dd k0 k1 k2 k3 k5 newId))
    (hq : Q () ⟨h, g, d, t, os⟩) : wpAny M A (checkBuiltinCall "type.__call__" ⟨.ref C :: rest, kw⟩) Q E ⟨h, g, d, t, os⟩ := by
  have f3 := tc_sub
  have hT : (⟨h, g, d, t, os⟩ : Shared).TypeIs (.ref C) "type" := ⟨_, hC, rfl⟩
  simp only [checkBuiltinCall, tc_kind, tc_split]
  repeat (any_goals (first | assumption | with_reducible refine wpAny_loadPart_at hC ?_ | with_reducible refine wpAny_onRaise ?_ | with_reducible refine wpAny_map ?_ | wp_step))
theorem kwn_call (F : ExcBaseFacts B newId initId bmB) (hT : ∀ X : String, bm.contains (.type X) = bmB.contains (.type X)) {rest : List Value} {fI : Addr}
    (hC : h.get? C = some (excClassObj nm q C N bs bm hdct sn sub ab col dd k0 k1 k2 k3 k5 newId))
    (hi : PySem.W.Looks (model prog w) h (typeLookup (.ref C) "__init__") (some (.ref fI))) (hb : ∀ self, PySem.W.Looks (model prog w) h (bindSpecial (.ref fI) self) (.ref fI, [self])) (hrest : rest.length ≤ sizeLine)
    (hq : codeAny (model prog w) (A.under (.builtin "type.__call__" ⟨.ref C :: rest, kw⟩)) (.call (.ref fI) ⟨.ref (h.objs.size + 1) :: rest, kw⟩) (PySem.W.InitBack (h.objs.size + 1) R)
      ⟨(h.push (PySem.W.kdv_tup rest)).push (excO C h.objs.size), g, d, t, os⟩) :
    codeAny (model prog w) A (.call (.ref C) ⟨rest, kw⟩) R ⟨h, g, d, t, os⟩ := by
  have f1 := tc_lookup
  have f2 := tc_bind (.ref C)
  have hTy : (⟨h, g, d, t, os⟩ : Shared).TypeIs (.ref C) "type" := ⟨_, hC, rfl⟩
  refine codeAny_of_tree ?_
  show wpAny _ _ (callAny (.ref C) _) _ _ _
  repeat (any_goals (first | assumption | with_reducible refine wpAny_loadPart_at hC ?_ | wp_step))
  refine ⟨rfl, ?_⟩
  refine codeAny_call_builtin_at (Code.quiet_builtin _ (by decide +kernel)) entry_typeCall (kwn_checkT hC (kwn_type F hT hC hi hb hrest ?_))
  refine codeAny_mono hq fun r s' z => ?_
  rcases r with e | (v | _ | _ | _) <;> exact z
end
/-! ### rules -/
def MkV (C : Addr) (sp : Sp) (vs : List V) (H1 : Hp) (Q : VK) : Prop := vs.length ≤ 1000 ∧ ∀ a, H1 a = none → sp (.ref a :: vs) (L2.upd H1 a (exo a C none)) (fun v H2 => v = .non ∧ Q (.ref a) H2) fun _ _ _ => False
def tMkV (C : Addr) (sp : Sp) (ta : TA) : TE := fun σ H Q => ta σ H fun vs H1 => MkV C sp vs H1 Q
section
variable {X : Cx} {o e : Expr} {es : List Expr} {to te : TE} {ta : TA} {f x : Str} {p p' p1 p2 pos : Pos} {newId initId : String} {bmB : List Value}
/-- C(e, ..): an exception that is made -/
theorem pe_mkV {CX : CXT} {C fI : Addr} {k : Nat} {fd : FuncData} {ps : List Str} {sp : Sp} (T : OexB X.K newId initId bmB C) (iC : PySem.W.findIn X.K (.ref C) "__init__" = some (some (.ref fI))) (tI : PySem.W.typeIn X.K (.ref fI) = some (.type "function"))
    (G : FnOk X.prog X.w X.K X.mg X.base CX k fI fd ps sp) (hr : Room (k + 1) X.A) (hb : Binds X.K fd ps []) (hx : Passes CX X (fun _ _ _ => False)) (hg : Gl X x) (hm : X.mg x = some (.ref C)) (ha : PA X (e :: es) ta)
    (hdb : (x == ("__debug__" : Str)) = false := by decide) (he : starEach (e :: es) X.env = (false, eval e X.env) :: starEach es X.env := by rfl) (hpl : (backTo pos (starEach es X.env)).any (·.1) = false := by rfl) :
    PE X (.Call (.Name x p) (e :: es) [] pos) (tMkV C sp ta) := by
  refine ⟨fun pins s σ H Q I q => ?_⟩
  obtain ⟨_, BF, _⟩ := T.bf.ex
  refine wpAny_Call_Name_kw (ld_glob I hg hm ?_ hdb)
  refine PySem.W.callWith_K (h₀ := X.base) I.ok.mod.kin T.kC (thn (ha.run pos pins s σ H _ I q) fun us s1 ⟨vs, H1, J, r, few, q1⟩ => ⟨J.kIn, ?_⟩) he hpl
  show wpAny _ _ (call (.ref C) us) _ _ _
  obtain ⟨nm, N, qn, bs, bm, hdct, sn, sub, ab, col, dd, k0, k1, k2, k3, k5, hC, hT⟩ := PySem.W.excInit_of J.kIn T.ini
  obtain ⟨hp, g, dr, tk, os⟩ := s1
  have up : hp.objs.size ≤ hp.objs.size + 1 := Nat.le_succ _
  have free : H1 (hp.objs.size + 1) = none := J.hok.fresh up
  have kk : ∀ b o, hp.get? b = some o → ((hp.push (PySem.W.kdv_tup us)).push (PySem.HandSPX.excO C hp.objs.size)).get? b = some o := fun b o z => Heap.get?_push_of_some _ (Heap.get?_push_of_some _ z)
  have there : ((hp.push (PySem.W.kdv_tup us)).push (PySem.HandSPX.excO C hp.objs.size)).get? (hp.objs.size + 1) = some (PySem.HandSPX.excO C hp.objs.size) := by heap_get
  have J2 := J.laid (t' := tk) (a := hp.objs.size + 1) (o := exo (hp.objs.size + 1) C none) (h' := (hp.push (PySem.W.kdv_tup us)).push (PySem.HandSPX.excO C hp.objs.size)) kk up (exo_ok there)
  have q2 := q1 (hp.objs.size + 1) free
  have r2 : Vals (V.ref (hp.objs.size + 1) :: vs) (Value.ref (hp.objs.size + 1) :: us) := .cons rfl r
  have len : (Value.ref (hp.objs.size + 1) :: us ++ []).length = ps.length := by
    rw [List.append_nil]
    exact (r2.length.symm.trans (G.len _ _ _ _ q2))
  have fits : us.length ≤ sizeLine := by rw [← Paired.length r, sizeLine_eq]; omega
  have bind := hb ⟨(hp.push (PySem.W.kdv_tup us)).push (PySem.HandSPX.excO C hp.objs.size), g, dr, tk, os⟩ (Value.ref (hp.objs.size + 1) :: us) J2.kIn len
  rw [List.append_nil] at bind
  refine wpAny_call (kwn_call BF hT hC (PySem.W.looks_findIn J.kIn iC) (fun self => PySem.W.bind_fn J.kIn self tI) fits
    (codeAny_mono (G.run _ X.stack _ _ ⟨Value.ref (hp.objs.size + 1) :: us, []⟩ _ _ _ (fun _ _ _ => False) (hr.make C us []) (J2.env0.make C us []) bind r2 q2) fun r s' hq => ?_))
  match r, hq with
  | .error er, hq => exact hx pins σ _ _ er s' J2 hq
  | .ok .next, hq => exact False.elim hq
  | .ok .brk, hq => exact False.elim hq
  | .ok .cont, hq => exact False.elim hq
  | .ok (.ret u), hq =>
    obtain ⟨v, H3, I3, rv, ev, q3⟩ := J2.after hq
    subst ev
    exact ⟨rv, .ref (hp.objs.size + 1), H3, I3, rfl, q3⟩
/-- how an __init__ takes named arguments -/
structure KBI (K : PySem.W.Frag) (fd : FuncData) (ps ks : List Str) (pm : List Nat) : Prop where
  to : ∀ (s : Shared) (self : Value) (ws : List Value), K.In s.heap → ws.length = ks.length → BindsTo s fd ⟨[self], ks.zip ws⟩ (ps.zip (self :: pmL pm ws))
theorem _root_.L2.Fun.kbi {K : PySem.W.Frag} {x qual : Str} {st : Stmt} {f : Addr} {fd : FuncData} {ps ks : List Str} {pm : List Nat} (F : Fun K x qual st f fd)
    (h : ∀ (kV doc pm' : Value) (an : Option Addr) (cdv ct : Value) (self : Value) (ws : List Value), ws.length = ks.length → bindArgs (PySem.W.fnOf x qual (defArgs st) (defBody st) (defScope st) .none kV doc pm' an cdv ct) ⟨[self], ks.zip ws⟩ = pure (ps.zip (self :: pmL pm ws))) : KBI K fd ps ks pm := by
  obtain ⟨oc, od, kV, doc, pm', an, cdv, ct, osl, rfl, lk, hcd⟩ := F.ex
  exact ⟨fun s self ws _ hl => .of_eq (h kV doc pm' an cdv ct self ws hl)⟩
def tMkW (C : Addr) (sp : Sp) (n : Nat) (pm : List Nat) (tk : TA) : TE := fun σ H Q => tk σ H fun zs H1 => zs.length = n ∧ MkV C sp (pmL pm zs) H1 Q
/-- C(k = e, ..) -/
theorem pe_mkW {CX : CXT} {C fI : Addr} {k : Nat} {fd : FuncData} {ps ks : List Str} {sp : Sp} {kws : List Keyword} {tk : TA} {pm : List Nat} (T : OexB X.K newId initId bmB C) (iC : PySem.W.findIn X.K (.ref C) "__init__" = some (some (.ref fI))) (tI : PySem.W.typeIn X.K (.ref fI) = some (.type "function"))
    (G : FnOk X.prog X.w X.K X.mg X.base CX k fI fd ps sp) (hr : Room (k + 1) X.A) (hb : KBI X.K fd ps ks pm) (hx : Passes CX X (fun _ _ _ => False)) (hg : Gl X x) (hm : X.mg x = some (.ref C)) (hkw : PK X kws tk)
    (hall : (backToKw pos (keywordEach kws X.env)).all (·.1.isSome) = true := by rfl) (hks : (backToKw pos (keywordEach kws X.env)).filterMap (·.1) = ks := by rfl) (hdb : (x == ("__debug__" : Str)) = false := by decide)
    (hpl : ((backTo pos (starEach [] X.env)).any (·.1) || (backToKw pos (keywordEach kws X.env)).any (·.1.isNone)) = false := by rfl) :
    PE X (.Call (.Name x p) [] kws pos) (tMkW C sp ks.length pm tk) := by
  refine ⟨fun pins s σ H Q I q => ?_⟩
  obtain ⟨_, BF, _⟩ := T.bf.ex
  refine wpAny_Call_Name_kw (ld_glob I hg hm ?_ hdb)
  refine PySem.W.callWith_KW0 (h₀ := X.base) I.ok.mod.kin T.kC hall ?_ hpl
  refine thn (hkw.run pos pins s σ H _ I q) fun ws s1 ⟨zs, H1, J, r, lz, _, q1⟩ => ⟨J.kIn, ?_⟩
  rw [hks]
  show wpAny _ _ (call (.ref C) [] (ks.zip ws)) _ _ _
  obtain ⟨nm, N, qn, bs, bm, hdct, sn, sub, ab, col, dd, k0, k1, k2, k3, k5, hC, hT⟩ := PySem.W.excInit_of J.kIn T.ini
  obtain ⟨hp, g, dr, tk, os⟩ := s1
  have up : hp.objs.size ≤ hp.objs.size + 1 := Nat.le_succ _
  have free : H1 (hp.objs.size + 1) = none := J.hok.fresh up
  have kk : ∀ b o, hp.get? b = some o → ((hp.push (PySem.W.kdv_tup [])).push (PySem.HandSPX.excO C hp.objs.size)).get? b = some o := fun b o z => Heap.get?_push_of_some _ (Heap.get?_push_of_some _ z)
  have there : ((hp.push (PySem.W.kdv_tup [])).push (PySem.HandSPX.excO C hp.objs.size)).get? (hp.objs.size + 1) = some (PySem.HandSPX.excO C hp.objs.size) := by heap_get
  have J2 := J.laid (t' := tk) (a := hp.objs.size + 1) (o := exo (hp.objs.size + 1) C none) (h' := (hp.push (PySem.W.kdv_tup [])).push (PySem.HandSPX.excO C hp.objs.size)) kk up (exo_ok there)
  have q2 := q1 (hp.objs.size + 1) free
  have r2 : Vals (V.ref (hp.objs.size + 1) :: pmL pm zs) (Value.ref (hp.objs.size + 1) :: pmL pm ws) := .cons rfl (pmL_vals r pm)
  have lw : ws.length = ks.length := by rw [← r.length]; exact lz
  refine wpAny_call (kwn_call BF hT hC (PySem.W.looks_findIn J.kIn iC) (fun self => PySem.W.bind_fn J.kIn self tI) (by decide)
    (codeAny_mono (G.run _ X.stack _ _ ⟨[Value.ref (hp.objs.size + 1)], ks.zip ws⟩ _ _ _ (fun _ _ _ => False) (hr.make C [] (ks.zip ws)) (J2.env0.make C [] (ks.zip ws)) (hb.to _ _ ws J2.kIn lw) r2 q2) fun r s' hq => ?_))
  match r, hq with
  | .error er, hq => exact hx pins σ _ _ er s' J2 hq
  | .ok .next, hq => exact False.elim hq
  | .ok .brk, hq => exact False.elim hq
  | .ok .cont, hq => exact False.elim hq
  | .ok (.ret u), hq =>
    obtain ⟨v, H3, I3, rv, ev, q3⟩ := J2.after hq
    subst ev
    exact ⟨rv, .ref (hp.objs.size + 1), H3, I3, rfl, q3⟩
/-- C(e), the class without own __init__ -/
def tMk0 (C : Addr) (te : TE) : TE := fun σ H Q => te σ H fun _ H1 => ∀ a, H1 a = none → Q (.ref a) (L2.upd H1 a (exo a C none))
theorem pe_mk0 {C : Addr} (hb : BaseF newId initId bmB) (q : PySem.W.excIn X.K C bmB newId = true) (gC : X.mg x = some (.ref C)) (kC : PySem.W.keepIn X.K (.ref C) = true) (hg : Gl X x)
    (he : PE X e te) (hs : starEach [e] X.env = (false, eval e X.env) :: starEach [] X.env := by rfl) (hdb : (x == ("__debug__" : Str)) = false := by decide) :
    PE X (.Call (.Name x p) [e] [] pos) (tMk0 C te) := by
  refine ⟨fun pins s σ H Q I h => ?_⟩
  obtain ⟨_, F, _⟩ := hb.ex
  refine wpAny_Call_Name_kw (ld_glob I hg gC ?_ hdb)
  refine PySem.W.callWith_K (h₀ := X.base) I.ok.mod.kin kC ?_ hs (by rfl)
  rw [hs]
  show wpAny _ _ (spliced ((false, eval e X.env) :: backTo pos (starEach [] X.env))) _ _ s
  refine Calls.spliced_cons (thn (he.run pins s σ H _ I h) fun u s1 ⟨v, H1, I1, r1, q1⟩ => ?_)
  refine Calls.spliced_nil ⟨I1.kIn, ?_⟩
  show wpAny _ _ (call (.ref C) [u]) _ _ _
  obtain ⟨bm, N, nm, qn, bs, hdct, sn, sub, ab, col, dd, k0, k1, k2, k3, k5, mN, hC, hN, hni, T⟩ := exc_obj I1.kIn q
  refine wpAny_call_exc_subT F T hC hN hni (fun h' a hm => ?_) (by show 1 ≤ sizeLine; rw [sizeLine_eq]; omega)
  have hn : H1 a = none := I1.hok.gone hm.new
  obtain ⟨t, ht, _, _⟩ := hm.there
  exact ⟨.ref a, L2.upd H1 a (exo a C none), I1.laidN hm.keeps hm.new hn (exo_ok ht), rfl, q1 a hn⟩
/-- x.f, x an exception of which the heap tells -/
def XQ (C : Addr) (f : Str) (Q : VK) : VK := fun x H => ∃ a d fs v, x = .ref a ∧ H a = some (exo a C (some d)) ∧ H d = some (exd d fs) ∧ fs.lookup f = some v ∧ Q v H
theorem xq_get {C : Addr} {n : String} {i : String} {m : List Value} {f : Str} {pins : List (Addr × Obj)} {σ : L2.St} {H : Hp} {s : Shared} {Q : VK} {v : V} {u : Value} {R : Value → Shared → Prop} {E : Value → Shared → Prop} (T : ExT X.K n i m C) (nf : PySem.W.findIn X.K (.ref C) f = some none) (I : Inv X pins σ H s) (r : RelV v u) (h : XQ C f Q v H)
    (k : ∀ w s', EP X pins σ Q w s' → R w s') : wpAny (model X.prog X.w) X.A (getAttr u f true) R E s := by
  obtain ⟨a, d, fs, v, rfl, ea, ed, l, q⟩ := h
  obtain rfl : u = Value.ref a := r
  obtain ⟨t1, ho⟩ := exo_at I.hok ea
  obtain ⟨mA, hns, hr⟩ := exd_at I.hok ed
  obtain ⟨od, hod, hl⟩ := lookIn_ns hns
  obtain ⟨w, hw, rw'⟩ := RelO.some_of (v := v) (o := mA f) (by rw [← l]; exact hr f)
  have J : PySem.W.InstAt s.heap a (PySem.W.excObj C t1 (some d) .none) C (some od) := ⟨ho, rfl, rfl, hod⟩
  exact HandSPX.exc_get I.kIn J T.ga T.gg T.o.exC (PySem.W.findObj_own T.o.hd nf rfl (by rw [hl, hw])) (handed_of rw') (k _ _ ⟨v, H, I.tok _, rw', q⟩)
/-- C(..).f -/
def tMkX (C : Addr) (fs : List Str) (f : Str) (ta : TA) : TE := fun σ H Q => ta σ H fun vs H1 => MkV C (spI C fs) vs H1 (XQ C f Q)
theorem pe_mkx {C : Addr} {n i : String} {m : List Value} {fs : List Str} (T : ExT X.K n i m C) (nf : PySem.W.findIn X.K (.ref C) f = some none) (he : PE X e (tMkV C (spI C fs) ta)) (hb : attributeBase e f X.env (eval e X.env) = eval e X.env := by rfl) :
    PE X (.Attribute e f pos) (tMkX C fs f ta) := by
  refine ⟨fun pins s σ H Q I h => attr_of hb (thn (he.run pins s σ H (XQ C f Q) I h) fun u s1 ⟨v, H1, I1, r1, q1⟩ => ?_)⟩
  exact xq_get T nf I1 r1 q1 fun _ _ z => z
def tMkY (C : Addr) (fs : List Str) (f : Str) (n : Nat) (pm : List Nat) (ta : TA) : TE := fun σ H Q => ta σ H fun zs H1 => zs.length = n ∧ MkV C (spI C fs) (pmL pm zs) H1 (XQ C f Q)
theorem pe_mky {C : Addr} {n i : String} {m : List Value} {fs : List Str} {j : Nat} {pm : List Nat} (T : ExT X.K n i m C) (nf : PySem.W.findIn X.K (.ref C) f = some none) (he : PE X e (tMkW C (spI C fs) j pm ta)) (hb : attributeBase e f X.env (eval e X.env) = eval e X.env := by rfl) :
    PE X (.Attribute e f pos) (tMkY C fs f j pm ta) := by
  refine ⟨fun pins s σ H Q I h => attr_of hb (thn (he.run pins s σ H (XQ C f Q) I h) fun u s1 ⟨v, H1, I1, r1, q1⟩ => ?_)⟩
  exact xq_get T nf I1 r1 q1 fun _ _ z => z
/-- .. its class told by the hypotheses -/
def XvQ (K : PySem.W.Frag) (f : Str) (Q : VK) : VK := fun x H => ∃ C n i m, ExT K n i m C ∧ PySem.W.findIn K (.ref C) f = some none ∧ XQ C f Q x H
def tXv (K : PySem.W.Frag) (f : Str) (te : TE) : TE := fun σ H Q => te σ H (XvQ K f Q)
theorem pe_xv (he : PE X e te) (hb : attributeBase e f X.env (eval e X.env) = eval e X.env := by rfl) : PE X (.Attribute e f pos) (tXv X.K f te) := by
  refine ⟨fun pins s σ H Q I h => attr_of hb (thn (he.run pins s σ H (XvQ X.K f Q) I h) fun u s1 ⟨v, H1, I1, r1, C, n, i, m, T, nf, q1⟩ => ?_)⟩
  exact xq_get T nf I1 r1 q1 fun _ _ z => z
end
/-- an exception of the class at C, with or without fields -/
def XI (H : Hp) (a C : Addr) : Prop := ∃ od, H a = some (exo a C od) ∧ ∀ d, od = some d → ∃ fs, H d = some (exd d fs)
theorem XI.same {H H' : Hp} {a C : Addr} (s : Same H H') (h : XI H a C) : XI H' a C := by
  obtain ⟨od, h1, h2⟩ := h
  exact ⟨od, s _ _ h1, fun d e => let ⟨fs, h⟩ := h2 d e; ⟨fs, s _ _ h⟩⟩
theorem XI.of0 {H : Hp} {a C : Addr} (h : H a = some (exo a C none)) : XI H a C := ⟨none, h, fun _ z => by cases z⟩
theorem XI.of1 {H : Hp} {a C d : Addr} {fs : List (Str × V)} (h : H a = some (exo a C (some d))) (k : H d = some (exd d fs)) : XI H a C := ⟨some d, h, fun _ z => by cases z; exact ⟨fs, k⟩⟩
def rIsV (K : PySem.W.Frag) : List V → Hp → VK → Prop := fun xs H Q => ∃ (a C : Addr) (c : V) (cv : Value) (b : Bool) (n i : String) (m : List Value), xs = [.ref a, c] ∧ XI H a C ∧ ExT K n i m C ∧ ClassGet K ∧ (∀ u, RelV c u → u = cv) ∧ PySem.W.kitOne K (.ref C) cv = some b ∧ Q (.bl b) H
theorem call_isV {X : Cx} : CallR X (.builtin "isinstance") (rIsV X.K) := by
  intro pins s σ H xs us Q I r h
  obtain ⟨a, C, c, cv, b, _, _, _, rfl, ⟨od, ha, hd⟩, T, G, hcv, k, q⟩ := h
  obtain ⟨u1, u2, rfl, r1, r2⟩ : ∃ u1 u2, us = [u1, u2] ∧ RelV (.ref a) u1 ∧ RelV c u2 := by
    cases r with
    | cons r1 r => cases r with
      | cons r2 r => cases r; exact ⟨_, _, rfl, r1, r2⟩
  cases r1
  obtain rfl := hcv _ r2
  obtain ⟨t1, ho⟩ := exo_at I.hok ha
  have J : ∃ ox o', PySem.W.InstAt s.heap a ox C o' := by
    cases od with
    | none => exact ⟨_, none, ho, rfl, rfl, trivial⟩
    | some d =>
      obtain ⟨fs, e⟩ := hd d rfl
      obtain ⟨mA, ⟨o, es, ep, hh, _⟩, _⟩ := exd_at I.hok e
      exact ⟨_, some o, ho, rfl, rfl, hh⟩
  obtain ⟨ox, o', J⟩ := J
  exact PySem.W.kia_one (PySem.W.kitx_exc (hasD T.o.hd) T.ga T.gg T.o.exC T.cl G.hn G.ht T.hm) I.kIn J k (fun z => nomatch z) fun tk => ⟨.bl b, H, I.kept (t' := tk) fun _ _ z => z, rfl, q⟩
/-- what isinstance answers, class by class -/
def KR (K : PySem.W.Frag) (t : Value) : List Value → List Bool → Prop
  | [], [] => True
  | c :: cs, b :: bs => PySem.W.kitOne K t c = some b ∧ KR K t cs bs
  | _, _ => False
theorem KR.cons {K : PySem.W.Frag} {t c : Value} {cs : List Value} {b : Bool} {bs : List Bool} (h : PySem.W.kitOne K t c = some b) (r : KR K t cs bs) : KR K t (c :: cs) (b :: bs) := ⟨h, r⟩
theorem KR.nil {K : PySem.W.Frag} {t : Value} : KR K t [] [] := trivial
def NewX (H : Hp) (C : Addr) (Q : VK) : Prop := ∀ a, H a = none → Q (.ref a) (L2.upd H a (exo a C none))
/-! ### readings -/
section
variable {K : PySem.W.Frag} {σ : L2.St} {H : Hp} {Q : VK} {C : Addr} {sp : Sp} {ta : TA} {te : TE} {fs : List Str} {f : Str} {n : Nat} {pm : List Nat}
theorem i_mkV0 (q : ta σ H fun vs H1 => MkV C sp vs H1 Q) : tMkV C sp ta σ H Q := q
theorem i_mkW0 (q : ta σ H fun zs H1 => zs.length = n ∧ MkV C sp (pmL pm zs) H1 Q) : tMkW C sp n pm ta σ H Q := q
theorem i_mkX0 (q : ta σ H fun vs H1 => MkV C (spI C fs) vs H1 (XQ C f Q)) : tMkX C fs f ta σ H Q := q
theorem i_mkY0 (q : ta σ H fun zs H1 => zs.length = n ∧ MkV C (spI C fs) (pmL pm zs) H1 (XQ C f Q)) : tMkY C fs f n pm ta σ H Q := q
theorem i_xv0 (q : te σ H (XvQ K f Q)) : tXv K f te σ H Q := q
theorem i_mk00 (q : te σ H fun _ H1 => NewX H1 C Q) : tMk0 C te σ H Q := q
theorem i_mkN (q : ∀ a H2, Same H H2 → H2 a = some (exo a C none) → Q (.ref a) H2) : NewX H C Q := fun a n =>
  q a _ (fun b o e => by rw [upd_ne (ne_of_none e n)]; exact e) upd_same
theorem i_mkV {vs : List V} (hl : vs.length = fs.length) (few : fs.length ≤ 1000) (q : ∀ a d H2, Same H H2 → H2 a = some (exo a C (some d)) → H2 d = some (exd d (fs.zip vs).reverse) → Q (.ref a) H2) : MkV C (spI C fs) vs H Q := by
  refine ⟨by omega, fun a ha => ⟨a, vs, rfl, hl, upd_same, fun d H' hd ne ea ed off => ⟨rfl, ?_⟩⟩⟩
  rw [upd_ne ne] at hd
  refine q a d H' (fun b o e => ?_) ea ed
  have n1 : b ≠ a := ne_of_none e ha
  have n2 : b ≠ d := ne_of_none e hd
  rw [off b n1 n2, upd_ne n1]
  exact e
/-- C(..).f is what was given -/
theorem i_mkX {vs : List V} {v : V} (hl : vs.length = fs.length) (few : fs.length ≤ 1000) (lk : (fs.zip vs).reverse.lookup f = some v) (q : ∀ H2, Same H H2 → Q v H2) : MkV C (spI C fs) vs H (XQ C f Q) :=
  i_mkV hl few fun a d H2 s ea ed => ⟨a, d, _, v, rfl, ea, ed, lk, q H2 s⟩
theorem i_xvQ {a d : Addr} {gs : List (Str × V)} {v : V} {n i : String} {m : List Value} (T : ExT K n i m C) (nf : PySem.W.findIn K (.ref C) f = some none) (ea : H a = some (exo a C (some d))) (ed : H d = some (exd d gs)) (lk : gs.lookup f = some v) (q : Q v H) : XvQ K f Q (.ref a) H :=
  ⟨C, n, i, m, T, nf, a, d, gs, v, rfl, ea, ed, lk, q⟩
theorem i_isVr {a D : Addr} {b : Bool} {n i : String} {m : List Value} (T : ExT K n i m C) (G : ClassGet K) (h : XI H a C) (k : PySem.W.kitOne K (.ref C) (.ref D) = some b) (q : Q (.bl b) H) : rIsV K [.ref a, .ref D] H Q := ⟨a, C, _, _, b, n, i, m, rfl, h, T, G, rel_ref, k, q⟩
theorem i_isVt {a : Addr} {t : String} {b : Bool} {n i : String} {m : List Value} (T : ExT K n i m C) (G : ClassGet K) (h : XI H a C) (k : PySem.W.kitOne K (.ref C) (.type t) = some b) (q : Q (.bl b) H) : rIsV K [.ref a, .ty t] H Q := ⟨a, C, _, _, b, n, i, m, rfl, h, T, G, rel_ty, k, q⟩
theorem i_rRep {l : Addr} {k : Int} {xs : List V} (h : H l = some (.lst xs)) (h1 : 0 ≤ k) (h2 : k ≤ 1000) (h3 : xs.length ≤ 1000) (q : ∀ p H', H p = none → Same H H' → H' p = some (.lst (List.replicate k.toNat xs).flatten) → Q (.ref p) H') : rRep (.ref l) (.int k) H Q := by
  refine ⟨l, k, xs, rfl, rfl, h, by omega, by omega, ?_, fun p hp => q p _ hp (fun b o e => by rw [upd_ne (ne_of_none e hp)]; exact e) upd_same⟩
  have : xs.length * k.toNat ≤ 1000 * 1000 := Nat.mul_le_mul h3 (by omega)
  rw [sizeLine_eq]; omega
theorem i_gLst {p : Addr} {xs : List V} {n : Nat} {t : TGs} {R : L2.St → Hp → Prop} (h : SqL K H p xs) (e : xs.length = n) (q : t xs σ H R) : gLst K n t (.ref p) σ H R := ⟨p, xs, rfl, h, e, q⟩
end
/-! ### lists whose addresses are told to be none of the run's own -/
def rCatN : R2 := fun x y H Q => ∃ l b xs zs, x = .ref l ∧ y = .ref b ∧ H l = some (.lst xs) ∧ H b = some (.lst zs) ∧ xs.length + zs.length ≤ sizeLine ∧ NewN H (.lst (xs ++ zs)) Q
theorem op_catN {X : Cx} : OpR X (binaryOp .Add) rCatN := by
  intro pins s σ H x y v u Q I rx ry h
  obtain ⟨l, b, xs, zs, rfl, rfl, hH, hB, hz, q⟩ := h
  cases rx
  cases ry
  obtain ⟨z, its, n, r, hl, e⟩ := I.lstM hH
  obtain ⟨z2, its2, n2, r2, hl2, e2⟩ := I.lstM hB
  refine PySem.P.add_list e e2 ?_ (by rw [List.size_toArray, List.size_toArray]; omega)
  have ea : its.toArray ++ its2.toArray = (its ++ its2).toArray := by simp
  rw [ea]
  exact ⟨.ref _, _, I.lnew (t' := s.toks) (r.append r2) (by rw [List.length_append]; omega), rfl, q _ I.fresh (Nat.ne_of_gt I.big)⟩
theorem i_rCatN {H : Hp} {Q : VK} {l b : Addr} {xs zs : List V} (h : H l = some (.lst xs)) (k : H b = some (.lst zs)) (z : xs.length + zs.length ≤ sizeLine) (q : NewN H (.lst (xs ++ zs)) Q) : rCatN (.ref l) (.ref b) H Q := ⟨l, b, xs, zs, rfl, rfl, h, k, z, q⟩
def rRepN : R2 := fun x y H Q => ∃ l k xs, x = .ref l ∧ y = .int k ∧ H l = some (.lst xs) ∧ 0 ≤ k ∧ k ≤ 1000 ∧ xs.length ≤ 1000 ∧ NewN H (.lst (List.replicate k.toNat xs).flatten) Q
theorem op_repN {X : Cx} : OpR X (binaryOp .Mult) rRepN := by
  intro pins s σ H x y v u Q I rx ry h
  obtain ⟨l, k, xs, rfl, rfl, hH, h1, h2, h3, q⟩ := h
  cases rx
  obtain ⟨t, rfl⟩ := ry
  obtain ⟨z, its, n, r, hl, e⟩ := I.lstM hH
  have hz : xs.length * k.toNat ≤ sizeLine := by
    have : xs.length * k.toNat ≤ 1000 * 1000 := Nat.mul_le_mul h3 (by omega)
    rw [sizeLine_eq]; omega
  have hlen : its.toArray.size * k.toNat ≤ sizeLine := by rw [List.size_toArray, ← hl]; exact hz
  have hcap : ¬ its.toArray.size * k.toNat > (2 ^ 63 - 1) / 8 := by
    have : (sizeLine : Nat) ≤ (2 ^ 63 - 1) / 8 := by decide
    omega
  have hfit : ¬ (!Builtin.List.listFitsIndex k) = true := by
    rw [fitsIndex_both (by omega) (by omega)]
    exact Bool.false_ne_true
  have hlong : ¬ Builtin.List.listTooLong (its.toArray.size * k.toNat) = true := by
    rw [notLongL hlen]
    exact Bool.false_ne_true
  have hnew : List.foldl (fun x1 x2 => x1 ++ x2) #[] (List.replicate (if its.toArray.isEmpty = true then 0 else k.toNat) its.toArray) = (List.replicate k.toNat its).flatten.toArray := by
    have f0 : ∀ m : Nat, List.foldl (fun x1 x2 => x1 ++ x2) #[] (List.replicate m its.toArray) = (List.replicate m its).flatten.toArray := fun m => by
      have := foldl_rep its m []
      rw [List.nil_append] at this
      exact this
    rw [f0]
    cases its with
    | nil => simp
    | cons a r' => rw [if_neg (by simp)]
  refine wpAny_binaryOp_repeat_ref (T := "list") (U := "int") (by decide) ⟨_, e, rfl⟩ (fun s' => typeIs_int s' k t) noFill_list_mul F.fills_int_mul F.slot_int_rmul repeat_list F.slot_int_index.lookup
    (call_meets F.slot_int_rmul (typeIs_int s k t) F.entry_int_rmul (F.args_int_rmul_2 _ _) (int___rmul___int_list k t l its.toArray n)
      ⟨e, rfl, ⟨_, e, rfl⟩, call_meets F.slot_list_mul ⟨_, e, rfl⟩ F.entry_list_mul (F.args_list_mul_2 _ _) (AutoListH.list___mul___list_int_3 l its.toArray n k t hfit hcap hlong) ⟨e, ?_⟩⟩)
  rw [hnew]
  exact ⟨.ref _, _, I.lnew (t' := s.toks) (r.rep k.toNat) (by rw [PyProof.Rows.lm_len_rep_flat, Nat.mul_comm]; exact hz), rfl, q _ I.fresh (Nat.ne_of_gt I.big)⟩
theorem i_rRepN {H : Hp} {Q : VK} {l : Addr} {k : Int} {xs : List V} (h : H l = some (.lst xs)) (h1 : 0 ≤ k ∧ k ≤ 1000) (h3 : xs.length ≤ 1000) (q : NewN H (.lst (List.replicate k.toNat xs).flatten) Q) : rRepN (.ref l) (.int k) H Q := ⟨l, k, xs, rfl, rfl, h, h1.1, h1.2, h3, q⟩
/-- an exception with two fields -/
def PX (H : Hp) (e C : Addr) (fs : List Str) (a b : V) : Prop := ∃ d, H e = some (exo e C (some d)) ∧ H d = some (exd d (fs.zip [a, b]).reverse)
theorem PX.same {H H' : Hp} {e C : Addr} {fs : List Str} {a b : V} (s : Same H H') (h : PX H e C fs a b) : PX H' e C fs a b := let ⟨d, h1, h2⟩ := h; ⟨d, s _ _ h1, s _ _ h2⟩
theorem da_rep {b : Bool} {K : PySem.W.Frag} {H : Hp} {x : V} {d : PyData} (k : DaF b K H x d) : ∀ n : Nat, DaAllF b K H (List.replicate n [x]).flatten (List.replicate n d)
  | 0 => .nil
  | n + 1 => .cons k (da_rep k n)
theorem da_same {b : Bool} {K : PySem.W.Frag} {H : Hp} {d : PyData} : ∀ {ts : List V}, (∀ t ∈ ts, DaF b K H t d) → DaAllF b K H ts (List.replicate ts.length d)
  | [], _ => .nil
  | t :: ts, h => .cons (h t (by simp)) (da_same fun x hx => h x (List.mem_cons_of_mem _ hx))
theorem KR.head {K : PySem.W.Frag} {t c : Value} {cs : List Value} : ∀ {bs : List Bool}, KR K t (c :: cs) bs → ∃ b r, bs = b :: r ∧ PySem.W.kitOne K t c = some b ∧ KR K t cs r
  | [], h => h.elim
  | b :: r, h => ⟨b, r, rfl, h.1, h.2⟩
theorem KR.done {K : PySem.W.Frag} {t : Value} : ∀ {bs : List Bool}, KR K t [] bs → bs = []
  | [], _ => rfl
  | _ :: _, h => h.elim
def idx (bs : List Bool) : List Nat := (List.range bs.length).filter fun i => bs.getD i false
end KX

namespace KX
open PySem PySem.Spec PyProof.Rows L2
/-! ### facts of the written part, several at once: each is closed by the kernel -/
section
variable {K : PySem.W.Frag}
theorem exT_of {C : Addr} {n i : String} {tl : List Value} (bf : BaseF n i tl) (h : exB K C n tl = true) : ExT K n i tl C := by
  unfold exB at h
  simp only [Bool.and_eq_true, beq_iff_eq] at h
  obtain ⟨h1, h2, h3, h4, h5, h6, h7, h8, h9, h10, h11⟩ := h
  exact ⟨⟨bf, h1, h2, h5, h3, h6, h7, h4⟩, h8, h9, h10, h11⟩
theorem fd_of {C : Addr} {fs : List Str} (h : fdB K C fs = true) {f : Str} (m : f ∈ fs) : PySem.W.takerIn K C f = some none ∧ PySem.W.findIn K (.ref C) f = some none := by
  have := List.all_eq_true.mp h f m
  simpa only [Bool.and_eq_true, beq_iff_eq] using this
theorem su_of {C : Addr} {l : List (Value × Bool)} (h : suB K C l = true) {v : Value} {b : Bool} (m : (v, b) ∈ l) : PySem.W.subIn K (.ref C) v = some b := beq_iff_eq.mp (List.all_eq_true.mp h _ m)
theorem ki_of {C : Addr} {l : List (Value × Bool)} (h : kiB K C l = true) {v : Value} {b : Bool} (m : (v, b) ∈ l) : PySem.W.kitOne K (.ref C) v = some b := beq_iff_eq.mp (List.all_eq_true.mp h _ m)
theorem kr_of {C : Addr} : ∀ {l : List (Value × Bool)}, kiB K C l = true → KR K (.ref C) (l.map (·.1)) (l.map (·.2))
  | [], _ => KR.nil
  | p :: l, h => by
    have h' := h
    unfold kiB at h'
    rw [List.all_cons, Bool.and_eq_true] at h'
    exact KR.cons (beq_iff_eq.mp h'.1) (kr_of (l := l) h'.2)
theorem ty_of {f : Addr} (h : tyB K f = true) : PySem.W.typeIn K (.ref f) = some (.type "function") := beq_iff_eq.mp h
def ckB (K : PySem.W.Frag) (cd : Value) (q : Str) (f : Addr) : Bool := PySem.W.codeIn K cd q && PySem.W.keepIn K (.ref f)
theorem ck_of {cd : Value} {q : Str} {f : Addr} (h : ckB K cd q f = true) : PySem.W.codeIn K cd q = true ∧ PySem.W.keepIn K (.ref f) = true := by simpa only [ckB, Bool.and_eq_true] using h
/-- a def of the text, its function object's data not told -/
def DefK (K : PySem.W.Frag) (x qual : Str) (st : Stmt) (f : Addr) : Prop := ∃ fd, Fun K x qual st f fd
noncomputable def DefK.fd {x qual : Str} {st : Stmt} {f : Addr} (h : DefK K x qual st f) : FuncData := Classical.choose h
theorem DefK.F {x qual : Str} {st : Stmt} {f : Addr} (h : DefK K x qual st f) : Fun K x qual st f h.fd := Classical.choose_spec h
theorem defK_mk {x qual : Str} {st : Stmt} {f : Addr} {oc : Value} {od an : Option Addr} {osl : Array (Option Value)} {kV doc pm cdv ct : Value} (l : K.lookup f = some ⟨oc, od, .func (PySem.W.fnOf x qual (defArgs st) (defBody st) (defScope st) .none kV doc pm an cdv ct), osl⟩) (q : ckB K cdv qual f = true) : DefK K x qual st f :=
  ⟨_, fun_mk l (ck_of q).1 (ck_of q).2⟩
theorem binds_one {x qual : Str} {st : Stmt} {f : Addr} {fd : FuncData} {n : Str} (F : Fun K x qual st f fd) (h : ∀ (kV doc pm : Value) (an : Option Addr) (cdv ct : Value) (v : Value), bindArgs (PySem.W.fnOf x qual (defArgs st) (defBody st) (defScope st) .none kV doc pm an cdv ct) ⟨[v], []⟩ = pure [(n, v)]) :
    ∀ (s : Shared) (v : Value), BindsTo s fd ⟨[v], []⟩ [(n, v)] := by
  obtain ⟨oc, od, kV, doc, pm, an, cdv, ct, osl, rfl, lk, hcd⟩ := F.ex
  exact fun s v => .of_eq (h kV doc pm an cdv ct v)
end
end KX

namespace KX
open PySem PySem.Spec PyProof.Rows L2
open LamX (CodeO TabS Tabs ExtN LamS lamEnv lamCx TabB)
/-! ### a lambda without parameters, handed to a def of one parameter: what is raised is told at the receiver's slots -/
/-- what a call of the lambda reads, in the def that holds it in its first slot -/
def tAct (f c' : Addr) (q : Str) (tl : XK → Hp → VK → Prop) (W : WX) : TE := fun σ H Q =>
  σ[0]? = some (some (.ref f)) ∧ H c' = some (CodeO c' q) ∧ tl (WE W σ) H Q
section
variable {X : Cx}
/-- the receiver's context -/
abbrev recvCx (X : Cx) (N : List Str) (x : Str) (sc : Scope) (g : Addr) (cdv : Value) (s : Shared) (H : Hp) : Cx :=
  cxOf CX0 X.prog X.w X.K X.mg X.base N x sc g cdv X.A X.stack s H (fun _ _ _ => False)
theorem lam_act {pins : List (Addr × Obj)} {σ : L2.St} {H : Hp} {s : Shared} {N : List Str} {x a : Str} {sc scope : Scope} {g f c' : Addr} {cdv pm ctv : Value} {params : Arguments} {body : Expr} {k : Nat} {pn : List (Addr × Obj)} {xe : Value → Shared → Prop} {W : WX} {tb : XK → TE} {p1 p2 : Pos}
    (I : Inv X pins σ H s) (L : LamS X.env.scope scope) (made : s.heap.get? f = some (PySem.W.kla_obj "<lambda>" (X.env.qual ++ "<lambda>") params body scope (cloFrom X.env.cells scope.names []) pm c' ctv)) (free : H f = none) (off : f ∉ frs X.stack)
    (none0 : ∀ cv ct : Value, bindArgs (PySem.W.kla_fn "<lambda>" (X.env.qual ++ "<lambda>") params body scope (cloFrom X.env.cells scope.names []) pm cv ct) ⟨[], []⟩ = pure [])
    (tk : Takes ((recvCx X N x sc g cdv s H).tr pn xe) W) (hr : Rg (k + 1) (X.A.deeper (envOfC x sc s.heap.objs.size g cdv)))
    (inner : ∀ (B : Around) (outer : List Env) (t : Shared) (H' : Hp) (E : XK), Rg k (B.deeper (lamEnv X scope t.heap.objs.size f c')) → PE (lamCx X B outer t H' E scope f c') body (tb E))
    (at0 : N[0]? = some a) (vis : Vis sc a) (nd : (a == ("__debug__" : Str)) = false) (nc : (a == ("__classdict__" : Str)) = false) :
    PE ((recvCx X N x sc g cdv s H).tr pn xe) (.Call (.Name a p1) [] [] p2) (tAct f c' (X.env.qual ++ "<lambda>") (fun E => tb E σ) W) := by
  refine ⟨fun pinsZ t σZ HZ Q J ⟨slot, code, told⟩ => ?_⟩
  have read := (pe_var (X := (recvCx X N x sc g cdv s H).tr pn xe) (pos := p1) (i := 0) at0 vis nd nc).run pinsZ t σZ HZ (fun v H1 => v = .ref f ∧ H1 = HZ) J ⟨_, slot, rfl, rfl⟩
  refine wpAny_Call_Name_kw (thn read fun u t1 ⟨v, H1, J1, rel, ev, eH⟩ => ?_)
  subst ev eH
  obtain rfl : u = Value.ref f := rel
  have stays : t1.heap.get? f = _ := J1.base.keep f _ made free off (fun z => nomatch (show f ∈ ([] : List Addr) from z))
  refine PySem.W.callWith_F0 ⟨_, _, _, _, stays⟩ ?_
  have since : Un (frs X.stack) [] H H1 s.heap t1.heap := J1.base
  obtain ⟨⟨oc, vs, tk', e1, e2, e3⟩, _⟩ := J1.hok c' _ code
  have run : codeAny (model X.prog X.w) (X.A.deeper (envOfC x sc s.heap.objs.size g cdv)) (.call (.ref f) ⟨[], []⟩) (CR (L2.CX X.prog X.w) (envOfC x sc s.heap.objs.size g cdv :: X.stack) X.prog X.w H1 t1 Q (WE W σZ)) t1 := by
    refine PySem.W.kla_callFunE hr.room.depth stays rfl L.co L.gen rfl ⟨c', oc, vs, tk', rfl, e1, e2, e3⟩ ?_
    rw [none0]
    refine wpAny_pure (wpAny_newFunctionEnv (fun y hy => (L.own y hy).2) (fun y hy => (nomatch hy)) (fun h1 ns same => ⟨J1.nolimit.fresh _ same, ?_⟩) L.kind)
    have grows : ∀ b o, t1.heap.get? b = some o → h1.get? b = some o := fun b o e => same.extBut b o (Nat.ne_of_lt (Heap.lt_size e)) (Heap.get?_push_of_some _ e)
    have J2 := LamX.lam_start2 (tk := t1.toks + ([] : List (Str × Value)).length) (A := X.A.deeper (envOfC x sc s.heap.objs.size g cdv)) (outer := envOfC x sc s.heap.objs.size g cdv :: X.stack) (E := WE W σZ) (f := f) (c' := c') I L J1.env0 hr.room.hd since ns grows
    refine PySem.W.kla_codeExpr (wpAny_mono ((inner _ _ t1 H1 _ (hr.deeper _)).run [] _ _ H1 Q J2 told) (fun v t2 ⟨v', H2, J3, rel2, q⟩ => ?_) fun e t2 q => q)
    exact ⟨v', H2, J3.os, J3.bare, J3.base, J3.hok, rel2, q⟩
  refine wpAny_call (codeAny_mono run fun r t2 hq => ?_)
  match r, hq with
  | .error e, hq => exact passAt tk σZ pinsZ H1 t1 e t2 J1 hq
  | .ok .next, hq => exact False.elim hq
  | .ok .brk, hq => exact False.elim hq
  | .ok .cont, hq => exact False.elim hq
  | .ok (.ret u), hq => exact J1.after hq
/-- the def g calls what it got: TT is what it makes of the lambda's reading -/
def GivesG (X : Cx) (N : List Str) (x : Str) (sc : Scope) (g : Addr) (bg : List Stmt) (q : Str) (k : Nat) (TT : (XK → Hp → VK → Prop) → Hp → VK → Prop) : Prop :=
  ∀ (cdv : Value) (a : Str) (f c' : Addr) (s : Shared) (H : Hp) (Q : VK) (tl : XK → Hp → VK → Prop), N[0]? = some a → Rg k (X.A.deeper (envOfC x sc s.heap.objs.size g cdv)) →
    (∀ (W : WX) (pn : List (Addr × Obj)) (xe : Value → Shared → Prop) (p1 p2 : Pos), Takes ((recvCx X N x sc g cdv s H).tr pn xe) W → PE ((recvCx X N x sc g cdv s H).tr pn xe) (.Call (.Name a p1) [] [] p2) (tAct f c' q tl W)) →
    H c' = some (CodeO c' q) → TT tl H Q → ∃ t, PSs (recvCx X N x sc g cdv s H).nox bg t ∧ t { nx := fun _ H' => Q .non H', rt := Q } (L2.start N [.ref f]) H
def tLamG (T : List (Addr × Str)) (TT : (XK → Hp → VK → Prop) → Hp → VK → Prop) (tb : XK → TE) : TE := fun σ H Q => Tabs T H ∧ ∀ H1, ExtN H H1 → Tabs T H1 → TT (fun E => tb E σ) H1 Q
theorem pe_lamG {T : List (Addr × Str)} {TT : (XK → Hp → VK → Prop) → Hp → VK → Prop} {x a : Str} {g c P : Addr} {k : Nat} {st : Stmt} {fd : FuncData} {N : List Str} {params : Arguments} {body : Expr} {scope : Scope} {tb : XK → TE} {p lpos pos : Pos}
    (F : Fun X.K x x st g fd) (hg : Gl X x) (hm : X.mg x = some (.ref g)) (hb : Binds X.K fd [a] []) (S : FnScope N [a] (defScope st)) (at0 : N[0]? = some a) (vis : Vis (defScope st) a) (gives : GivesG X N x (defScope st) g (defBody st) (X.env.qual ++ "<lambda>") (k + 1) TT)
    (TB : TabB X.base X.mg c P) (code : X.env.code = .ref c) (inT : (P, X.env.qual ++ "<lambda>") ∈ T) (one : ∀ p ∈ T, p.1 = P → p.2 = X.env.qual ++ "<lambda>") (hr : Rg (k + 2) X.A) (L : LamS X.env.scope scope) (nodef : defaultsOf params X.env = ([], []))
    (none0 : ∀ (q : Str) (cl : List (Str × Addr)) (pm cv ctv : Value), bindArgs (PySem.W.kla_fn "<lambda>" q params body scope cl pm cv ctv) ⟨[], []⟩ = pure [])
    (inner : ∀ (B : Around) (outer : List Env) (t : Shared) (H' : Hp) (E : XK) (f c' : Addr), Rg k (B.deeper (lamEnv X scope t.heap.objs.size f c')) → PE (lamCx X B outer t H' E scope f c') body (tb E))
    (nx : (x == ("__debug__" : Str)) = false := by decide) (nd : (a == ("__debug__" : Str)) = false := by decide) (nc : (a == ("__classdict__" : Str)) = false := by decide) :
    PE X (.Call (.Name x p) [.Lambda params body scope lpos] [] pos) (tLamG T TT tb) := by
  obtain ⟨oc, od, kV, doc, pm, an, cdv, ct, osl, rfl, lk, hcd⟩ := F.ex
  refine ⟨fun pins s σ H Q I ⟨tabs, told⟩ => ?_⟩
  refine wpAny_Call_Name_kw (ld_glob I hg hm ?_ nx)
  refine PySem.W.callWith_K (h₀ := X.base) I.ok.mod.kin F.kp ?_ (by rfl) (by rfl)
  refine Calls.spliced_cons (LamX.lam_make2 I TB code inT one tabs nodef (L.has I.ok) fun f c' pm' ctv H1 s' J ext tabs1 made free off co => ?_)
  refine Calls.spliced_nil ⟨J.kIn, ?_⟩
  have run : codeAny (model X.prog X.w) X.A (.call (.ref g) ⟨[.ref f], []⟩) (CR CX0 X.stack X.prog X.w H1 s' Q (fun _ _ _ => False)) s' := by
    refine LamX.run_ofS (N := N) (ps := [a]) (us := [.ref f]) (vs := [.ref f]) (k := k + 1) lk hcd S hr.room J.env0 (hb s' [.ref f] J.kIn rfl) (.cons rfl .nil) rfl fun hr' => ?_
    have hg' : Rg (k + 1) (X.A.deeper (envOfC x (defScope st) s'.heap.objs.size g cdv)) := ⟨hr', hr.gd⟩
    obtain ⟨t, ht, q⟩ := gives cdv a f c' s' H1 Q (fun E => tb E σ) at0 hg' (fun W pn xe p1 p2 tk => lam_act J L made free off (fun cv ct => none0 _ _ _ _ _) tk hg' (fun B outer t H' E hl => inner B outer t H' E f c' hl) at0 vis nd nc) co (told H1 ext tabs1)
    exact ⟨t, ht.nox, q⟩
  refine wpAny_call (codeAny_mono run fun r s2 hq => ?_)
  match r, hq with
  | .error e, hq => exact (show False from hq).elim
  | .ok .next, hq => exact False.elim hq
  | .ok .brk, hq => exact False.elim hq
  | .ok .cont, hq => exact False.elim hq
  | .ok (.ret u), hq => exact J.after hq
/-- in the lambda's body: what is called may raise -/
theorem passLam {B : Around} {outer : List Env} {t : Shared} {H : Hp} {E : XK} {scope : Scope} {f c' : Addr} : Passes (L2.CX X.prog X.w) (lamCx X B outer t H E scope f c') E :=
  passes_call (X := lamCx X B outer t H E scope f c') (W := fun cls d _ H => E cls d H) (takes_of (E := E) rfl rfl rfl rfl) fun _ _ _ _ h => h
theorem i_lamG {T : List (Addr × Str)} {TT : (XK → Hp → VK → Prop) → Hp → VK → Prop} {tb : XK → TE} {σ : L2.St} {H : Hp} {Q : VK} (t : Tabs T H) (q : ∀ H1, ExtN H H1 → Tabs T H1 → TT (fun E => tb E σ) H1 Q) : tLamG T TT tb σ H Q := ⟨t, q⟩
theorem i_act {f c' : Addr} {q : Str} {tl : XK → Hp → VK → Prop} {W : WX} {σ : L2.St} {H : Hp} {Q : VK} (h : σ[0]? = some (some (.ref f))) (c : H c' = some (CodeO c' q)) (t : tl (WE W σ) H Q) : tAct f c' q tl W σ H Q := ⟨h, c, t⟩
end
/-! ### what a lambda's making leaves -/
def noTbl : HO → Bool
  | .tbl _ => false
  | _ => true
theorem extN_get {H H' : Hp} {a : Addr} {o : HO} (e : ExtN H H') (h : H a = some o) (n : noTbl o = true := by rfl) : H' a = some o := e a o h fun ps z => by subst z; cases n
theorem extN_ofS {H H' : Hp} (s : Same H H') : ExtN H H' := fun b o h _ => s b o h
theorem extN_thenS {H H1 H2 : Hp} (b : Same H1 H2) (a : ExtN H H1) : ExtN H H2 := fun c o h n => b c o (a c o h n)
theorem extN_thenE {H H1 H2 : Hp} (b : ExtN H1 H2) (a : ExtN H H1) : ExtN H H2 := fun c o h n => b c o (a c o h n) n
theorem tabs_same {T : List (Addr × Str)} {H H' : Hp} (s : Same H H') (t : Tabs T H) : Tabs T H' := LamX.Tabs.ext t fun b o e => s b o e
/-- the heap without its tables -/
def nt (H : Hp) : Hp := fun b => match H b with
  | some o => if noTbl o = true then some o else none
  | none => none
theorem nt_some {H : Hp} {a : Addr} {o : HO} (h : H a = some o) (n : noTbl o = true) : nt H a = some o := by
  unfold nt; rw [h]; exact if_pos n
theorem nt_of {H : Hp} {a : Addr} {o : HO} (h : nt H a = some o) : H a = some o ∧ noTbl o = true := by
  unfold nt at h
  split at h
  · split at h
    · rename_i e n; cases h; exact ⟨e, n⟩
    · cases h
  · cases h
theorem nt_same {H : Hp} : Same (nt H) H := fun b o e => (nt_of e).1
theorem extN_nt {H H' : Hp} (e : ExtN H H') : Same (nt H) (nt H') := fun b o h => by
  obtain ⟨h1, n⟩ := nt_of h
  exact nt_some (extN_get e h1 n) n
theorem extN_ntH {H H' : Hp} (e : ExtN H H') : Same (KX.nt H) H' := fun b o h => (nt_of (extN_nt e b o h)).1
theorem Rd.nt {H : Hp} {a : Addr} {u : HO} (n : noTbl u = true) (r : Rd H a u) : Rd (KX.nt H) a u := by
  rcases r with r | ⟨o, r⟩
  · exact .inl (nt_some r n)
  · exact .inr ⟨o, nt_some r rfl⟩
theorem sqL_nt {K : PySem.W.Frag} {H : Hp} {a : Addr} {xs : List V} (h : SqL K H a xs) : SqL K (nt H) a xs := by
  rcases h with h | h
  · exact .inl (Rd.nt rfl h)
  · exact .inr h
theorem sqT_nt {K : PySem.W.Frag} {H : Hp} {a : Addr} {xs : List V} (h : SqT K H a xs) : SqT K (nt H) a xs := by
  rcases h with h | h
  · exact .inl (Rd.nt rfl h)
  · exact .inr h
mutual
theorem DaF.nt {b : Bool} {K : PySem.W.Frag} {H : Hp} : ∀ {v : V} {d : PyData}, DaF b K H v d → DaF b K (KX.nt H) v d
  | _, _, .non => .non
  | _, _, .bl b => .bl b
  | _, _, .int i => .int i
  | _, _, .str x => .str x
  | _, _, .lst h n a => .lst (sqL_nt h) n (DaAllF.nt a)
  | _, _, .tup h a => .tup (sqT_nt h) (DaAllF.nt a)
  | _, _, .dic h a => .dic (Rd.nt rfl h) (DaKvF.nt a)
theorem DaAllF.nt {b : Bool} {K : PySem.W.Frag} {H : Hp} : ∀ {vs : List V} {ds : List PyData}, DaAllF b K H vs ds → DaAllF b K (KX.nt H) vs ds
  | _, _, .nil => .nil
  | _, _, .cons a r => .cons (DaF.nt a) (DaAllF.nt r)
theorem DaKvF.nt {b : Bool} {K : PySem.W.Frag} {H : Hp} : ∀ {kvs : List (Key × V)} {ds : List (PyData × PyData)}, DaKvF b K H kvs ds → DaKvF b K (KX.nt H) kvs ds
  | _, _, .nil => .nil
  | _, _, .cons a r => .cons (DaF.nt a) (DaKvF.nt r)
end
theorem DaF.extN {b : Bool} {K : PySem.W.Frag} {H H' : Hp} {v : V} {d : PyData} (e : ExtN H H') (h : DaF b K H v d) : DaF b K H' v d := DaF.same (extN_ntH e) h.nt
theorem extN_wo {H H' : Hp} {r : Addr} (e : ExtN H H') : ExtN (wo r H) (wo r H') := fun b o h n => by
  by_cases z : b = r
  · have e' : wo r H b = none := if_pos z
    rw [e'] at h; cases h
  · rw [wo_get z] at h ⊢
    exact e b o h n
theorem tabs_nil {T : List (Addr × Str)} {H : Hp} (h : ∀ p ∈ T, H p.1 = some (.tbl #[])) : Tabs T H := fun p hp => LamX.TabS.nil (h p hp)
theorem Rok.extN {H H' : Hp} {r : Addr} (e : ExtN H H') (h : Rok H r) : Rok H' r := let ⟨a, b, k, z⟩ := h; ⟨a, b, extN_get e k, z⟩
/-! ### a def whose code object is told -/
theorem ne_of_beq_false {a b : Addr} (h : (a == b) = false) : a ≠ b := fun z => by rw [z, beq_self_eq_true] at h; cases h
structure FunC (K : PySem.W.Frag) (x qual : Str) (st : Stmt) (f : Addr) (fd : FuncData) (c : Addr) : Prop where
  ex : ∃ (oc : Value) (od : Option Addr) (kV doc pm : Value) (an : Option Addr) (ct : Value) (osl : Array (Option Value)),
    fd = PySem.W.fnOf x qual (defArgs st) (defBody st) (defScope st) .none kV doc pm an (.ref c) ct ∧ K.lookup f = some ⟨oc, od, .func fd, osl⟩ ∧ PySem.W.codeIn K (.ref c) qual = true
  kp : PySem.W.keepIn K (.ref f) = true
theorem func_mk {K : PySem.W.Frag} {x qual : Str} {st : Stmt} {f c : Addr} {oc kV doc pm ct : Value} {od an : Option Addr} {osl : Array (Option Value)} (lk : K.lookup f = some ⟨oc, od, .func (PySem.W.fnOf x qual (defArgs st) (defBody st) (defScope st) .none kV doc pm an (.ref c) ct), osl⟩) (cd : PySem.W.codeIn K (.ref c) qual = true) (kp : PySem.W.keepIn K (.ref f) = true) :
    FunC K x qual st f (PySem.W.fnOf x qual (defArgs st) (defBody st) (defScope st) .none kV doc pm an (.ref c) ct) c := ⟨⟨oc, od, kV, doc, pm, an, ct, osl, rfl, lk, cd⟩, kp⟩
theorem FunC.toF {K : PySem.W.Frag} {x qual : Str} {st : Stmt} {f c : Addr} {fd : FuncData} (F : FunC K x qual st f fd c) : Fun K x qual st f fd := by
  obtain ⟨⟨oc, od, kV, doc, pm, an, ct, osl, e, lk, cd⟩, kp⟩ := F
  exact ⟨⟨oc, od, kV, doc, pm, an, .ref c, ct, osl, e, lk, cd⟩, kp⟩
def DefC (K : PySem.W.Frag) (x qual : Str) (st : Stmt) (f c : Addr) : Prop := ∃ fd, FunC K x qual st f fd c
noncomputable def DefC.fd {K : PySem.W.Frag} {x qual : Str} {st : Stmt} {f c : Addr} (h : DefC K x qual st f c) : FuncData := Classical.choose h
theorem DefC.C {K : PySem.W.Frag} {x qual : Str} {st : Stmt} {f c : Addr} (h : DefC K x qual st f c) : FunC K x qual st f h.fd c := Classical.choose_spec h
theorem DefC.F {K : PySem.W.Frag} {x qual : Str} {st : Stmt} {f c : Addr} (h : DefC K x qual st f c) : Fun K x qual st f h.fd := h.C.toF
theorem defC_mk {K : PySem.W.Frag} {x qual : Str} {st : Stmt} {f c : Addr} {oc kV doc pm ct : Value} {od an : Option Addr} {osl : Array (Option Value)} (l : K.lookup f = some ⟨oc, od, .func (PySem.W.fnOf x qual (defArgs st) (defBody st) (defScope st) .none kV doc pm an (.ref c) ct), osl⟩) (q : ckB K (.ref c) qual f = true) : DefC K x qual st f c :=
  ⟨_, func_mk l (ck_of q).1 (ck_of q).2⟩
theorem ok_gC {P : Program} {w : World} {K : PySem.W.Frag} {mg : Str → Option Value} {base : Heap} {x qual : Str} {st : Stmt} {f c : Addr} {fd : FuncData} {N ps : List Str} {k : Nat} {sp : Sp} (F : FunC K x qual st f fd c) (S : FnScope N ps (defScope st)) (len : ∀ vs H Q E, sp vs H Q E → vs.length = ps.length)
    (hbody : ∀ (A : Around) (outer : List Env) (s : Shared) (H : Hp) (vs : List V) (Q : VK) (E : XK), Rg k (A.deeper (envOfC qual (defScope st) s.heap.objs.size f (.ref c))) → sp vs H Q E →
      ∃ t, PSs (cxOf CX0 P w K mg base N qual (defScope st) f (.ref c) A outer s H E).nox (defBody st) t ∧ t { nx := fun _ H' => Q .non H', rt := Q } (start N vs) H) : Fg P w K mg base CX0 (k + 1) f fd ps sp := by
  obtain ⟨oc, od, kV, doc, pm, an, ct, osl, rfl, lk, hcd⟩ := F.ex
  refine fg_of lk hcd S len fun A outer s H vs Q E hr hsp => ?_
  obtain ⟨t, h, q⟩ := hbody A outer s H vs Q E hr hsp
  exact ⟨t, h.nox, q⟩
/-! ### the law's call from the top, with tables of code objects -/
section
variable {P : Program} {w : World} {K : PySem.W.Frag} {mg mb : Str → Option Value}
def scrT (K : PySem.W.Frag) (ts : List Addr) (a : Addr) (us : List Value) (ns : List Int) : Hp := fun b =>
  if b ∈ ts then some (.tbl #[]) else scrH K a us ns b
/-- what the law's def promises, at the heap behind the top: cs are the code objects with their tables -/
theorem lawGT {CX : CXT} {k : Nat} {fa a : Addr} {fd : FuncData} {x : Str} {sp : Sp} {t0 : Shared} {us : List Value} {ns : List Int} {cs : List (Addr × Addr)} (inK : K.In t0.heap) (g1 : t0.heap.Ns mainGlobals mg) (g2 : t0.heap.Ns builtinsNs mb)
    (g3 : ∀ y : Str, y ≠ "__name__" → mb y = bootBuiltins y) (g4 : t0.heap.NoLimit) (g5 : t0.gens = #[]) (empty : ∀ q ∈ cs, t0.heap.get? q.2 = some tabO) (notK : ∀ q ∈ cs, K.lookup q.2 = none) (heads : ∀ q ∈ cs, PySem.W.CodeHd t0.heap q.1 q.2)
    (bltn : ∃ (bm : Addr) (ob : Obj), mg "__builtins__" = some (.ref bm) ∧ bm ≠ builtinsNs ∧ t0.heap.get? bm = some ob ∧ ob.cls = .type "module" ∧ ob.dict = some builtinsNs ∧ ob.data = .plain)
    (there : t0.heap.get? a = some (scrO us)) (hin : IntsAre us ns) (few : ns.length ≤ sizeLine) (room : Room k callerA)
    (G : ∀ b0 : Heap, K.In b0 → b0.Ns mainGlobals mg → (∀ q ∈ cs, TabB b0 mg q.1 q.2) → Fg P w K mg b0 CX k fa fd [x] sp) (binds : ∀ (s : Shared) (u : Value), BindsTo s fd ⟨[u], []⟩ [(x, u)])
    (promise : ∀ H : Hp, (∀ q ∈ cs, H q.2 = some (.tbl #[])) → SqL K H a (ns.map V.int) → sp [.ref a] H (fun v _ => v = .bl true) fun _ _ _ => False) (noX : ∀ H e s', CX [] H t0 (fun _ _ _ => False) e s' → False) :
    codeAny (model P w) callerA (.call (.ref fa) ⟨[.ref a], []⟩)
      (fun r s' => r = .ok (.ret (.bool true)) ∧ OldK t0.heap s'.heap ∧ s'.os = t0.os ∧ AllBare s'.gens) t0 := by
  have rel := vals_ints hin
  have ofT : ∀ {b}, b ∈ cs.map (·.2) → t0.heap.get? b = some tabO ∧ K.lookup b = none := fun {b} m => by
    obtain ⟨q, hq, rfl⟩ := List.mem_map.mp m
    exact ⟨empty q hq, notK q hq⟩
  have aT : a ∉ cs.map (·.2) := fun m => by
    have e := (ofT m).1
    rw [there] at e
    exact nomatch (show Data.seq us.toArray _ = Data.fields #[] from congrArg Obj.data (Option.some.inj e))
  -- the abstract heap, by cases
  have cases_ : ∀ b, scrT K (cs.map (·.2)) a us ns b = none ∨ (b ∈ cs.map (·.2) ∧ scrT K (cs.map (·.2)) a us ns b = some (.tbl #[])) ∨
      (b = a ∧ K.lookup a = none ∧ scrT K (cs.map (·.2)) a us ns b = some (.frz (scrO us) (.lst (ns.map V.int)))) := fun b => by
    by_cases m : b ∈ cs.map (·.2)
    · exact .inr (.inl ⟨m, if_pos m⟩)
    · have e : scrT K (cs.map (·.2)) a us ns b = scrH K a us ns b := if_neg m
      rcases scrH_or K a us ns b with h | ⟨h1, h2, h3⟩
      · exact .inl (e.trans h)
      · exact .inr (.inr ⟨h1, h2, e.trans h3⟩)
  have off : ∀ {b : Addr} {o : Obj}, t0.heap.get? b = some o → (b ∈ cs.map (·.2) → False) → (b = a → K.lookup a = none → False) → (hidT t0.heap (scrT K (cs.map (·.2)) a us ns)).get? b = some o := fun {b o} e z1 z2 => by
    refine hidT_get e ?_
    rcases cases_ b with h | ⟨h, _⟩ | ⟨h1, h2, _⟩
    · exact h
    · exact (z1 h).elim
    · exact (z2 h1 h2).elim
  have other : ∀ {b : Addr} {o : Obj}, t0.heap.get? b = some o → (∀ vs n, o.data ≠ .seq vs n) → o.data ≠ .fields #[] → (hidT t0.heap (scrT K (cs.map (·.2)) a us ns)).get? b = some o := fun {b o} e z1 z2 => by
    refine off e (fun m => ?_) fun m _ => ?_
    · rw [(ofT m).1] at e; cases e; exact z2 rfl
    · rw [m, there] at e; cases e; exact z1 _ _ rfl
  have names : ∀ {b : Addr} {m : Str → Option Value}, t0.heap.Ns b m → (hidT t0.heap (scrT K (cs.map (·.2)) a us ns)).Ns b m := fun {b m} ⟨o, es, ep, e, d, r⟩ =>
    ⟨o, es, ep, other e (fun vs n z => by rw [d] at z; cases z) (fun z => by rw [d] at z; cases z), d, r⟩
  have inB : K.In (hidT t0.heap (scrT K (cs.map (·.2)) a us ns)) := fun b o e => off (inK b o e) (fun m => by rw [(ofT m).2] at e; cases e) fun z1 z2 => by
    rw [z1, z2] at e; cases e
  have top : Mod K mg (hidT t0.heap (scrT K (cs.map (·.2)) a us ns)) := ⟨inB, names g1, ⟨mb, names g2, g3⟩, let ⟨mc, h1, h2⟩ := g4; ⟨mc, names h1, h2⟩⟩
  have hok : HOk P w (scrT K (cs.map (·.2)) a us ns) t0.heap := fun b u z => by
    rcases cases_ b with h | ⟨h1, h2⟩ | ⟨h1, _, h3⟩
    · rw [h] at z; cases z
    · rw [h2] at z
      cases z
      exact (ofT h1).1
    · rw [h3] at z
      cases z
      subst h1
      exact ⟨there, by rw [List.length_map]; exact few, us, _, rel, there⟩
  have env : Env0 P w K mg (hidT t0.heap (scrT K (cs.map (·.2)) a us ns)) callerA [] t0 (scrT K (cs.map (·.2)) a us ns) :=
    ⟨rfl, top, fun b o e => of_hidT e, Nat.le_of_eq (hidT_size _ _), trivial, fun b hb => (nomatch hb), hok, .of_eq g5⟩
  have tabB : ∀ q ∈ cs, TabB (hidT t0.heap (scrT K (cs.map (·.2)) a us ns)) mg q.1 q.2 := fun q hq => by
    have eT := empty q hq
    have gP : mainGlobals ≠ q.2 := fun z => by
      obtain ⟨o, es, ep, e, d, _⟩ := g1
      rw [z, eT] at e; cases e; cases d
    refine ⟨?_, ?_, gP⟩
    · obtain ⟨o, vs, file, tf, flags, tg, inF, text, tt, e1, r1, r2, r3, more⟩ := heads q hq
      exact ⟨o, vs, file, tf, flags, tg, inF, text, tt, other e1 (fun vs n z => by rw [r2] at z; cases z) (fun z => by rw [r2] at z; cases z; simp at r3), r1, r2, r3, more⟩
    · obtain ⟨bm, ob, b1, b2, b3, b4, b5, b6⟩ := bltn
      refine ⟨bm, ob, b1, b2, fun z => ?_, fun z => ?_, other b3 (fun vs n z => by rw [b6] at z; cases z) (fun z => by rw [b6] at z; cases z), b4, b5, b6⟩
      · obtain ⟨o, es, ep, e, d, _⟩ := g1
        rw [z, e] at b3; cases b3; rw [d] at b6; cases b6
      · rw [z, eT] at b3; cases b3; cases b6
  have seen : SqL K (scrT K (cs.map (·.2)) a us ns) a (ns.map V.int) := by
    have ea : scrT K (cs.map (·.2)) a us ns a = scrH K a us ns a := if_neg aT
    cases lk : K.lookup a with
    | none => exact .inl (.inr ⟨scrO us, ea.trans (if_pos ⟨rfl, lk⟩)⟩)
    | some o =>
      have e := inK a o lk
      rw [there] at e
      cases e
      exact .inr ⟨_, us.toArray, _, lk, rfl, rfl, rfl, by rw [List.size_toArray, hin.length]; exact few, by simpa using rel⟩
  have tabs0 : ∀ q ∈ cs, scrT K (cs.map (·.2)) a us ns q.2 = some (.tbl #[]) := fun q hq => if_pos (List.mem_map.mpr ⟨q, hq, rfl⟩)
  refine codeAny_mono ((G _ inB (names g1) tabB).run callerA [] t0 (scrT K (cs.map (·.2)) a us ns) ⟨[.ref a], []⟩ [.ref a] [.ref a] _ _ ⟨room, rfl⟩ env (binds t0 (.ref a)) (.cons rfl .nil) (promise _ tabs0 seen)) fun r s' end_ => ?_
  match r, end_ with
  | .error e, end_ => exact (noX _ e s' end_).elim
  | .ok .next, end_ => exact False.elim end_
  | .ok .brk, end_ => exact False.elim end_
  | .ok .cont, end_ => exact False.elim end_
  | .ok (.ret u), ⟨v, H', os, bare, un, hok', r', q⟩ =>
    have q' : v = .bl true := q
    subst q'
    obtain rfl : u = Value.bool true := r'
    have kept : ∀ b o, b ∉ cs.map (·.2) → t0.heap.get? b = some o → s'.heap.get? b = some o := fun b o nb e => by
      rcases cases_ b with h | ⟨h, _⟩ | ⟨h1, h2, h3⟩
      · exact un.keep b o e h (fun z => (nomatch z)) (fun z => (nomatch z))
      · exact (nb h).elim
      · obtain ⟨e1, _⟩ := hok b _ h3
        obtain ⟨e2, _⟩ := hok' b _ (un.frzs b _ _ h3)
        rw [e] at e1
        cases e1
        exact e2
    have grown : ∀ qc ∈ cs, ∃ more : Array Value, s'.heap.get? qc.2 = some { cls := .none, data := .fields more } := fun qc hq => by
      obtain ⟨more, z⟩ := un.tbls qc.2 #[] (tabs0 qc hq)
      exact ⟨_, hok' qc.2 _ z⟩
    refine ⟨rfl, ⟨fun b o e => ?_, fun b o e => ?_⟩, os, bare⟩
    · by_cases m : b ∈ cs.map (·.2)
      · obtain ⟨qc, hq, rfl⟩ := List.mem_map.mp m
        obtain ⟨more, hm⟩ := grown qc hq
        rw [empty qc hq] at e
        cases e
        exact .inr (.inl ⟨((heads qc hq).tab (empty qc hq)).isCodeTable, rfl, #[], more, rfl, by rw [Array.empty_append]; exact hm⟩)
      · exact .inl (kept b o m e)
    · by_cases m : b ∈ cs.map (·.2)
      · obtain ⟨qc, hq, rfl⟩ := List.mem_map.mp m
        obtain ⟨more, hm⟩ := grown qc hq
        exact ⟨_, hm⟩
      · exact ⟨o, kept b o m e⟩
/-- what is known of the law's promise at the head's heap -/
def LawT (l : PySem.W.OpenLaw) (w : World) (K : PySem.W.Frag) (CX : CXT) (k n : Nat) (x : Str) (mg : Str → Option Value) (fa : Addr) (h : Heap) : Prop := ∃ (fd : FuncData) (cs : List (Addr × Addr)) (sp : Sp),
  (∀ q ∈ cs, h.get? q.2 = some tabO ∧ K.lookup q.2 = none ∧ PySem.W.codeHdIn K q.1 q.2 = true) ∧ (∀ (s : Shared) (u : Value), BindsTo s fd ⟨[u], []⟩ [(x, u)]) ∧
    (∀ (H : Hp) (a : Addr) (ns : List Int), ns.length ≤ n → (∀ z ∈ ns, Builtin.Int.intBits z ≤ 1048576) → (∀ q ∈ cs, H q.2 = some (.tbl #[])) → SqL K H a (ns.map V.int) → sp [.ref a] H (fun v _ => v = .bl true) fun _ _ _ => False) ∧
    ∀ b0 : Heap, K.In b0 → b0.Ns mainGlobals mg → (∀ q ∈ cs, TabB b0 mg q.1 q.2) → Fg l.prog w K mg b0 CX k fa fd [x] sp
theorem walkGT {l : PySem.W.OpenLaw} {n k : Nat} {q : Program} {loose : List Str} {XP : (Str → Option Value) → Heap → Prop} {YP : World → Heap → Prop} {d : DefRec} {K : Params → PySem.W.Frag} {CX : World → CXT} {x : Str} (most : l.most = some n) (few : n ≤ sizeLine)
    (plain : d.params.defaults = []) (room : Room k callerA) (inK : ∀ (w : World) (h : Heap), YP w h → (K w.params).In h)
    (G : ∀ (w : World) (mg : Str → Option Value) (fa : Addr) (h : Heap), YP w h → (K w.params).In h → h.Ns mainGlobals mg → mg d.name = some (.ref fa) → LawT l w (K w.params) (CX w) k n x mg fa h)
    (noX : ∀ (w : World) (H : Hp) (s : Shared) (e : Value) (s' : Shared), CX w [] H s (fun _ _ _ => False) e s' → False) :
    PySem.W.WalkO q loose XP YP l.row.toRowW d [] (fun f vs => PySem.call f vs) := by
  refine Att.attach_callB most plain fun w _ t0 mg mb fa _ _ _ _ a us ns gr y _ _ _ at_ there hin len bits gens => ?_
  have KX := inK w _ y
  obtain ⟨fd, cs, sp, tabs, binds, promise, hF⟩ := G w mg fa _ y KX gr.T.g at_
  exact lawGT KX gr.T.g gr.T.b gr.T.builtins gr.T.nolimit gens (fun q hq => (tabs q hq).1) (fun q hq => (tabs q hq).2.1) (fun q hq => PySem.W.codeHd_of_K KX (tabs q hq).2.2) gr.T.bmain there hin (Nat.le_trans len few) room hF binds (fun H hT seen => promise H a ns len bits hT seen) fun H e s' => noX w H t0 e s'
end
end KX

namespace KX
open PySem PySem.Spec PyProof.Rows L2
/-! ### the written part holds sys.modules, which is no list: so no list's address is its own -/
def SysD (K : PySem.W.Frag) : Prop := ∃ o, K.lookup sysModules = some o ∧ (o.cls == Value.type "list") = false
theorem sys_of {K : PySem.W.Frag} (h : sysB K = true) : SysD K := by
  unfold sysB at h
  split at h
  · rename_i o e
    exact ⟨o, e, by simpa using h⟩
  · cases h
section
variable {X : Cx} {pins : List (Addr × Obj)} {σ : L2.St} {H : Hp} {s : Shared}
theorem not_sys (S : SysD X.K) (I : Inv X pins σ H s) {a : Addr} {xs : List V} (h : SqL X.K H a xs) : a ≠ sysModules := by
  obtain ⟨o, e, hc⟩ := S
  obtain ⟨its, rv, ⟨o2, n, ho, hc2, _, hd⟩, _⟩ := I.list h
  intro z
  have e2 := I.kIn _ _ e
  rw [z, e2] at ho
  cases ho
  rw [hc2] at hc
  simp at hc
mutual
theorem DaF.up (S : SysD X.K) (I : Inv X pins σ H s) {b : Bool} : ∀ {v : V} {d : PyData}, DaF b X.K H v d → DaS X.K H v d
  | _, _, .non => DaF.non
  | _, _, .bl c => DaF.bl c
  | _, _, .int i => DaF.int i
  | _, _, .str x => DaF.str x
  | _, _, .lst h _ a => DaF.lst h (fun _ => not_sys S I h) (DaAllF.up S I a)
  | _, _, .tup h a => DaF.tup h (DaAllF.up S I a)
  | _, _, .dic h a => DaF.dic h (DaKvF.up S I a)
theorem DaAllF.up (S : SysD X.K) (I : Inv X pins σ H s) {b : Bool} : ∀ {vs : List V} {ds : List PyData}, DaAllF b X.K H vs ds → DaAllS X.K H vs ds
  | _, _, .nil => DaAllF.nil
  | _, _, .cons a r => DaAllF.cons (DaF.up S I a) (DaAllF.up S I r)
theorem DaKvF.up (S : SysD X.K) (I : Inv X pins σ H s) {b : Bool} : ∀ {kvs : List (Key × V)} {ds : List (PyData × PyData)}, DaKvF b X.K H kvs ds → DaKvF true X.K H kvs ds
  | _, _, .nil => DaKvF.nil
  | _, _, .cons a r => DaKvF.cons (DaF.up S I a) (DaKvF.up S I r)
end
end
def rReprE (K : PySem.W.Frag) : List V → Hp → VK → Prop := fun xs H Q => ∃ b v d, xs = [v] ∧ DaF b K H v d ∧ Shw d ∧ Q (.str d.shown) H
theorem call_reprE {X : Cx} (S : SysD X.K) (hr : Rg 1 X.A) : CallR X (.builtin "repr") (rReprE X.K) := by
  intro pins s σ H xs us Q I r ⟨b, v, d, e, h, w, q⟩
  exact call_reprD hr.gd (by have := hr.room.un; omega) pins s σ H xs us Q I r ⟨true, v, d, e, DaF.up S I h, .inl rfl, w, q⟩
theorem call_reprEK {X : Cx} {K : PySem.W.Frag} (hK : X.K = K) (S : SysD K) (hr : Rg 1 X.A) : CallR X (.builtin "repr") (rReprE K) := by
  subst hK; exact call_reprE S hr
theorem i_reprE {b : Bool} {K : PySem.W.Frag} {H : Hp} {Q : VK} {v : V} {d : PyData} (h : DaF b K H v d) (w : Shw d) (q : Q (.str d.shown) H) : rReprE K [v] H Q := ⟨b, v, d, rfl, h, w, q⟩
end KX

namespace KX
open PySem PySem.Spec PyProof.Rows L2
/-! ### t[::-1] of a tuple -/
theorem pick_back (items : Array Value) : ((List.range items.size).filterMap fun (k : Nat) => items[(((items.size : Int) - 1) + (k : Int) * (-1)).toNat]?).toArray = items.toList.reverse.toArray := by
  have e : ((List.range items.size).filterMap fun (k : Nat) => items[(((items.size : Int) - 1) + (k : Int) * (-1)).toNat]?) = ((List.range items.size).map fun k => items.size - 1 - k).filterMap (items[·]?) := by
    rw [List.filterMap_map]
    have gen : ∀ l : List Nat, (∀ k ∈ l, k < items.size) → (l.filterMap fun (k : Nat) => items[(((items.size : Int) - 1) + (k : Int) * (-1)).toNat]?) = l.filterMap ((items[·]?) ∘ fun k => items.size - 1 - k) := by
      intro l
      induction l with
      | nil => intro _; rfl
      | cons k l ih =>
        intro h
        have hk := h k List.mem_cons_self
        have z : (((items.size : Int) - 1) + (k : Int) * (-1)).toNat = items.size - 1 - k := by omega
        rw [List.filterMap_cons, List.filterMap_cons, ih fun m hm => h m (List.mem_cons_of_mem _ hm), z]
        rfl
    exact gen _ fun k hk => List.mem_range.mp hk
  rw [e, PySem.W.krv_range, List.filterMap_reverse, PySem.W.krv_all]
section
variable {prog : Program} {w : World} {A : Around} {E : Value → Shared → Prop} {s : Shared}
theorem applied_back {sl : Addr} {vl vu vs : Value} {n : Nat} {Q : Int × Int × Nat → Shared → Prop} (hs : s.heap.IsSliceOf sl vl vu vs) (pl : IsPart vl none) (pu : IsPart vu none) (ps : IsPart vs (some (-1)))
    (h : Q ((n : Int) - 1, -1, n) s) : wpAny (model prog w) A (Builtin.Slice.sliceApplied (.ref sl) (pure (n : Int))) Q E s := by
  obtain ⟨os, hos, _, hds⟩ := id hs
  unfold Builtin.Slice.sliceApplied Builtin.Slice.sliceFields
  refine wpAny_bind (wpAny_bind (wpAny_field hos hds (x := vl) rfl (wpAny_bind (wpAny_field hos hds (x := vu) rfl (wpAny_bind (wpAny_field hos hds (x := vs) rfl (wpAny_pure ?_)))))))
  refine wpAny_bind (HT.slicePart_ ps ?_)
  show wpAny _ _ (if ((-1 : Int) == 0) = true then _ else _) _ _ s
  rw [if_neg (by decide)]
  refine wpAny_bind (HT.slicePart_ pl (wpAny_bind (HT.slicePart_ pu (wpAny_bind (wpAny_pure ?_)))))
  show wpAny _ _ (pure ((n : Int) - 1, (-1 : Int), Builtin.Slice.slicePlaces ((n : Int) - 1) (-1) (-1))) _ _ s
  have e : Builtin.Slice.slicePlaces ((n : Int) - 1) (-1) (-1) = n := by
    unfold Builtin.Slice.slicePlaces
    have h1 : ¬ ((-1 : Int) > 0) := by decide
    simp only [h1, if_false]
    split
    · rw [show (- -1 : Int) = 1 by decide, Int.ediv_one]; omega
    · omega
  rw [e]
  exact wpAny_pure h
theorem tuple_back {t sl : Addr} {items : Array Value} {vl vu vs : Value} {Q : Value → Shared → Prop} (ht : IsTup s.heap t items) (hs : s.heap.IsSliceOf sl vl vu vs) (pl : IsPart vl none) (pu : IsPart vu none) (ps : IsPart vs (some (-1)))
    (h : Q (.ref s.heap.objs.size) { s with heap := s.heap.push { cls := .type "tuple", data := .seq items.toList.reverse.toArray } }) (few : items.size ≤ sizeLine) : wpAny (model prog w) A (getItem (.ref t) (.ref sl)) Q E s := by
  have fits : sizeOk (.seq items.toList.reverse.toArray) := by
    show items.toList.reverse.toArray.size ≤ sizeLine
    rw [List.size_toArray, List.length_reverse, Array.length_toList]; exact few
  have hTs : s.TypeIs (.ref sl) "slice" := let ⟨os, hos, hcs, _⟩ := id hs; ⟨os, hos, hcs⟩
  unfold getItem
  try with_reducible refine wpAny_holding ?_
  first | refine wpAny_bind (wpAny_pure ?_) | skip
  refine wpAny_bind (wpAny_sequenceKey ht.typeIs (by decide) ?_)
  refine wpAny_bind (wpAny_callSpecial?_slot (name := Str.ofString "__getitem__") ht.typeIs PyProof.Rows.slot_tuple_getitem (wpAny_call_entry PyProof.Rows.slot_tuple_getitem ht.typeIs entry_tuple_getitem ?_ (args_tuple_getitem _ _)))
  show wpAny _ _ (Builtin.Tuple.tupleItemsOf (.ref t) >>= _) _ _ s
  refine wpAny_bind (tupleItemsOf_ ht ?_)
  refine wpAny_bind (wpAny_typeOf hTs ?_)
  rw [if_pos (by decide)]
  refine wpAny_bind (applied_back hs pl pu ps ?_)
  show wpAny _ _ (if (((items.size : Int) - 1) == 0 && (-1 : Int) == 1 && items.size == items.size) = true then _ else _) _ _ s
  rw [if_neg (by rw [show ((-1 : Int) == 1) = false from rfl, Bool.and_false, Bool.false_and]; exact Bool.false_ne_true), pick_back]
  first
    | exact wpAny_bind (m := Builtin.Tuple.tupleExact _) (wpAny_newObj_type (wpAny_pure ⟨_, rfl, wpAny_pure h⟩) fits)
    | exact wpAny_bind (m := Builtin.Tuple.tupleExact _) (wpAny_newObj_type (wpAny_bind (wpAny_pure (wpAny_pure ⟨_, rfl, wpAny_pure h⟩))) fits)
    | exact wpAny_bind (wpAny_bind (m := Builtin.Tuple.tupleExact _) (wpAny_newObj_type (wpAny_pure (wpAny_pure ⟨_, rfl, wpAny_pure h⟩)) fits))
    | exact wpAny_bind (wpAny_bind (m := Builtin.Tuple.tupleExact _) (wpAny_newObj_type (wpAny_pure ⟨_, rfl, wpAny_pure h⟩) fits))
end
def tRevT (K : PySem.W.Frag) (te : TE) : TE := fun σ H Q => te σ H fun x H1 => ∃ a xs, x = .ref a ∧ SqT K H1 a xs ∧ NewR H1 (.tup xs.reverse) Q
theorem pe_revT {X : Cx} {e : Expr} {te : TE} {k : Nat} {p1 p2 p3 pos : Pos} (he : PE X e te) : PE X (.Subscript e (.Slice none none (some (.UnaryOp .USub (.Constant (.int 1) k p1) p2)) p3) pos) (tRevT X.K te) := by
  refine ⟨fun pins s σ H Q I h => ?_⟩
  refine Subscript_ (thn (he.run pins s σ H _ I h) fun v s1 ⟨x, H1, I1, r1, a, xs, ex, hx, q⟩ => ?_)
  subst ex
  cases r1
  have step : PO X (some (.UnaryOp .USub (.Constant (.int 1) k p1) p2)) (tPart (tUn (rU fun i => .int (-i)) (tC (.int 1)))) := po_some (pe_un un_neg pe_int)
  refine wpAny_Slice (thn (po_none.run pins s1 σ H1 (fun o G => o = none ∧ G = H1) I1 ⟨rfl, rfl⟩) fun vl s2 ⟨l, G2, J2, pl, el, e2⟩ => ?_)
  subst el e2
  refine thn (po_none.run pins s2 σ G2 (fun o G => o = none ∧ G = G2) J2 ⟨rfl, rfl⟩) fun vu s3 ⟨u, G3, J3, pu, eu, e3⟩ => ?_
  subst eu e3
  refine thn (step.run pins s3 σ G3 (fun o G => o = some (-1) ∧ G = G3) J3 ⟨1, rfl, -1, rfl, rfl, rfl⟩) fun vs s4 ⟨o, G4, J4, ps, eo, e4⟩ => ?_
  subst eo e4
  have J5 : Inv X pins σ G4 { s4 with heap := s4.heap.push { cls := .type "slice", data := .fields #[vl, vu, vs] } } := J4.kept (t' := s4.toks) fun b ob q => Heap.get?_push_of_some _ q
  obtain ⟨its, r, ht, hz⟩ := J5.tuple hx
  have hlen := r.length
  show wpAny (model X.prog X.w) X.A (subscriptTail e (.Slice none none (some (.UnaryOp .USub (.Constant (.int 1) k p1) p2)) p3) (.ref a) (.ref s4.heap.objs.size)) (EP X pins σ Q) X.xe { s4 with heap := s4.heap.push { cls := .type "slice", data := .fields #[vl, vu, vs] } }
  refine tail_any (ops := [.ref a, .ref s4.heap.objs.size]) ht.typeIs (PyProof.Rows.slot_tuple_getitem.lookup) ?_ (by with_unfolding_all rfl)
  refine tuple_back ht (Heap.IsSliceOf.new _ vl vu vs) pl pu ps ?_ (by rw [List.size_toArray]; omega)
  refine ⟨.ref _, _, J5.laid (t' := s4.toks) (o := .tup xs.reverse) (fun b ob q => Heap.get?_push_of_some _ q) (Nat.le_refl _) ?_, rfl, q _ (J5.hok.fresh (Nat.le_refl _))⟩
  exact ⟨by rw [List.length_reverse]; exact hz, _, r.reverse, IsTup.new _ _⟩
/-! ### xs.count(y), flat items -/
theorem eqU_count {y : V} : ∀ {ys : List V} {us : List Value}, Vals ys us → ys.all flatV = true → us.countP (eqU y) = ys.countP (fun z => eqV z y)
  | _, _, .nil, _ => rfl
  | _, _, .cons r h, f => by
    simp only [List.all_cons, Bool.and_eq_true] at f
    rw [List.countP_cons, List.countP_cons, eqU_of r f.1, eqU_count h f.2]
def rCntF (K : PySem.W.Frag) : V → List V → Hp → VK → Prop := fun x xs H Q => ∃ (p : Addr) (ys : List V) (y : V), x = .ref p ∧ xs = [y] ∧ SqL K H p ys ∧ flatV y = true ∧ ys.all flatV = true ∧ Q (.int (ys.countP fun z => eqV z y : Nat)) H
theorem mt_countF {X : Cx} : MtR X "list.count" (rCntF X.K) := by
  intro pins s σ H x xs v us Q I rx rxs h
  obtain ⟨p, ys, y, rfl, rfl, hs, fy, fys, q⟩ := h
  cases rx
  obtain ⟨u, rfl, ru⟩ := rxs.one
  obtain ⟨its, rv, ⟨⟨cls, dd, data, sl⟩, n, ho, hc, _, hd⟩, _⟩ := I.list hs
  simp only at hc hd
  subst hc hd
  refine call_meets PySem.F.slot_list_count ⟨_, ho, rfl⟩ PySem.F.entry_list_count (PySem.F.args_list_count_2 _ _)
    (SeqAt.list_countAt p its.toArray n dd sl u (eqU y)) ⟨ho, fun z hz => mem_eqAt ru fy rv fys z (by simpa using hz), ?_⟩
  refine ⟨.int (ys.countP fun z => eqV z y : Nat), H, I.tok _, ⟨s.toks, ?_⟩, q⟩
  show Value.int ((its.toArray.toList.countP (eqU y) : Nat) : Int) s.toks = Value.int ((ys.countP fun z => eqV z y : Nat) : Int) s.toks
  rw [show its.toArray.toList = its from rfl, eqU_count rv fys]
/-! ### with the written part told by name: for suites, whose readings may not hang on the context -/
section
variable {X : Cx} {K : PySem.W.Frag} (hK : X.K = K)
include hK
theorem pe_bmK {o e : Expr} {es : List Expr} {to : TE} {t : TA} {name : Str} {apos cpos : Pos} {T id : String} {r : V → List V → Hp → VK → Prop} (pa : PlainAttrs T) (slot : Slot T name id) (hty : typeOf (.builtin id) = pure (.type "method_descriptor")) (hm : MtR X id r) (ho : PE X o to) (ha : PA X (e :: es) t)
    (hbase : attributeBase o name X.env (eval o X.env) = eval o X.env := by rfl)
    (hfew : ((backTo cpos (starEach (e :: es) X.env)).all (fun x => !x.1) && (backToKw cpos (keywordEach [] X.env)).all (fun x => x.1.isSome) && decide ((e :: es).length + ([] : List Keyword).length + (if ([] : List Keyword).isEmpty then 0 else 1) < 30)) = true := by rfl)
    (hline : (apos.endLine == cpos.line) = true := by rfl) (he : starEach (e :: es) X.env = (false, eval e X.env) :: starEach es X.env := by rfl) (hpl : (backTo cpos (starEach es X.env)).any (·.1) = false := by rfl) :
    PE X (.Call (.Attribute o name apos) (e :: es) [] cpos) (tBM K T r to t) := by subst hK; exact pe_bm pa slot hty hm ho ha hbase hfew hline he hpl
theorem mt_countFK : MtR X "list.count" (rCntF K) := by subst hK; exact mt_countF
theorem mt_indexK : MtR X "list.index" (rIndex K) := by subst hK; exact mt_index
end
/-! ### isinstance(e, (c, ..)) of an exception in hand -/
def KitL (K : PySem.W.Frag) (C : Addr) : List V → List Bool → Prop
  | [], [] => True
  | c :: cs, b :: bs => (∃ cv, (∀ u, RelV c u → u = cv) ∧ PySem.W.kitOne K (.ref C) cv = some b) ∧ KitL K C cs bs
  | _, _ => False
theorem kitL_any {K : PySem.W.Frag} {C : Addr} : ∀ {cs : List V} {bs : List Bool} {us : List Value}, KitL K C cs bs → Vals cs us → PySem.W.kitAny K (.ref C) us = some (bs.any id)
  | [], [], _, _, .nil => rfl
  | c :: cs, b :: bs, _, ⟨⟨cv, h1, h2⟩, k⟩, .cons r1 r2 => by
    have ih := kitL_any k r2
    rw [h1 _ r1]
    unfold PySem.W.kitAny
    rw [h2]
    cases b with
    | true => rfl
    | false => simpa using ih
  | [], _ :: _, _, h, _ => h.elim
  | _ :: _, [], _, h, _ => h.elim
def rIsXT (K : PySem.W.Frag) (cls : Value) (d : Option Addr) (a : Addr) : List V → Hp → VK → Prop := fun xs H Q => ∃ (D t : Addr) (cs : List V) (bs : List Bool), cls = .ref D ∧ (∃ n i m, ExT K n i m D) ∧ ClassGet K ∧ xs = [.ref a, .ref t] ∧ H t = some (.tup cs) ∧ KitL K D cs bs ∧
  (∀ dd, d = some dd → ∃ fs, H dd = some (.xd fs)) ∧ Q (.bl (bs.any id)) H
theorem i_isXT {K : PySem.W.Frag} {a D t : Addr} {d : Option Addr} {cs : List V} {bs : List Bool} {n i : String} {m : List Value} {H : Hp} {Q : VK} (T : ExT K n i m D) (G : ClassGet K) (e : H t = some (.tup cs)) (k : KitL K D cs bs) (hd : ∀ dd, d = some dd → ∃ fs, H dd = some (.xd fs)) (q : Q (.bl (bs.any id)) H) :
    rIsXT K (.ref D) d a [.ref a, .ref t] H Q := ⟨D, t, cs, bs, rfl, ⟨n, i, m, T⟩, G, rfl, e, k, hd, q⟩
theorem call_isXT {X : Cx} {a : Addr} {cls : Value} {d : Option Addr} {oe : Obj} {pn : List (Addr × Obj)} (hz : Zc cls d oe) (hf : ∃ vs, oe.data = .fields vs) : CallR (X.suite a ((a, oe) :: pn)) (.builtin "isinstance") (rIsXT X.K cls d a) := by
  intro pins s σ H xs us Q I r h
  obtain ⟨D, t, cs, bs, rfl, ⟨_, _, _, T⟩, G, rfl, et, k, hd, q⟩ := h
  obtain ⟨u1, u2, rfl, r1, r2⟩ : ∃ u1 u2, us = [u1, u2] ∧ RelV (.ref a) u1 ∧ RelV (.ref t) u2 := by
    cases r with
    | cons r1 r => cases r with
      | cons r2 r => cases r; exact ⟨_, _, rfl, r1, r2⟩
  cases r1
  cases r2
  obtain ⟨_, its, rel, ⟨⟨oc, od2, odt, osl⟩, ho, hc, n, hdt⟩⟩ : ObjOk X.prog X.w H s.heap t (.tup cs) := I.hok t _ et
  simp only at hc hdt
  subst hc hdt
  obtain ⟨there, _⟩ := I.pin (a, oe) (List.mem_append.mpr (.inl List.mem_cons_self))
  obtain ⟨vs, hv⟩ := hf
  have nc : PySem.W.notCls oe = true := by unfold PySem.W.notCls; rw [hv] <;> rfl
  have J : ∃ od, PySem.W.InstAt s.heap a oe D od := by
    cases d with
    | none => exact ⟨none, there, hz.1, nc, by rw [hz.2]; trivial⟩
    | some dd =>
      obtain ⟨fs, e⟩ := hd dd rfl
      obtain ⟨mA, ⟨o, es, ep, ho, _⟩, _⟩ : ObjOk X.prog X.w H s.heap dd (.xd fs) := I.hok dd _ e
      exact ⟨some o, there, hz.1, nc, by rw [hz.2]; exact ho⟩
  obtain ⟨od, J⟩ := J
  exact PySem.W.kia_tup (PySem.W.kitx_exc (hasD T.o.hd) T.ga T.gg T.o.exC T.cl G.hn G.ht T.hm) I.kIn J ho (kitL_any k rel) (fun z => nomatch z) fun tk => ⟨.bl _, H, I.kept (t' := tk) fun _ _ z => z, rfl, q⟩
theorem off_none {r p : Addr} {H H' : Hp} (s : Off r H H') (n : p ≠ r) (h : H' p = none) : H p = none := by
  cases e : H p with
  | none => rfl
  | some o => rw [s _ _ n e] at h; cases h
theorem p10_40 : (10 : Int) ^ Int.toNat 40 = 10000000000000000000000000000000000000000 := by decide +kernel
/-- list(t), its address none of the run's own -/
def rListTN (K : PySem.W.Frag) : List V → Hp → VK → Prop := fun xs H Q => ∃ p ys, xs = [.ref p] ∧ (SqL K H p ys ∨ SqT K H p ys) ∧ NewN H (.lst ys) Q
theorem call_listTN {X : Cx} : CallR X (.type "list") (rListTN X.K) := by
  intro pins s σ H xs us Q I r h
  obtain ⟨p, ys, rfl, hq, q⟩ := h
  obtain ⟨u, rfl, rx⟩ := vals1 r
  cases rx
  have made : ∀ its : List Value, Vals ys its → ys.length ≤ sizeLine → ∀ (h' : Heap) (c : Nat), (∀ b o, s.heap.get? b = some o → h'.get? b = some o) →
      h'.get? s.heap.objs.size = some { cls := .type "list", dict := none, data := .seq its.toArray c, slots := #[] } → EP X pins σ Q (.ref s.heap.objs.size) { s with heap := h' } := fun its rel few h' c keep e =>
    ⟨.ref s.heap.objs.size, _, I.laid (t' := s.toks) keep (Nat.le_refl _) (show ObjOk X.prog X.w _ h' _ (.lst ys) from ⟨few, its, c, rel, e⟩), rfl, q _ (I.hok.fresh (Nat.le_refl _)) (Nat.ne_of_gt I.big)⟩
  rcases hq with hq | hq
  · obtain ⟨its, rel, pl, few⟩ := I.list hq
    have := rel.length
    obtain ⟨o, ho, hc, n, hd⟩ := pl.isList
    exact call_list_seq p (.inl rfl) ho hc hd (fun h' c keep e => made its rel few h' c keep e) (by simp only [List.size_toArray] <;> omega)
  · obtain ⟨its, rel, pl, few⟩ := I.tuple hq
    have := rel.length
    obtain ⟨o, ho, hc, n, hd⟩ := pl
    exact call_list_seq p (.inr rfl) ho hc hd (fun h' c keep e => made its rel few h' c keep e) (by simp only [List.size_toArray] <;> omega)
theorem i_listTN {K : PySem.W.Frag} {H : Hp} {Q : VK} {a : Addr} {xs : List V} (h : SqT K H a xs) (q : NewN H (.lst xs) Q) : rListTN K [.ref a] H Q := ⟨a, xs, rfl, .inr h, q⟩
theorem extN_off {H G0 G G' : Hp} {p : Addr} (x : LamX.ExtN H G0) (n : G0 p = none) (y : LamX.ExtN G0 G) (o : Off p G G') : LamX.ExtN H G' := fun b u h k => by
  have h0 := x b u h k
  exact o b u (fun z => by rw [z, n] at h0; cases h0) (y b u h0 k)
theorem tabs_off {T : List (Addr × Str)} {G G' : Hp} {p : Addr} {xs : List V} (t : LamX.Tabs T G) (e : G p = some (.lst xs)) (o : Off p G G') : LamX.Tabs T G' := fun q hq => by
  obtain ⟨ps, h1, h2, h3⟩ := t q hq
  refine ⟨ps, o _ _ (fun z => by rw [z, e] at h1; cases h1) h1, h2, fun pos cv hc => ?_⟩
  obtain ⟨c, e1, e2⟩ := h3 pos cv hc
  exact ⟨c, e1, o _ _ (fun z => by rw [z, e] at e2; cases e2) e2⟩
/-! ### bounds on shown texts and on their signs -/
structure Shc (d : PyData) (n k : Nat) : Prop where
  ok : d.showable = true
  dp : d.depth ≤ k
  tx : okS d.shown n
theorem Shc.sh {d : PyData} {n k : Nat} (h : Shc d n k) : Sh d n k := ⟨h.ok, h.dp, h.tx.1⟩
theorem Shc.mono {d : PyData} {n k n' k' : Nat} (h : Shc d n k) (a : n ≤ n') (b : k ≤ k') : Shc d n' k' := ⟨h.ok, Nat.le_trans h.dp b, h.tx.mono a⟩
theorem okS_join {sep : Str} {n m : Nat} (hs : okS sep m) : ∀ ts : List Str, (∀ t ∈ ts, okS t n) → okS (Str.join sep ts) (ts.length * (n + m))
  | [], _ => by
    refine ⟨by show 0 ≤ _; omega, fun c hc => ?_⟩
    have e : (Str.join sep []).cps.toList = [] := rfl
    rw [e] at hc; cases hc
  | [x], h => (h x (by simp)).mono (by rw [List.length_singleton, Nat.one_mul]; omega)
  | x :: y :: r, h => by
    have ih := okS_join hs (y :: r) (fun t ht => h t (List.mem_cons_of_mem _ ht))
    have z : okS (x ++ sep ++ Str.join sep (y :: r)) (n + m + (y :: r).length * (n + m)) := ((h x (by simp)).app hs).app ih
    refine okS.mono (x := Str.join sep (x :: y :: r)) z ?_
    have e : (x :: y :: r).length * (n + m) = (y :: r).length * (n + m) + (n + m) := by rw [List.length_cons, Nat.add_mul, Nat.one_mul]
    omega
theorem okS_lit {x : Str} {n : Nat} (h : (decide (x.length ≤ n) && x.cps.toList.all fun c => decide (c < 1114112)) = true) : okS x n := by
  simp only [Bool.and_eq_true, decide_eq_true_eq, List.all_eq_true] at h
  exact h
theorem Shc.lst {ds : List PyData} {n k : Nat} (h : ∀ d ∈ ds, Shc d n k) : Shc (.list ds) (ds.length * (n + 2) + 2) (k + 1) := by
  refine ⟨by simp only [PyData.showable]; exact showableAll_of fun d hd => (h d hd).ok, ?_, ?_⟩
  · have := depthAll_le fun d hd => (h d hd).dp
    simp only [PyData.depth]; omega
  · rw [PyData.shown_list]
    have := okS_join (sep := (", " : Str)) (n := n) (m := 2) (okS_lit (by decide +kernel)) (PyData.shownAll ds) fun t ht => by
      obtain ⟨d, hd, e⟩ := shownAll_mem ht
      rw [← e]; exact (h d hd).tx
    rw [PyData.shownAll_length] at this
    exact (((okS_lit (x := ("[" : Str)) (n := 1) (by decide +kernel)).app this).app (okS_lit (x := ("]" : Str)) (n := 1) (by decide +kernel))).mono (by omega)
theorem Shc.tup {ds : List PyData} {n k : Nat} (h : ∀ d ∈ ds, Shc d n k) : Shc (.tuple ds) (ds.length * (n + 2) + 3) (k + 1) := by
  refine ⟨by simp only [PyData.showable]; exact showableAll_of fun d hd => (h d hd).ok, ?_, ?_⟩
  · have := depthAll_le fun d hd => (h d hd).dp
    simp only [PyData.depth]; omega
  · rw [PyData.shown_tuple]
    have := okS_join (sep := (", " : Str)) (n := n) (m := 2) (okS_lit (by decide +kernel)) (PyData.shownAll ds) fun t ht => by
      obtain ⟨d, hd, e⟩ := shownAll_mem ht
      rw [← e]; exact (h d hd).tx
    rw [PyData.shownAll_length] at this
    have e2 : okS (((if (ds.length == 1) = true then ",)" else ")" : String) : Str)) 2 := by
      split
      · exact okS_lit (by decide +kernel)
      · exact okS_lit (by decide +kernel)
    exact (((okS_lit (x := ("(" : Str)) (n := 1) (by decide +kernel)).app this).app e2).mono (by omega)
theorem ofString_ch (s : String) : ∀ c ∈ (Str.ofString s).cps.toList, c < 1114112 := by
  intro c hc
  have e : (Str.ofString s).cps.toList = s.toList.map Char.toNat := by
    rw [Str.ofString_eq_toList]
  rw [e] at hc
  obtain ⟨x, _, rfl⟩ := List.mem_map.mp hc
  have := x.valid
  simp only [UInt32.isValidChar, Nat.isValidChar] at this
  show x.val.toNat < 1114112
  omega
theorem Shc.int {i : Int} (h : i.natAbs.log2 < 1920) : Shc (.int i) 1921 0 := by
  have z := Sh.int h
  refine ⟨z.ok, z.dp, z.ln, ?_⟩
  rw [PyData.shown_int]
  exact ofString_ch _
def shcB (d : PyData) (n k : Nat) : Bool := d.showable && (decide (d.depth ≤ k) && (decide (d.shown.length ≤ n) && d.shown.cps.toList.all fun c => decide (c < 1114112)))
theorem shc_of {d : PyData} {n k : Nat} (h : shcB d n k = true) : Shc d n k := by
  unfold shcB at h
  simp only [Bool.and_eq_true, decide_eq_true_eq, List.all_eq_true] at h
  exact ⟨h.1, h.2.1, h.2.2⟩
theorem shc_all {ds : List PyData} {n k : Nat} (h : (ds.all fun d => shcB d n k) = true) {d : PyData} (m : d ∈ ds) : Shc d n k := shc_of (List.all_eq_true.mp h d m)
theorem Shc.bl {b : Bool} : Shc (.bool b) 5 0 := by cases b <;> exact shc_of (by decide +kernel)
theorem Shc.non : Shc .none 4 0 := shc_of (by decide +kernel)
theorem Shc.str {d : PyData} {n k : Nat} (h : Shc d n k) : Sh (.str d.shown) (10 * n + 2) 0 := Sh.str h.tx
/-! ### readings -/
section
variable {K : PySem.W.Frag} {σ : L2.St} {H : Hp} {Q : VK}
theorem i_revT {te : TE} (q : te σ H fun x H1 => ∃ a xs, x = .ref a ∧ SqT K H1 a xs ∧ NewR H1 (.tup xs.reverse) Q) : tRevT K te σ H Q := q
theorem i_exrevT {a : Addr} {xs : List V} (h : SqT K H a xs) (q : NewR H (.tup xs.reverse) Q) : ∃ a' xs', V.ref a = .ref a' ∧ SqT K H a' xs' ∧ NewR H (.tup xs'.reverse) Q := ⟨a, xs, rfl, h, q⟩
theorem i_countF {p : Addr} {ys : List V} {y : V} (h : SqL K H p ys) (fy : flatV y = true) (fys : ys.all flatV = true) (q : Q (.int (ys.countP fun z => eqV z y : Nat)) H) : rCntF K (.ref p) [y] H Q := ⟨p, ys, y, rfl, rfl, h, fy, fys, q⟩
theorem i_indexF {p : Addr} {ys : List V} {y : V} {j : Nat} {z : V} (h : SqL K H p ys) (fy : flatV y = true) (fys : ys.all flatV = true) (e : ys[j]? = some z) (k : eqV z y = true) (no : ∀ (m : Nat) (z' : V), m < j → ys[m]? = some z' → eqV z' y = false) (q : Q (.int (j : Nat)) H) :
    rIndex K (.ref p) [y] H Q := ⟨p, ys, y, j, z, rfl, rfl, h, fy, fys, e, k, no, q⟩
/-- both tuples have items -/
theorem i_catA {a b : Addr} {xs ys : List V} (ha : SqT K H a xs) (hb : SqT K H b ys) (n1 : xs ≠ []) (n2 : ys ≠ []) (z : xs.length + ys.length ≤ sizeLine) (q : NewR H (.tup (xs ++ ys)) Q) : rCatA K (.ref a) (.ref b) H Q :=
  ⟨a, b, xs, ys, rfl, rfl, ha, hb, z, fun e => (n1 e).elim, fun _ e => (n2 e).elim, fun _ _ => q⟩
/-- a part that is not the whole -/
theorem i_slTA {a : Addr} {xs : List V} {lo hi : Option Int} (h : SqT K H a xs) (n : ¬ (HT.sIx xs.length 0 lo = 0 ∧ HT.sIx xs.length xs.length hi = xs.length)) (q : NewR H (.tup (cutV xs lo hi)) Q) : rSlA K (.ref a) lo hi H Q :=
  ⟨a, xs, rfl, h, fun e => (n e).elim, fun _ => q⟩
def rListT (K : PySem.W.Frag) : List V → Hp → VK → Prop := fun xs H Q => ∃ p ys, xs = [.ref p] ∧ (SqL K H p ys ∨ SqT K H p ys) ∧ NewR H (.lst ys) Q
theorem call_listT {X : Cx} : CallR X (.type "list") (rListT X.K) := call_list_of
theorem i_listT {a : Addr} {xs : List V} (h : SqT K H a xs) (q : NewR H (.lst xs) Q) : rListT K [.ref a] H Q := ⟨a, xs, rfl, .inr h, q⟩
theorem i_cut {t u : TS} {D : Ends} (Mid : L2.St → Hp → Prop) (h1 : t { D with nx := Mid } σ H) (h2 : ∀ σ' H', Mid σ' H' → u D σ' H') : C8.tCut t u D σ H := ⟨Mid, h1, h2⟩
theorem i_iTup {a : TE} {R : It → Hp → Prop} (q : a σ H fun x H1 => ∃ p, x = .ref p ∧ (∃ xs, SqT K H1 p xs) ∧ R (Itt K p) H1) : iTup K a σ H R := q
theorem i_exlT {R : It → Hp → Prop} {p : Addr} {xs : List V} (h : SqT K H p xs) (q : R (Itt K p) H) : ∃ p', V.ref p = .ref p' ∧ (∃ xs, SqT K H p' xs) ∧ R (Itt K p') H := ⟨p, rfl, ⟨xs, h⟩, q⟩
end
end KX

namespace KX
open PySem PySem.Spec PyProof.Rows L2
/-! ### the head run in the kernel: all facts are one truth value over the part that the names reach -/
theorem empty_of {o : Obj} (h : emptyB o = true) : o = tabO := by
  unfold emptyB at h
  split at h
  · simp only [Bool.and_eq_true, Array.isEmpty_iff] at h
    obtain ⟨h1, h2⟩ := h
    subst h1 h2
    rfl
  · cases h
theorem lookup_mem {a : Addr} {o : Obj} : ∀ {l : List (Addr × Obj)}, l.lookup a = some o → (a, o) ∈ l
  | [], h => by cases h
  | (b, u) :: l, h => by
    rw [List.lookup_cons] at h
    split at h
    · rename_i e
      cases h
      rw [beq_iff_eq.mp e]
      exact List.mem_cons_self
    · exact List.mem_cons_of_mem _ (lookup_mem h)
theorem frH_in {as : List Addr} {h : Heap} : (frH h.get? as).In h := fun a o e => by
  have m := (List.mem_filter.mp (lookup_mem e)).1
  unfold He.frG at m
  obtain ⟨b, _, hb⟩ := List.mem_filterMap.mp m
  cases q : h.get? b with
  | none => rw [q] at hb; cases hb
  | some u => rw [q] at hb; cases hb; exact q
structure SaysH (fa : List Fc) (fn : List He.DefD) (tb : List (Str × Option Str)) (K : PySem.W.Frag) (h : Heap) : Prop where
  inK : K.In h
  fact : ∀ f ∈ fa, f K = true
  defs : ∀ d ∈ fn, d.ok K = true ∧ He.fnW K d.at_ = d.val
  tabs : ∀ p ∈ tb, h.get? (mkT K p).2 = some tabO ∧ K.lookup (mkT K p).2 = none ∧ PySem.W.codeHdIn K (mkT K p).1 (mkT K p).2 = true
theorem saysH_of {n : Nat} {fa : List Fc} {fn : List He.DefD} {tb : List (Str × Option Str)} {h : Heap} (e : obsH n fa fn tb h.get? = He.valD fn) : SaysH fa fn tb (frH h.get? (sysModules :: cStatics :: He.asD h.get? n)) h := by
  have e1 := congrArg (fun z : He.AlD => z.1) e
  have e2 : (fn.map fun d => He.fnW (frH h.get? (sysModules :: cStatics :: He.asD h.get? n)) d.at_) = fn.map He.DefD.val := congrArg (fun z : He.AlD => z.2) e
  have e3 : ((fa.all fun f => f (frH h.get? (sysModules :: cStatics :: He.asD h.get? n))) && ((fn.all fun d => d.ok (frH h.get? (sysModules :: cStatics :: He.asD h.get? n))) && tb.all fun p => tbB h.get? (frH h.get? (sysModules :: cStatics :: He.asD h.get? n)) p)) = true := e1
  simp only [Bool.and_eq_true, List.all_eq_true] at e3
  obtain ⟨h1, h2, h3⟩ := e3
  refine ⟨frH_in, h1, fun d hd => ⟨h2 d hd, ?_⟩, fun p hp => ?_⟩
  · exact List.map_inj_left.mp e2 d hd
  · have z := h3 p hp
    unfold tbB at z
    simp only [Bool.and_eq_true] at z
    obtain ⟨z1, z2, z3⟩ := z
    refine ⟨?_, Option.isNone_iff_eq_none.mp z2, z1⟩
    split at z3
    · rename_i o ho
      rw [ho, empty_of z3]
    · cases z3
def hookH (n : Nat) (fa : List Fc) (fn : List He.DefD) (tb : List (Str × Option Str)) : PySem.W.Hook where
  α := He.AlD
  obs := fun s => obsH n fa fn tb s.heap.get?
  val := fun _ => He.valD fn
  says := fun _ h => ∃ K : PySem.W.Frag, SaysH fa fn tb K h
  of := fun _ _ e => ⟨_, saysH_of e⟩
  keeps := fun _ _ _ ⟨K, c⟩ k => ⟨K, PySem.W.Frag.In.keeps c.inK k, c.fact, c.defs, fun p hp => ⟨k _ _ (c.tabs p hp).1, (c.tabs p hp).2⟩⟩
theorem obsH_eq {n : Nat} {fa : List Fc} {fn : List He.DefD} {tb : List (Str × Option Str)} {g : Addr → Option Obj} {s : Shared} (h : ∀ a, g a = s.heap.get? a) : obsH n fa fn tb g = (hookH n fa fn tb).obs s := by
  have e : g = s.heap.get? := funext h
  rw [e] <;> rfl
theorem SaysH.at_ {fa : List Fc} {fn : List He.DefD} {tb : List (Str × Option Str)} {K : PySem.W.Frag} {h : Heap} (c : SaysH fa fn tb K h) (i : Nat) {f : Fc} (e : fa[i]? = some f := by rfl) : f K = true := c.fact f (List.mem_of_getElem? e)
theorem SaysH.def_ {fa : List Fc} {fn : List He.DefD} {tb : List (Str × Option Str)} {K : PySem.W.Frag} {h : Heap} (c : SaysH fa fn tb K h) (i : Nat) {st : Stmt} {p : Str × Option Str} {x q : Str} (e : fn[i]? = some ⟨p, x, q, defArgs st, defBody st, defScope st, [], []⟩ := by rfl) : DefK K x q st (He.fAd K p) := by
  obtain ⟨h1, h2⟩ := c.defs _ (List.mem_of_getElem? e)
  obtain ⟨fd, ⟨oc, od, dV, kV, doc, pm, an, cdv, ct, osl, ef, lk, cd, dfl, kwd⟩, kp⟩ := He.DefD.funD h2 h1
  have dn : dV = .none := by
    rcases dfl with ⟨_, z⟩ | ⟨z, _⟩
    · exact z
    · exact (z rfl).elim
  subst dn
  exact ⟨fd, ⟨oc, od, kV, doc, pm, an, cdv, ct, osl, ef, lk, cd⟩, kp⟩
theorem defC_of {K : PySem.W.Frag} {x q : Str} {st : Stmt} {f : Addr} (d : DefK K x q st f) (h : PySem.W.codeHdIn K (codeAt K f) (tabOf K (codeAt K f)) = true) : DefC K x q st f (codeAt K f) := by
  obtain ⟨fd, ⟨oc, od, kV, doc, pm, an, cdv, ct, osl, ef, lk, cd⟩, kp⟩ := d
  obtain ⟨c, _, _, _, e, _⟩ : ∃ (c : Addr) (oc : Obj) (vs : Array Value) (t : Tok), cdv = .ref c ∧ True := by
    unfold PySem.W.codeIn at cd
    cases cdv with
    | ref c => exact ⟨c, default, #[], default, rfl, trivial⟩
    | _ => cases cd
  subst e
  have ec : codeAt K f = c := by
    unfold codeAt
    rw [lk, ef]
  rw [ec]
  exact ⟨fd, ⟨oc, od, kV, doc, pm, an, ct, osl, ef, lk, cd⟩, kp⟩
section
variable {K : PySem.W.Frag} {h : Heap} {mg : Str → Option Value}
theorem glo_of (X : K.In h) (G : h.Ns mainGlobals mg) {x : Str} {f : PySem.W.Frag → Addr} (c : gloB x f K = true) : mg x = some (.ref (f K)) := PySem.W.mg_of X G (beq_iff_eq.mp c)
theorem free_of (X : K.In h) (G : h.Ns mainGlobals mg) {x : Str} (c : freeB x K = true) : mg x = none := PySem.W.mg_none_of X G (beq_iff_eq.mp c)
theorem int_of (X : K.In h) (G : h.Ns mainGlobals mg) {x : Str} {i : Int} (c : intB x i K = true) : mg x = some (.int i (tokOf K x)) := PySem.W.mg_of X G (beq_iff_eq.mp c)
theorem str_of (X : K.In h) (G : h.Ns mainGlobals mg) {x z : Str} (c : strB x z K = true) : mg x = some (.str z (tokOf K x)) := PySem.W.mg_of X G (beq_iff_eq.mp c)
theorem met_of {C m : Str} (c : metB C m K = true) : PySem.W.findIn K (.ref (He.ga K C)) m = some (some (.ref (He.fAd K (C, some m)))) := beq_iff_eq.mp c
theorem ib_of {C : Addr} {i : String} (c : ibB K C i = true) : InitB K i C := by
  unfold ibB at c
  simp only [Bool.and_eq_true, beq_iff_eq] at c
  obtain ⟨c1, c2, c3⟩ := c
  refine ⟨c1, c2, ?_⟩
  split at c3
  · rename_i s e
    rw [e, beq_iff_eq.mp c3]
  · cases c3
theorem cg_of (c : cgB K = true) : ClassGet K := by
  unfold cgB at c
  simp only [Bool.and_eq_true, beq_iff_eq] at c
  exact ⟨c.1, c.2⟩
end
theorem walkGE {l : PySem.W.OpenLaw} {n k : Nat} {q : Program} {loose : List Str} {XP : (Str → Option Value) → Heap → Prop} {YP : World → Heap → Prop} {d : DefRec} {CX : World → CXT} {x : Str} (most : l.most = some n) (few : n ≤ sizeLine)
    (plain : d.params.defaults = []) (room : Room k callerA)
    (G : ∀ (w : World) (mg : Str → Option Value) (fa : Addr) (h : Heap), YP w h → h.Ns mainGlobals mg → mg d.name = some (.ref fa) → ∃ K : PySem.W.Frag, K.In h ∧ LawT l w K (CX w) k n x mg fa h)
    (noX : ∀ (w : World) (H : Hp) (s : Shared) (e : Value) (s' : Shared), CX w [] H s (fun _ _ _ => False) e s' → False) :
    PySem.W.WalkO q loose XP YP l.row.toRowW d [] (fun f vs => PySem.call f vs) := by
  refine Att.attach_callB most plain fun w _ t0 mg mb fa _ _ _ _ a us ns gr y _ _ _ at_ there hin len bits gens => ?_
  obtain ⟨K, KX, fd, cs, sp, tabs, binds, promise, hF⟩ := G w mg fa _ y gr.T.g at_
  exact lawGT KX gr.T.g gr.T.b gr.T.builtins gr.T.nolimit gens (fun q hq => (tabs q hq).1) (fun q hq => (tabs q hq).2.1) (fun q hq => PySem.W.codeHd_of_K KX (tabs q hq).2.2) gr.T.bmain there hin (Nat.le_trans len few) room hF binds (fun H hT seen => promise H a ns len bits hT seen) fun H e s' => noX w H t0 e s'
/-! ### the run's equation in pieces: the kernel's memory is given back behind each -/
section
variable {σ : Type} {r : Option σ} {K : σ → PySem.W.Frag} {A B : List Fc}
theorem all_run (h1 : r.map (fun s => A.all fun f => f (K s)) = some true) (h2 : r.map (fun s => B.all fun f => f (K s)) = some true) : r.map (fun s => (A ++ B).all fun f => f (K s)) = some true := by
  cases r with
  | none => cases h1
  | some s =>
    have e1 : (A.all fun f => f (K s)) = true := Option.some.inj h1
    have e2 : (B.all fun f => f (K s)) = true := Option.some.inj h2
    show some ((A ++ B).all fun f => f (K s)) = some true
    rw [List.all_append, e1, e2]
    rfl
theorem pair_run {α β : Type} {f : σ → α} {g : σ → β} {a : α} {b : β} (h1 : r.map f = some a) (h2 : r.map g = some b) : r.map (fun s => (f s, g s)) = some (a, b) := by
  cases r with
  | none => cases h1
  | some s =>
    have e1 : f s = a := Option.some.inj h1
    have e2 : g s = b := Option.some.inj h2
    show some (f s, g s) = some (a, b)
    rw [e1, e2]
end
theorem obs_run {σ : Type} {r : Option σ} {G : σ → Addr → Option Obj} {n : Nat} {fa : List Fc} {fn : List He.DefD} {tb : List (Str × Option Str)} (h1 : r.map (fun s => fa.all fun f => f (frH (G s) (sysModules :: cStatics :: He.asD (G s) n))) = some true) (h2 : r.map (fun s => defsH n fn tb (G s)) = some (He.valD fn)) :
    r.map (fun s => obsH n fa fn tb (G s)) = some (He.valD fn) := by
  cases r with
  | none => cases h1
  | some s =>
    have e1 : (fa.all fun f => f (frH (G s) (sysModules :: cStatics :: He.asD (G s) n))) = true := Option.some.inj h1
    have e2 : defsH n fn tb (G s) = He.valD fn := Option.some.inj h2
    show some (obsH n fa fn tb (G s)) = some (He.valD fn)
    refine congrArg some ?_
    rw [← e2]
    show ((fa.all fun f => f (frH (G s) (sysModules :: cStatics :: He.asD (G s) n))) && _, _) = _
    rw [e1, Bool.true_and]
    rfl
theorem run_of {R : PySem.W.OpenRow} {q : Program} {n M : Nat} {fa : List Fc} {fn : List He.DefD} {tb : List (Str × Option Str)} {loose : List PySem.Str} {w : World}
    (h0 : ∀ os : OsState, (HandSHeadRun.endF (HandSHeadRun.stepQ (HandSHeadRun.denQ HandSHeadRun.tabQ) R.prog w) M R.prog w os).map (fun s => (HandSHeadRun.looksF R.prog (PySem.W.boot_heap w.params) s.abs, HandSHeadRun.seenQ q loose (importedModules R.prog.main.body) (fun s => PySem.W.xlAt q [] s && PySem.W.recOk R.toRowW.records s) s.abs)) = some (true, PySem.W.openGood q loose))
    (h1 : ∀ os : OsState, (HandSHeadRun.endF (HandSHeadRun.stepQ (HandSHeadRun.denQ HandSHeadRun.tabQ) R.prog w) M R.prog w os).map (fun s => obsH n fa fn tb (HandSHeadRun.getT s)) = some (He.valD fn)) :
    HandSHeadRun.RunEq R q (hookH n fa fn tb) (fun s => obsH n fa fn tb (HandSHeadRun.getT s)) M loose w := by
  intro os
  have a := h0 os
  have b := h1 os
  revert a b
  generalize HandSHeadRun.endF (HandSHeadRun.stepQ (HandSHeadRun.denQ HandSHeadRun.tabQ) R.prog w) M R.prog w os = r
  intro a b
  cases r with
  | none => cases a
  | some s =>
    have e1 := Option.some.inj a
    have e2 := Option.some.inj b
    show some (_, _, _) = some (_, _, _)
    have e3 := congrArg Prod.fst e1
    have e4 := congrArg Prod.snd e1
    exact congrArg some (Prod.ext e3 (Prod.ext e4 e2))
end KX

namespace KX
open PySem PySem.Spec PyProof.Rows L2
/-! ### several except clauses, each with a name (a slot) or without -/
abbrev Cla := Value × Option Nat × (Addr → Value → Option Addr → TS)
def endsAs (D : Ends) (i : Nat) : Ends := { nx := fun σ' H' => D.nx (σ'.set i none) H', rt := D.rt, bk := fun σ' H' => D.bk (σ'.set i none) H', ct := fun σ' H' => D.ct (σ'.set i none) H' }
def wCl (K : PySem.W.Frag) (Wout : WX) (D : Ends) : List Cla → WX
  | [] => Wout
  | (c, none, ts) :: r => fun cls d σ H => ∃ b, PySem.W.exmOne K cls c = some b ∧ (b = true → ∀ a, H a = none → ts a cls d D σ H) ∧ (b = false → wCl K Wout D r cls d σ H)
  | (c, some i, ts) :: r => fun cls d σ H => ∃ b, PySem.W.exmOne K cls c = some b ∧ (b = true → ∀ a, H a = none → ts a cls d (endsAs D i) (σ.set i (some (.ref a))) H) ∧ (b = false → wCl K Wout D r cls d σ H)
inductive ClOk (X : Cx) : List ExceptHandler → List Cla → Prop
  | nil : ClOk X [] []
  | bare {x : Str} {c : Value} {ts : Addr → Value → Option Addr → TS} {b₀ : Stmt} {suite : List Stmt} {np pos' : Pos} {hds : List ExceptHandler} {l : List Cla} (hc : Names X x c)
      (hsu : ∀ (a : Addr) (oe : Obj) (cls : Value) (d : Option Addr) (pn : List (Addr × Obj)), Zc cls d oe → (∃ vs, oe.data = .fields vs) → PSs (X.suite a ((a, oe) :: pn)) (b₀ :: suite) (ts a cls d)) (r : ClOk X hds l) :
      ClOk X (.ExceptHandler (some (.Name x np)) none (b₀ :: suite) pos' :: hds) ((c, none, ts) :: l)
  | named {x n : Str} {i : Nat} {c : Value} {ts : Addr → Value → Option Addr → TS} {b₀ : Stmt} {suite : List Stmt} {np pos' : Pos} {hds : List ExceptHandler} {l : List Cla} (hN : X.N.Nodup) (hi : X.N[i]? = some n) (hln : X.env.kindOf n = some .local) (hc : Names X x c)
      (hsu : ∀ (a : Addr) (oe : Obj) (cls : Value) (d : Option Addr) (pn : List (Addr × Obj)), Zc cls d oe → (∃ vs, oe.data = .fields vs) → PSs (X.suite a ((a, oe) :: pn)) (b₀ :: suite) (ts a cls d)) (r : ClOk X hds l) :
      ClOk X (.ExceptHandler (some (.Name x np)) (some n) (b₀ :: suite) pos' :: hds) ((c, some i, ts) :: l)
def tTryC (K : PySem.W.Frag) (l : List Cla) (tb : WX → TS) (Wout : WX) : TS := fun D σ H => tb (wCl K Wout D l) D σ H
section
variable {X : Cx} {body : List Stmt} {h₀ : ExceptHandler} {hds : List ExceptHandler} {l : List Cla} {pos : Pos} {tb : WX → TS} {Wout : WX}
theorem ps_tryC (hs : X.stack = X.env :: X.outer) (hf : X.env.frame = some X.env.locals) (tk : Takes X Wout)
    (hb : ∀ (W : WX) (pn : List (Addr × Obj)) (xe : Value → Shared → Prop), Takes (X.tr pn xe) W → PassesOwn (model X.prog X.w) X.A X.env xe → PSs (X.tr pn xe) body (tb W))
    (hh : ClOk X (h₀ :: hds) l) : PS X (.Try body (h₀ :: hds) [] [] pos) (tTryC X.K l tb Wout) := by
  refine ⟨fun pins s σ H D I q => ?_⟩
  have okX := I.ok
  have frames : X.A.frames = some (X.env :: X.outer) := by rw [okX.frames, hs]
  refine wpAny_Try_except ?_
  refine wpAny_mono ((hb (wCl X.K Wout D l) (X.pn ++ pins) (fun e s₁ => wpAny (model X.prog X.w) X.A (noteFrame e X.env) (fun _ s₂ => wpAny (model X.prog X.w) X.A (setFlight e none) (fun _ s₃ =>
    wpAny (model X.prog X.w) X.A (handleBy e X.env (h₀ :: hds)) (SP X pins D) X.xe s₃) X.xe s₂) X.xe s₁) (fun u s' air => ?_) PassesOwn.looking).run [] s σ H D (I.toTry _) q) (fun f s1 done => ?_) (fun e s1 z => z)
  · obtain ⟨a, B, sI, pins', σ', H', cls, d, rfl, J0, nb, up, sky, na, os, ag, wish⟩ := air
    have J : Inv X pins σ' H' sI := J0.ofTry okX
    have sky' : Sky B (X.env :: X.outer) a (Zc cls d) X.env.locals s'.heap := hs ▸ sky
    show wpAny (model X.prog X.w) X.A (noteFrame (.ref a) X.env) _ _ _
    refine Sky.land Zc.steady frames hf sky' fun h3 fl3 up3 => ?_
    have J3 : Inv X pins σ' H' { s' with heap := h3 } := J.landed nb fl3.1 (up.trans up3) os ag
    obtain ⟨oe3, vs3, he3, hz3, hd3⟩ := fl3.there
    have away : a ∉ frs (X.env :: X.outer) := fun hm => by
      obtain ⟨_, o', e', hnf⟩ := fl3.2.2.1.mem hm
      rw [he3] at e'
      cases e'
      exact hnf _ hd3
    have nL : a ≠ X.env.locals := fun z => away (List.mem_filterMap.mpr ⟨X.env, List.mem_cons_self, by rw [hf, z]⟩)
    have nF : a ∉ X.fs := fun hm => by
      obtain ⟨e, he, q⟩ := List.mem_filterMap.mp hm
      exact away (List.mem_filterMap.mpr ⟨e, List.mem_cons_of_mem _ he, q⟩)
    have S3 := J3.suite he3 hd3 na nL nF
    have LT : PySem.W.Looks (model X.prog X.w) h3 (typeOf (.ref a)) cls := fun A Q E s k q => wpAny_typeOf_ref (k _ _ he3) (by rw [hz3.1]; exact q)
    have test : ∀ {x : Str} {c : Value} {np : Pos} {Q : Value → Shared → Prop} {E : Value → Shared → Prop}, Names X x c → Q c { s' with heap := h3 } → wpAny (model X.prog X.w) (X.A.mark (some (.ref a))) (eval (.Name x np) X.env) Q E { s' with heap := h3 } := fun {x c np Q E} hc q => by
      obtain ⟨hg, hdbg, hm | ⟨hm, hv, hnn⟩⟩ := hc
      · exact ld_glob (X := X.suite a ((a, oe3) :: (X.pn ++ pins))) S3 hg hm q hdbg
      · exact ld_blt (X := X.suite a ((a, oe3) :: (X.pn ++ pins))) S3 hg hm hv q hnn hdbg
    have go : ∀ {hds' : List ExceptHandler} {l' : List Cla}, ClOk X hds' l' → wCl X.K Wout D l' cls d σ' H' → wpAny (model X.prog X.w) X.A (handleBy (.ref a) X.env hds') (SP X pins D) X.xe { s' with heap := h3 } := by
      intro hds' l' hk
      induction hk with
      | nil =>
        intro wish
        refine wpAny_handleBy_nil ?_
        obtain ⟨k1, k2, k3, oe, vs, T, oT, ts', he, hz, hd, h1, hr⟩ := id fl3
        unfold PySem.passOn
        refine wpAny_bind (wpAny_field he hd h1 ?_)
        rw [if_neg (show ¬ ((Value.ref T == Value.none) = true) from by simp)]
        have fin : wpAny (model X.prog X.w) X.A (setFlight (.ref a) X.env.frame) (fun _ s4 => wpAny (model X.prog X.w) X.A (throw (.ref a) : Sem Flow) (SP X pins D) X.xe s4) X.xe { s' with heap := h3 } := by
          rw [hf]
          refine HandSPX.setFlight_upZ fl3 fun h4 held up4 => wpAny_throw (tk _ _ ?_)
          exact ⟨a, B, sI, pins, σ', H', cls, d, rfl, J, nb, (up.trans up3).trans up4, .inr (.inr (by rw [hs]; exact held)), na, os, ag, wish⟩
        first
          | exact wpAny_bind (wpAny_pure (wpAny_bind fin))
          | exact wpAny_bind fin
      | @bare x c ts b₀ suite np pos' hds2 l2 hc hsu r ih =>
        intro wish
        obtain ⟨b, eb, yes, no⟩ := wish
        refine wpAny_handleBy_cons (codeAny_handlers_test ?_) (by intro z; cases z)
        refine test hc ((PySem.W.exm_one (M := model X.prog X.w) (J3.kIn) LT eb).here ?_)
        cases b with
        | true =>
          refine codeAny_handlers_suite ?_
          refine HandSPX.lands_againZ fl3 fun h4 fl4 up4 => ?_
          have J4 : Inv X pins σ' H' { s' with heap := h4 } := J.landed nb fl4.1 ((up.trans up3).trans up4) os ag
          obtain ⟨oe4, vs4, he4, hz4, hd4⟩ := fl4.there
          have S4 := J4.suite he4 hd4 na nL nF
          refine wpAny_mono ((hsu a oe4 cls d (X.pn ++ pins) hz4 ⟨_, hd4⟩).run [] _ _ H' _ S4 (yes rfl a na)) (fun f s6 hsp => ?_) (fun _ _ z => False.elim z)
          match f, hsp with
          | .next, ⟨_, _, S6, q6⟩ => exact ⟨_, _, S6.unsuite okX, q6⟩
          | .brk, ⟨_, _, S6, q6⟩ => exact ⟨_, _, S6.unsuite okX, q6⟩
          | .cont, ⟨_, _, S6, q6⟩ => exact ⟨_, _, S6.unsuite okX, q6⟩
          | .ret u, ⟨_, _, _, S6, r6, q6⟩ => exact ⟨_, _, _, S6.unsuite okX, r6, q6⟩
        | false => exact ih (no rfl)
      | @named x n i c ts b₀ suite np pos' hds2 l2 hN hi hln hc hsu r ih =>
        intro wish
        obtain ⟨b, eb, yes, no⟩ := wish
        refine wpAny_handleBy_cons (codeAny_handlers_test ?_) (by intro z; cases z)
        refine test hc ((PySem.W.exm_one (M := model X.prog X.w) (J3.kIn) LT eb).here ?_)
        cases b with
        | true =>
          refine codeAny_handlers_suite_as ?_
          refine HandSPX.lands_againZ fl3 fun h4 fl4 up4 => ?_
          have J4 : Inv X pins σ' H' { s' with heap := h4 } := J.landed nb fl4.1 ((up.trans up3).trans up4) os ag
          obtain ⟨oe4, vs4, he4, hz4, hd4⟩ := fl4.there
          have S4 := J4.suite he4 hd4 na nL nF
          refine store_ok (X := X.suite a ((a, oe4) :: (X.pn ++ pins))) (v := .ref a) S4 hN hi (.inl hln) rfl (fun s5 S5 => ?_) (.inr hln)
          refine wpAny_mono ((hsu a oe4 cls d (X.pn ++ pins) hz4 ⟨_, hd4⟩).run [] s5 _ H' _ S5 (yes rfl a na)) (fun f s6 hsp => ?_) (fun _ _ z => False.elim z)
          have gone : ∀ {σ6 : L2.St} {H6 : Hp} {Q : Shared → Prop}, Inv (X.suite a ((a, oe4) :: (X.pn ++ pins))) [] σ6 H6 s6 → (∀ s7, Inv X pins (σ6.set i none) H6 s7 → Q s7) →
              wpAny (model X.prog X.w) X.A (do bindName X.env n .none; unbindBehindTheSuite X.env n pos') (fun _ s7 => Q s7) X.xe s6 := fun {σ6 H6 Q} S6 hq => gone_ok (S6.unsuite okX) hN hi hln hq
          match f, hsp with
          | .next, ⟨_, _, S6, q6⟩ => exact gone S6 fun s7 J7 => ⟨_, _, J7, q6⟩
          | .brk, ⟨_, _, S6, q6⟩ => exact gone S6 fun s7 J7 => ⟨_, _, J7, q6⟩
          | .cont, ⟨_, _, S6, q6⟩ => exact gone S6 fun s7 J7 => ⟨_, _, J7, q6⟩
          | .ret u, ⟨_, _, _, S6, r6, q6⟩ => exact gone S6 fun s7 J7 => ⟨_, _, _, J7, r6, q6⟩
        | false => exact ih (no rfl)
    exact go hh wish
  · match f, done with
    | .next, ⟨σ', H', J', q⟩ => exact wpAny_execs_nil ⟨σ', H', J'.ofTry okX, q⟩
    | .brk, ⟨σ', H', J', q⟩ => exact ⟨σ', H', J'.ofTry okX, q⟩
    | .cont, ⟨σ', H', J', q⟩ => exact ⟨σ', H', J'.ofTry okX, q⟩
    | .ret u, ⟨v, σ', H', J', r, q⟩ => exact ⟨v, σ', H', J'.ofTry okX, r, q⟩
end
theorem i_tryC {K : PySem.W.Frag} {l : List Cla} {tb : WX → TS} {Wout : WX} {D : Ends} {σ : L2.St} {H : Hp} (q : tb (wCl K Wout D l) D σ H) : tTryC K l tb Wout D σ H := q
/-- the first clause takes it -/
theorem i_cN {K : PySem.W.Frag} {c cls : Value} {i : Nat} {ts : Addr → Value → Option Addr → TS} {r : List Cla} {Wout : WX} {D : Ends} {σ : L2.St} {H : Hp} {d : Option Addr} (e : PySem.W.exmOne K cls c = some true)
    (q : ∀ a, H a = none → ts a cls d (endsAs D i) (σ.set i (some (.ref a))) H) : WE (wCl K Wout D ((c, some i, ts) :: r)) σ cls d H := ⟨true, e, fun _ => q, fun z => Bool.noConfusion z⟩
theorem i_cB {K : PySem.W.Frag} {c cls : Value} {ts : Addr → Value → Option Addr → TS} {r : List Cla} {Wout : WX} {D : Ends} {σ : L2.St} {H : Hp} {d : Option Addr} (e : PySem.W.exmOne K cls c = some true)
    (q : ∀ a, H a = none → ts a cls d D σ H) : WE (wCl K Wout D ((c, none, ts) :: r)) σ cls d H := ⟨true, e, fun _ => q, fun z => Bool.noConfusion z⟩
/-- .. does not take it -/
theorem i_cX {K : PySem.W.Frag} {c cls : Value} {o : Option Nat} {ts : Addr → Value → Option Addr → TS} {r : List Cla} {Wout : WX} {D : Ends} {σ : L2.St} {H : Hp} {d : Option Addr} (e : PySem.W.exmOne K cls c = some false)
    (q : WE (wCl K Wout D r) σ cls d H) : WE (wCl K Wout D ((c, o, ts) :: r)) σ cls d H := by
  cases o with
  | none => exact ⟨false, e, fun z => Bool.noConfusion z, fun _ => q⟩
  | some i => exact ⟨false, e, fun z => Bool.noConfusion z, fun _ => q⟩
end KX

namespace KX
open PySem PySem.Spec PyProof.Rows L2
/-! ### xs != [], xs == [] for lists of anything -/
def rNeNil (K : PySem.W.Frag) : R2 := fun x y H Q => ∃ a b xs, x = .ref a ∧ y = .ref b ∧ SqL K H a xs ∧ SqL K H b [] ∧ Q (.bl (!xs.isEmpty)) H
def rEqNil (K : PySem.W.Frag) : R2 := fun x y H Q => ∃ a b xs, x = .ref a ∧ y = .ref b ∧ SqL K H a xs ∧ SqL K H b [] ∧ Q (.bl xs.isEmpty) H
section
variable {X : Cx}
theorem op_neNil (hu : X.A.units < cLine) : OpR X (compareOp .NotEq) (rNeNil X.K) := by
  intro pins s σ H x y v u Q I rx ry h
  obtain ⟨a, b, xs, rfl, rfl, ha, hb, q⟩ := h
  cases rx
  cases ry
  obtain ⟨its, r, pl, hz⟩ := I.list ha
  obtain ⟨its2, r2, pl2, hz2⟩ := I.list hb
  cases r2
  cases r with
  | nil => exact SeqAt.RcNeAt.lists (e := fun _ => true) pl.isList pl2.isList rfl hu (fun j h1 => absurd h1 (Nat.not_lt_zero j)) _ _ _ _ ⟨.bl _, H, I, rfl, q⟩
  | cons r1 r2 => exact SeqAt.RcNeAt.lists_lengths pl.isList pl2.isList (by simp) hu _ _ _ _ ⟨.bl _, H, I, rfl, q⟩
theorem op_eqNil (hu : X.A.units < cLine) : OpR X (compareOp .Eq) (rEqNil X.K) := by
  intro pins s σ H x y v u Q I rx ry h
  obtain ⟨a, b, xs, rfl, rfl, ha, hb, q⟩ := h
  cases rx
  cases ry
  obtain ⟨its, r, pl, hz⟩ := I.list ha
  obtain ⟨its2, r2, pl2, hz2⟩ := I.list hb
  cases r2
  cases r with
  | nil => exact SeqAt.RcAt.lists (e := fun _ => true) pl.isList pl2.isList rfl hu (fun j h1 => absurd h1 (Nat.not_lt_zero j)) _ _ _ _ ⟨.bl _, H, I, rfl, q⟩
  | cons r1 r2 => exact SeqAt.RcAt.lists_lengths pl.isList pl2.isList (by simp) hu _ _ _ _ ⟨.bl _, H, I, rfl, q⟩
end
section
variable {K : PySem.W.Frag} {σ : L2.St} {H : Hp} {Q : VK}
theorem i_neNil {a b : Addr} {xs : List V} (h : SqL K H a xs) (k : SqL K H b []) (q : Q (.bl (!xs.isEmpty)) H) : rNeNil K (.ref a) (.ref b) H Q := ⟨a, b, xs, rfl, rfl, h, k, q⟩
theorem i_eqNil {a b : Addr} {xs : List V} (h : SqL K H a xs) (k : SqL K H b []) (q : Q (.bl xs.isEmpty) H) : rEqNil K (.ref a) (.ref b) H Q := ⟨a, b, xs, rfl, rfl, h, k, q⟩
/-- x in xs, x not in xs: lists of flat items -/
theorem i_rInL {p : Addr} {xs : List V} {x : V} (h : SqL K H p xs) (f : flatV x = true) (fs : xs.all flatV = true) (q : Q (.bl (inV x xs)) H) : rIn K false x (.ref p) H Q := ⟨p, xs, rfl, .inl h, f, fs, q⟩
theorem i_rNinL {p : Addr} {xs : List V} {x : V} (h : SqL K H p xs) (f : flatV x = true) (fs : xs.all flatV = true) (q : Q (.bl (!inV x xs)) H) : rIn K true x (.ref p) H Q := ⟨p, xs, rfl, .inl h, f, fs, q⟩
theorem flat_bools (bs : List Bool) : (bs.map V.bl).all flatV = true := by
  rw [List.all_eq_true]
  intro v hv
  obtain ⟨b, _, rfl⟩ := List.mem_map.mp hv
  rfl
theorem inV_bool {c : Bool} : ∀ bs : List Bool, inV (.bl c) (bs.map V.bl) = bs.contains c
  | [] => rfl
  | b :: bs => by
    have ih := inV_bool (c := c) bs
    unfold inV at ih ⊢
    rw [List.map_cons, List.any_cons, ih, List.contains_cons]
    congr 1
    cases b <;> cases c <;> rfl
/-- bs.index(c), c in bs -/
theorem i_indexB {p : Addr} {bs : List Bool} {c : Bool} (h : SqL K H p (bs.map V.bl)) (k : c ∈ bs) (q : Q (.int (bs.idxOf c : Nat)) H) : rIndex K (.ref p) [.bl c] H Q := by
  have hlt : bs.idxOf c < bs.length := List.idxOf_lt_length_of_mem k
  refine i_indexF (j := bs.idxOf c) (z := .bl c) h rfl (flat_bools bs) ?_ (by cases c <;> rfl) (fun m z hm hz => ?_) q
  · rw [List.getElem?_map, List.getElem?_eq_getElem hlt, List.getElem_idxOf hlt]; rfl
  · have hm' : m < bs.length := Nat.lt_trans hm hlt
    rw [List.getElem?_map, List.getElem?_eq_getElem hm'] at hz
    cases hz
    have ne : bs[m] ≠ c := fun e => by
      have := List.not_of_lt_findIdx (p := (· == c)) (xs := bs) (i := m) hm
      simp [e] at this
    revert ne
    cases bs[m] <;> cases c <;> simp <;> rfl
theorem i_rIxLor {p : Addr} {xs : List V} {i : Int} {v : V} (h : SqL K H p xs) (e : atI xs i = some v) (q : Q v H) : rIx K (.ref p) (.int i) H Q := .inl (i_rIxL h e q)
theorem i_rIxSor {z : Str} {i : Int} {c : Nat} (h : z.length ≤ sizeLine) (e : atI z.cps.toList i = some c) (q : Q (.str ⟨#[c]⟩) H) : rIx K (.str z) (.int i) H Q := .inr (.inr (i_rIxS h e q))
/-- tuple(xs), xs a list -/
def rTupL (K : PySem.W.Frag) : List V → Hp → VK → Prop := fun xs H Q => ∃ p ys, xs = [.ref p] ∧ SqL K H p ys ∧ NewR H (.tup ys) Q
theorem call_tupL {X : Cx} : CallR X (.type "tuple") (rTupL X.K) := fun pins s σ H xs us Q I r ⟨p, ys, e, h, q⟩ => call_tuple_of pins s σ H xs us Q I r ⟨p, ys, e, .inl ⟨h, q⟩⟩
theorem i_tupL {p : Addr} {ys : List V} (h : SqL K H p ys) (q : NewR H (.tup ys) Q) : rTupL K [.ref p] H Q := ⟨p, ys, rfl, h, q⟩
end
theorem newP_off {H G G' : Hp} {r : Addr} {o : HO} (h : H r = some o) (s : Off r G G') : Same (newP H G) (newP H G') := fun b u e => by
  unfold newP at e ⊢
  split at e
  · next z => rw [if_pos z]; exact s _ _ (fun q => by rw [q, h] at z; cases z) e
  · cases e
/-- a comprehension whose element draws, and lays data that is new -/
theorem l_rd {J : It} {n : Nat} {G : Hp → Prop} {R : Nat → V → Hp → Prop} {b : Bool} {K : PySem.W.Frag} (W : Wq J n G R) {g : TG} {te : TE} {vs : List Nat} {Q : VK} {σ : L2.St} {H1 : Hp} (r : Addr) (ok : PyData → Prop) (hlen : n < sizeLine) (h0 : Rok H1 r) (hG : ∀ H', Off r H1 H' → G H')
    (hs : ∀ (i : Nat) x H' (S : VK), i < n → R i x H' → Off r H1 H' → Rok H' r → (∀ y d H'', DaF b K (newP H' H'') y d → ok d → Off r H' H'' → Rok H'' r → S y H'') → g x (wipe σ vs) H' fun σ2 H2 => wipe σ2 vs = wipe σ vs ∧ te σ2 H2 S)
    (q : ∀ D H' ys ds, H1 D = none → D ≠ r → Off r H1 H' → Rok H' r → H' D = some (.lst ys) → DaAllF b K (wo D (wo r H')) ys ds → ds.length = n → (∀ d ∈ ds, ok d) → Q (.ref D) H') : LcR J g tYes te vs σ H1 Q := by
  refine l_wq W fun D H0 n0 s0 e0 => ⟨fun i ys H => Off r H1 H ∧ Rok H r ∧ H D = some (.lst ys) ∧ ∃ ds, DaAllF b K (wo D (wo r H)) ys ds ∧ ds.length = i ∧ ∀ d ∈ ds, ok d, ⟨.of_same s0, h0.same s0, e0, [], .nil, rfl, fun d hd => by cases hd⟩, fun i ys H h => hG _ h.1, fun i ys x Ha H hi h sa hr => lc_yes ?_, fun ys H h => ?_⟩
  · obtain ⟨o1, r1, e1, ds, hd, hl, hk⟩ := h
    have hDr : D ≠ r := h0.ne n0
    replace o1 := o1.trans (.of_same sa)
    replace r1 := r1.same sa
    replace e1 := sa _ _ e1
    replace hd := hd.same (Same.wo (Same.wo sa))
    refine hs i x H (fun y H4 => LcEl D (fun ys H => Off r H1 H ∧ Rok H r ∧ H D = some (.lst ys) ∧ ∃ ds, DaAllF b K (wo D (wo r H)) ys ds ∧ ds.length = i + 1 ∧ ∀ d ∈ ds, ok d) y H4) hi hr o1 r1 fun y d H'' hy hok o2 r2 => ?_
    obtain ⟨ra, rb, hr0, _⟩ := r1
    have ll : ys.length = i := by rw [hd.len, hl]
    refine i_lcEl (Off.get o2 hDr e1) (by omega) fun H5 o5 e5 => ⟨Off.thenF o5 n0 (Off.refl _ _) (o1.trans o2), r2.off o5 hDr.symm, e5, ds ++ [d], ?_, by simp [hl], fun z hz => ?_⟩
    · have sy : Same (newP H H'') (wo D (wo r H5)) := fun c o e => by
        have k1 : H c = none := by
          unfold newP at e
          split at e
          · assumption
          · cases e
        have k2 : H'' c = some o := newP_same _ _ e
        have nD : c ≠ D := fun z => by rw [z, e1] at k1; cases k1
        have nr : c ≠ r := fun z => by rw [z, hr0] at k1; cases k1
        rw [wo_get nD, wo_get nr]
        exact o5 _ _ nD k2
      exact ((hd.same (Same.wo (Off.wo o2))).same (wo_off2 o5)).app (.cons (hy.same sy) .nil)
    · rcases List.mem_append.mp hz with hz | hz
      · exact hk z hz
      · rw [List.mem_singleton.mp hz]; exact hok
  · obtain ⟨o1, r1, e1, ds, hd, hl, hk⟩ := h
    exact q D H ys ds n0 (h0.ne n0) o1 r1 e1 hd hl hk
/-- some of a list's items, by their places -/
theorem da_pick {b : Bool} {K : PySem.W.Frag} {H : Hp} {xs : List V} {ds : List PyData} (h : DaAllF b K H xs ds) : ∀ is : List Nat, (∀ i ∈ is, i < xs.length) → DaAllF b K H (is.map fun i => xs.getD i .non) (is.map fun i => ds.getD i .none)
  | [], _ => .nil
  | i :: is, hi => by
    have h1 := hi i (by simp)
    have h2 : xs[i]? = some xs[i] := List.getElem?_eq_getElem h1
    obtain ⟨d, hd, hda⟩ := da_get h h2
    refine .cons ?_ (da_pick h is fun j hj => hi j (List.mem_cons_of_mem _ hj))
    show DaF b K H (xs.getD i .non) (ds.getD i .none)
    rw [List.getD_eq_getElem?_getD, List.getD_eq_getElem?_getD, h2, hd]
    exact hda
end KX

namespace KX
open PySem PySem.Spec PyProof.Rows L2

theorem sc_InvalidVersionx_initx : FnScope ["self", "value"] ["self", "value"] (defScope s_InvalidVersionx_initx) := ⟨rfl, rfl, rfl, by decide +kernel, rfl, by decide +kernel, by decide +kernel⟩
theorem sc_InvalidWindowx_initx : FnScope ["self", "value"] ["self", "value"] (defScope s_InvalidWindowx_initx) := ⟨rfl, rfl, rfl, by decide +kernel, rfl, by decide +kernel, by decide +kernel⟩
theorem sc_InvalidWindowsx_initx : FnScope ["self", "position"] ["self", "position"] (defScope s_InvalidWindowsx_initx) := ⟨rfl, rfl, rfl, by decide +kernel, rfl, by decide +kernel, by decide +kernel⟩
theorem sc_InvalidTextx_initx : FnScope ["self", "line"] ["self", "line"] (defScope s_InvalidTextx_initx) := ⟨rfl, rfl, rfl, by decide +kernel, rfl, by decide +kernel, by decide +kernel⟩
theorem sc_is_integer : FnScope ["value"] ["value"] (defScope s_is_integer) := ⟨rfl, rfl, rfl, by decide +kernel, rfl, by decide +kernel, by decide +kernel⟩
theorem sc_is_version : FnScope ["value"] ["value"] (defScope s_is_version) := ⟨rfl, rfl, rfl, by decide +kernel, rfl, by decide +kernel, by decide +kernel⟩
theorem sc_require_version : FnScope ["value"] ["value"] (defScope s_require_version) := ⟨rfl, rfl, rfl, by decide +kernel, rfl, by decide +kernel, by decide +kernel⟩
theorem sc_parse_number : FnScope ["word", "digit"] ["word"] (defScope s_parse_number) := ⟨rfl, rfl, rfl, by decide +kernel, rfl, by decide +kernel, by decide +kernel⟩
theorem sc_is_window : FnScope ["value", "low", "high"] ["value"] (defScope s_is_window) := ⟨rfl, rfl, rfl, by decide +kernel, rfl, by decide +kernel, by decide +kernel⟩
theorem sc_require_window : FnScope ["value"] ["value"] (defScope s_require_window) := ⟨rfl, rfl, rfl, by decide +kernel, rfl, by decide +kernel, by decide +kernel⟩
theorem sc_require_windows : FnScope ["value", "position", "window"] ["value"] (defScope s_require_windows) := ⟨rfl, rfl, rfl, by decide +kernel, rfl, by decide +kernel, by decide +kernel⟩
theorem sc_reaches : FnScope ["window", "version"] ["window", "version"] (defScope s_reaches) := ⟨rfl, rfl, rfl, by decide +kernel, rfl, by decide +kernel, by decide +kernel⟩
theorem sc_contains : FnScope ["window", "version"] ["window", "version"] (defScope s_contains) := ⟨rfl, rfl, rfl, by decide +kernel, rfl, by decide +kernel, by decide +kernel⟩
theorem sc_rises : FnScope ["first", "second"] ["first", "second"] (defScope s_rises) := ⟨rfl, rfl, rfl, by decide +kernel, rfl, by decide +kernel, by decide +kernel⟩
theorem sc_first_falling : FnScope ["windows", "position", "first", "second"] ["windows"] (defScope s_first_falling) := ⟨rfl, rfl, rfl, by decide +kernel, rfl, by decide +kernel, by decide +kernel⟩
theorem sc_least_reaching : FnScope ["windows", "version", "falling", "position", "window"] ["windows", "version"] (defScope s_least_reaching) := ⟨rfl, rfl, rfl, by decide +kernel, rfl, by decide +kernel, by decide +kernel⟩
theorem sc_format_window : FnScope ["window", "low", "high"] ["window"] (defScope s_format_window) := ⟨rfl, rfl, rfl, by decide +kernel, rfl, by decide +kernel, by decide +kernel⟩
theorem sc_window_in : FnScope ["text", "words", "low", "high"] ["text"] (defScope s_window_in) := ⟨rfl, rfl, rfl, by decide +kernel, rfl, by decide +kernel, by decide +kernel⟩
theorem sc_parse_window : FnScope ["text", "window"] ["text"] (defScope s_parse_window) := ⟨rfl, rfl, rfl, by decide +kernel, rfl, by decide +kernel, by decide +kernel⟩
theorem sc_l_rng : FnScope ["_law_script", "_law_k", "_law_cell"] ["_law_script", "_law_k"] (defScope s_l_rng) := ⟨rfl, rfl, rfl, by decide +kernel, rfl, by decide +kernel, by decide +kernel⟩
theorem sc_l_draw : FnScope ["_law_rng_here", "_law_many", "_law_digit"] ["_law_rng_here", "_law_many"] (defScope s_l_draw) := ⟨rfl, rfl, rfl, by decide +kernel, rfl, by decide +kernel, by decide +kernel⟩
theorem sc_l_choice : FnScope ["_law_rng_here", "_law_options"] ["_law_rng_here", "_law_options"] (defScope s_l_choice) := ⟨rfl, rfl, rfl, by decide +kernel, rfl, by decide +kernel, by decide +kernel⟩
theorem sc_l_is_count : FnScope ["_law_one"] ["_law_one"] (defScope s_l_is_count) := ⟨rfl, rfl, rfl, by decide +kernel, rfl, by decide +kernel, by decide +kernel⟩
theorem sc_l_is_window : FnScope ["_law_one"] ["_law_one"] (defScope s_l_is_window) := ⟨rfl, rfl, rfl, by decide +kernel, rfl, by decide +kernel, by decide +kernel⟩
theorem sc_l_odd : FnScope ["_law_rng_here", "_law_some"] ["_law_rng_here"] (defScope s_l_odd) := ⟨rfl, rfl, rfl, by decide +kernel, rfl, by decide +kernel, by decide +kernel⟩
theorem sc_l_told : FnScope ["_law_call", "_law_told_here", "e"] ["_law_call"] (defScope s_l_told) := ⟨rfl, rfl, rfl, by decide +kernel, rfl, by decide +kernel, by decide +kernel⟩
theorem sc_l_singles_right : FnScope ["_law_rng_here", "_law_good", "_law_due", "_law_told_here", "_law_number_here", "_law_one", "_law_other"] ["_law_rng_here"] (defScope s_l_singles_right) := ⟨rfl, rfl, rfl, by decide +kernel, rfl, by decide +kernel, by decide +kernel⟩
theorem sc_l_top : FnScope ["_law_one"] ["_law_one"] (defScope s_l_top) := ⟨rfl, rfl, rfl, by decide +kernel, rfl, by decide +kernel, by decide +kernel⟩
theorem sc_l_lists_right : FnScope ["_law_rng_here", "_law_kept", "_law_due", "_law_told_here", "_law_falls", "_law_number_here", "_law_some", "_law_turn", "_law_one", "_law_a", "_law_b"] ["_law_rng_here"] (defScope s_l_lists_right) := ⟨rfl, rfl, rfl, by decide +kernel, rfl, by decide +kernel, by decide +kernel⟩
theorem sc_l_number : FnScope ["_law_word", "_law_sign"] ["_law_word"] (defScope s_l_number) := ⟨rfl, rfl, rfl, by decide +kernel, rfl, by decide +kernel, by decide +kernel⟩
theorem sc_l_read : FnScope ["_law_text", "_law_at", "_law_low", "_law_high"] ["_law_text"] (defScope s_l_read) := ⟨rfl, rfl, rfl, by decide +kernel, rfl, by decide +kernel, by decide +kernel⟩
theorem sc_l_texts_right : FnScope ["_law_rng_here", "_law_low", "_law_one", "_law_turn", "_law_at", "_law_sign", "_law_found", "_law_due", "_law_odd_here", "_law_text"] ["_law_rng_here"] (defScope s_l_texts_right) := ⟨rfl, rfl, rfl, by decide +kernel, rfl, by decide +kernel, by decide +kernel⟩
theorem sc_law : FnScope ["_law_script", "_law_k", "_law_rng_here", "_law_turn"] ["_law_script"] (defScope s_law) := ⟨rfl, rfl, rfl, by decide +kernel, rfl, by decide +kernel, by decide +kernel⟩
/-- where the defs stand -/
structure Ad where
  f_InvalidVersionx_initx : Addr
  d_InvalidVersionx_initx : FuncData
  f_InvalidWindowx_initx : Addr
  d_InvalidWindowx_initx : FuncData
  f_InvalidWindowsx_initx : Addr
  d_InvalidWindowsx_initx : FuncData
  f_InvalidTextx_initx : Addr
  d_InvalidTextx_initx : FuncData
  f_is_integer : Addr
  d_is_integer : FuncData
  f_is_version : Addr
  d_is_version : FuncData
  f_require_version : Addr
  d_require_version : FuncData
  f_parse_number : Addr
  d_parse_number : FuncData
  f_is_window : Addr
  d_is_window : FuncData
  f_require_window : Addr
  d_require_window : FuncData
  f_require_windows : Addr
  d_require_windows : FuncData
  f_reaches : Addr
  d_reaches : FuncData
  f_contains : Addr
  d_contains : FuncData
  f_rises : Addr
  d_rises : FuncData
  f_first_falling : Addr
  d_first_falling : FuncData
  f_least_reaching : Addr
  d_least_reaching : FuncData
  f_format_window : Addr
  d_format_window : FuncData
  f_window_in : Addr
  d_window_in : FuncData
  f_parse_window : Addr
  d_parse_window : FuncData
  f_l_rng : Addr
  d_l_rng : FuncData
  f_l_draw : Addr
  d_l_draw : FuncData
  f_l_choice : Addr
  d_l_choice : FuncData
  f_l_is_count : Addr
  d_l_is_count : FuncData
  f_l_is_window : Addr
  d_l_is_window : FuncData
  f_l_odd : Addr
  d_l_odd : FuncData
  f_l_told : Addr
  d_l_told : FuncData
  f_l_singles_right : Addr
  d_l_singles_right : FuncData
  f_l_top : Addr
  d_l_top : FuncData
  f_l_lists_right : Addr
  d_l_lists_right : FuncData
  f_l_number : Addr
  d_l_number : FuncData
  f_l_read : Addr
  d_l_read : FuncData
  f_l_texts_right : Addr
  d_l_texts_right : FuncData
  f_law : Addr
  d_law : FuncData
  cc_l_singles_right : Addr
  p_l_singles_right : Addr
  cc_l_lists_right : Addr
  p_l_lists_right : Addr
  cc_l_texts_right : Addr
  p_l_texts_right : Addr
  t_DIGITS : Tok
  t_MAX_DIGITS : Tok
  t_DOTS : Tok
  c_GroupError : Addr
  c_InvalidVersion : Addr
  c_InvalidWindow : Addr
  c_InvalidWindows : Addr
  c_InvalidText : Addr
/-- what the top has left -/
structure Txt (K : PySem.W.Frag) (mg : Str → Option Value) (A : Ad) : Prop where
  F_InvalidVersionx_initx : Fun K "__init__" "InvalidVersion.__init__" s_InvalidVersionx_initx A.f_InvalidVersionx_initx A.d_InvalidVersionx_initx
  b_InvalidVersionx_initx : Binds K A.d_InvalidVersionx_initx ["self", "value"] []
  F_InvalidWindowx_initx : Fun K "__init__" "InvalidWindow.__init__" s_InvalidWindowx_initx A.f_InvalidWindowx_initx A.d_InvalidWindowx_initx
  b_InvalidWindowx_initx : Binds K A.d_InvalidWindowx_initx ["self", "value"] []
  F_InvalidWindowsx_initx : Fun K "__init__" "InvalidWindows.__init__" s_InvalidWindowsx_initx A.f_InvalidWindowsx_initx A.d_InvalidWindowsx_initx
  b_InvalidWindowsx_initx : Binds K A.d_InvalidWindowsx_initx ["self", "position"] []
  F_InvalidTextx_initx : Fun K "__init__" "InvalidText.__init__" s_InvalidTextx_initx A.f_InvalidTextx_initx A.d_InvalidTextx_initx
  b_InvalidTextx_initx : Binds K A.d_InvalidTextx_initx ["self", "line"] []
  F_is_integer : Fun K "is_integer" "is_integer" s_is_integer A.f_is_integer A.d_is_integer
  g_is_integer : mg "is_integer" = some (.ref A.f_is_integer)
  b_is_integer : Binds K A.d_is_integer ["value"] []
  F_is_version : Fun K "is_version" "is_version" s_is_version A.f_is_version A.d_is_version
  g_is_version : mg "is_version" = some (.ref A.f_is_version)
  b_is_version : Binds K A.d_is_version ["value"] []
  F_require_version : Fun K "require_version" "require_version" s_require_version A.f_require_version A.d_require_version
  g_require_version : mg "require_version" = some (.ref A.f_require_version)
  b_require_version : Binds K A.d_require_version ["value"] []
  F_parse_number : Fun K "parse_number" "parse_number" s_parse_number A.f_parse_number A.d_parse_number
  g_parse_number : mg "parse_number" = some (.ref A.f_parse_number)
  b_parse_number : Binds K A.d_parse_number ["word"] []
  F_is_window : Fun K "is_window" "is_window" s_is_window A.f_is_window A.d_is_window
  g_is_window : mg "is_window" = some (.ref A.f_is_window)
  b_is_window : Binds K A.d_is_window ["value"] []
  F_require_window : Fun K "require_window" "require_window" s_require_window A.f_require_window A.d_require_window
  g_require_window : mg "require_window" = some (.ref A.f_require_window)
  b_require_window : Binds K A.d_require_window ["value"] []
  F_require_windows : Fun K "require_windows" "require_windows" s_require_windows A.f_require_windows A.d_require_windows
  g_require_windows : mg "require_windows" = some (.ref A.f_require_windows)
  b_require_windows : Binds K A.d_require_windows ["value"] []
  F_reaches : Fun K "reaches" "reaches" s_reaches A.f_reaches A.d_reaches
  g_reaches : mg "reaches" = some (.ref A.f_reaches)
  b_reaches : Binds K A.d_reaches ["window", "version"] []
  F_contains : Fun K "contains" "contains" s_contains A.f_contains A.d_contains
  g_contains : mg "contains" = some (.ref A.f_contains)
  b_contains : Binds K A.d_contains ["window", "version"] []
  F_rises : Fun K "rises" "rises" s_rises A.f_rises A.d_rises
  g_rises : mg "rises" = some (.ref A.f_rises)
  b_rises : Binds K A.d_rises ["first", "second"] []
  F_first_falling : Fun K "first_falling" "first_falling" s_first_falling A.f_first_falling A.d_first_falling
  g_first_falling : mg "first_falling" = some (.ref A.f_first_falling)
  b_first_falling : Binds K A.d_first_falling ["windows"] []
  F_least_reaching : Fun K "least_reaching" "least_reaching" s_least_reaching A.f_least_reaching A.d_least_reaching
  g_least_reaching : mg "least_reaching" = some (.ref A.f_least_reaching)
  b_least_reaching : Binds K A.d_least_reaching ["windows", "version"] []
  F_format_window : Fun K "format_window" "format_window" s_format_window A.f_format_window A.d_format_window
  g_format_window : mg "format_window" = some (.ref A.f_format_window)
  b_format_window : Binds K A.d_format_window ["window"] []
  F_window_in : Fun K "window_in" "window_in" s_window_in A.f_window_in A.d_window_in
  g_window_in : mg "window_in" = some (.ref A.f_window_in)
  b_window_in : Binds K A.d_window_in ["text"] []
  F_parse_window : Fun K "parse_window" "parse_window" s_parse_window A.f_parse_window A.d_parse_window
  g_parse_window : mg "parse_window" = some (.ref A.f_parse_window)
  b_parse_window : Binds K A.d_parse_window ["text"] []
  F_l_rng : Fun K "_law_rng" "_law_rng" s_l_rng A.f_l_rng A.d_l_rng
  g_l_rng : mg "_law_rng" = some (.ref A.f_l_rng)
  b_l_rng : Binds K A.d_l_rng ["_law_script", "_law_k"] []
  F_l_draw : Fun K "_law_draw" "_law_draw" s_l_draw A.f_l_draw A.d_l_draw
  g_l_draw : mg "_law_draw" = some (.ref A.f_l_draw)
  b_l_draw : Binds K A.d_l_draw ["_law_rng_here", "_law_many"] []
  F_l_choice : Fun K "_law_choice" "_law_choice" s_l_choice A.f_l_choice A.d_l_choice
  g_l_choice : mg "_law_choice" = some (.ref A.f_l_choice)
  b_l_choice : Binds K A.d_l_choice ["_law_rng_here", "_law_options"] []
  F_l_is_count : Fun K "_law_is_count" "_law_is_count" s_l_is_count A.f_l_is_count A.d_l_is_count
  g_l_is_count : mg "_law_is_count" = some (.ref A.f_l_is_count)
  b_l_is_count : Binds K A.d_l_is_count ["_law_one"] []
  F_l_is_window : Fun K "_law_is_window" "_law_is_window" s_l_is_window A.f_l_is_window A.d_l_is_window
  g_l_is_window : mg "_law_is_window" = some (.ref A.f_l_is_window)
  b_l_is_window : Binds K A.d_l_is_window ["_law_one"] []
  F_l_odd : Fun K "_law_odd" "_law_odd" s_l_odd A.f_l_odd A.d_l_odd
  g_l_odd : mg "_law_odd" = some (.ref A.f_l_odd)
  b_l_odd : Binds K A.d_l_odd ["_law_rng_here"] []
  F_l_told : Fun K "_law_told" "_law_told" s_l_told A.f_l_told A.d_l_told
  g_l_told : mg "_law_told" = some (.ref A.f_l_told)
  b_l_told : Binds K A.d_l_told ["_law_call"] []
  F_l_singles_right : Fun K "_law_singles_right" "_law_singles_right" s_l_singles_right A.f_l_singles_right A.d_l_singles_right
  g_l_singles_right : mg "_law_singles_right" = some (.ref A.f_l_singles_right)
  b_l_singles_right : Binds K A.d_l_singles_right ["_law_rng_here"] []
  F_l_top : Fun K "_law_top" "_law_top" s_l_top A.f_l_top A.d_l_top
  g_l_top : mg "_law_top" = some (.ref A.f_l_top)
  b_l_top : Binds K A.d_l_top ["_law_one"] []
  F_l_lists_right : Fun K "_law_lists_right" "_law_lists_right" s_l_lists_right A.f_l_lists_right A.d_l_lists_right
  g_l_lists_right : mg "_law_lists_right" = some (.ref A.f_l_lists_right)
  b_l_lists_right : Binds K A.d_l_lists_right ["_law_rng_here"] []
  F_l_number : Fun K "_law_number" "_law_number" s_l_number A.f_l_number A.d_l_number
  g_l_number : mg "_law_number" = some (.ref A.f_l_number)
  b_l_number : Binds K A.d_l_number ["_law_word"] []
  F_l_read : Fun K "_law_read" "_law_read" s_l_read A.f_l_read A.d_l_read
  g_l_read : mg "_law_read" = some (.ref A.f_l_read)
  b_l_read : Binds K A.d_l_read ["_law_text"] []
  F_l_texts_right : Fun K "_law_texts_right" "_law_texts_right" s_l_texts_right A.f_l_texts_right A.d_l_texts_right
  g_l_texts_right : mg "_law_texts_right" = some (.ref A.f_l_texts_right)
  b_l_texts_right : Binds K A.d_l_texts_right ["_law_rng_here"] []
  F_law : Fun K "law" "law" s_law A.f_law A.d_law
  g_law : mg "law" = some (.ref A.f_law)
  b_law : Binds K A.d_law ["_law_script"] []
  C_l_singles_right : FunC K "_law_singles_right" "_law_singles_right" s_l_singles_right A.f_l_singles_right A.d_l_singles_right A.cc_l_singles_right
  C_l_lists_right : FunC K "_law_lists_right" "_law_lists_right" s_l_lists_right A.f_l_lists_right A.d_l_lists_right A.cc_l_lists_right
  C_l_texts_right : FunC K "_law_texts_right" "_law_texts_right" s_l_texts_right A.f_l_texts_right A.d_l_texts_right A.cc_l_texts_right
  ne_l_singles_right_l_lists_right : A.p_l_singles_right ≠ A.p_l_lists_right
  ne_l_singles_right_l_texts_right : A.p_l_singles_right ≠ A.p_l_texts_right
  ne_l_lists_right_l_texts_right : A.p_l_lists_right ≠ A.p_l_texts_right
  kb_format_window_window : KB0 K A.d_format_window ["window"] ["window"] [0]
  kb_is_window_value : KB0 K A.d_is_window ["value"] ["value"] [0]
  c_DIGITS : mg "DIGITS" = some (.str "0123456789" A.t_DIGITS)
  c_MAX_DIGITS : mg "MAX_DIGITS" = some (.int (60) A.t_MAX_DIGITS)
  c_DOTS : mg "DOTS" = some (.str ".." A.t_DOTS)
  m_abs : mg "abs" = none
  m_all : mg "all" = none
  m_bool : mg "bool" = none
  m_divmod : mg "divmod" = none
  m_enumerate : mg "enumerate" = none
  m_int : mg "int" = none
  m_isinstance : mg "isinstance" = none
  m_len : mg "len" = none
  m_list : mg "list" = none
  m_max : mg "max" = none
  m_min : mg "min" = none
  m_range : mg "range" = none
  m_repr : mg "repr" = none
  m_str : mg "str" = none
  m_tuple : mg "tuple" = none
  m_zip : mg "zip" = none
  gX_GroupError : mg "GroupError" = some (.ref A.c_GroupError)
  gX_InvalidVersion : mg "InvalidVersion" = some (.ref A.c_InvalidVersion)
  gX_InvalidWindow : mg "InvalidWindow" = some (.ref A.c_InvalidWindow)
  gX_InvalidWindows : mg "InvalidWindows" = some (.ref A.c_InvalidWindows)
  gX_InvalidText : mg "InvalidText" = some (.ref A.c_InvalidText)
  cg : ClassGet K
  sys : SysD K
  EX_GroupError : ExT K "ValueError.__new__" "ValueError.__init__" (tailOf "ValueError") A.c_GroupError
  EX_InvalidVersion : ExT K "ValueError.__new__" "ValueError.__init__" (tailOf "ValueError") A.c_InvalidVersion
  EX_InvalidWindow : ExT K "ValueError.__new__" "ValueError.__init__" (tailOf "ValueError") A.c_InvalidWindow
  EX_InvalidWindows : ExT K "ValueError.__new__" "ValueError.__init__" (tailOf "ValueError") A.c_InvalidWindows
  EX_InvalidText : ExT K "ValueError.__new__" "ValueError.__init__" (tailOf "ValueError") A.c_InvalidText
  IB_GroupError : InitB K "ValueError.__init__" A.c_GroupError
  su_GroupError_InvalidWindow : PySem.W.subIn K (.ref A.c_GroupError) (.ref A.c_InvalidWindow) = some false
  su_GroupError_InvalidWindows : PySem.W.subIn K (.ref A.c_GroupError) (.ref A.c_InvalidWindows) = some false
  su_GroupError_InvalidVersion : PySem.W.subIn K (.ref A.c_GroupError) (.ref A.c_InvalidVersion) = some false
  su_GroupError_InvalidText : PySem.W.subIn K (.ref A.c_GroupError) (.ref A.c_InvalidText) = some false
  su_GroupError_GroupError : PySem.W.subIn K (.ref A.c_GroupError) (.ref A.c_GroupError) = some true
  iC_InvalidVersion : PySem.W.findIn K (.ref A.c_InvalidVersion) "__init__" = some (some (.ref A.f_InvalidVersionx_initx))
  tI_InvalidVersion : PySem.W.typeIn K (.ref A.f_InvalidVersionx_initx) = some (.type "function")
  tk_InvalidVersion_value : PySem.W.takerIn K A.c_InvalidVersion "value" = some none
  nf_InvalidVersion_value : PySem.W.findIn K (.ref A.c_InvalidVersion) "value" = some none
  su_InvalidVersion_InvalidWindow : PySem.W.subIn K (.ref A.c_InvalidVersion) (.ref A.c_InvalidWindow) = some false
  su_InvalidVersion_InvalidWindows : PySem.W.subIn K (.ref A.c_InvalidVersion) (.ref A.c_InvalidWindows) = some false
  su_InvalidVersion_InvalidVersion : PySem.W.subIn K (.ref A.c_InvalidVersion) (.ref A.c_InvalidVersion) = some true
  su_InvalidVersion_InvalidText : PySem.W.subIn K (.ref A.c_InvalidVersion) (.ref A.c_InvalidText) = some false
  su_InvalidVersion_GroupError : PySem.W.subIn K (.ref A.c_InvalidVersion) (.ref A.c_GroupError) = some true
  iC_InvalidWindow : PySem.W.findIn K (.ref A.c_InvalidWindow) "__init__" = some (some (.ref A.f_InvalidWindowx_initx))
  tI_InvalidWindow : PySem.W.typeIn K (.ref A.f_InvalidWindowx_initx) = some (.type "function")
  tk_InvalidWindow_value : PySem.W.takerIn K A.c_InvalidWindow "value" = some none
  nf_InvalidWindow_value : PySem.W.findIn K (.ref A.c_InvalidWindow) "value" = some none
  su_InvalidWindow_InvalidWindow : PySem.W.subIn K (.ref A.c_InvalidWindow) (.ref A.c_InvalidWindow) = some true
  su_InvalidWindow_InvalidWindows : PySem.W.subIn K (.ref A.c_InvalidWindow) (.ref A.c_InvalidWindows) = some false
  su_InvalidWindow_InvalidVersion : PySem.W.subIn K (.ref A.c_InvalidWindow) (.ref A.c_InvalidVersion) = some false
  su_InvalidWindow_InvalidText : PySem.W.subIn K (.ref A.c_InvalidWindow) (.ref A.c_InvalidText) = some false
  su_InvalidWindow_GroupError : PySem.W.subIn K (.ref A.c_InvalidWindow) (.ref A.c_GroupError) = some true
  iC_InvalidWindows : PySem.W.findIn K (.ref A.c_InvalidWindows) "__init__" = some (some (.ref A.f_InvalidWindowsx_initx))
  tI_InvalidWindows : PySem.W.typeIn K (.ref A.f_InvalidWindowsx_initx) = some (.type "function")
  tk_InvalidWindows_position : PySem.W.takerIn K A.c_InvalidWindows "position" = some none
  nf_InvalidWindows_position : PySem.W.findIn K (.ref A.c_InvalidWindows) "position" = some none
  su_InvalidWindows_InvalidWindow : PySem.W.subIn K (.ref A.c_InvalidWindows) (.ref A.c_InvalidWindow) = some false
  su_InvalidWindows_InvalidWindows : PySem.W.subIn K (.ref A.c_InvalidWindows) (.ref A.c_InvalidWindows) = some true
  su_InvalidWindows_InvalidVersion : PySem.W.subIn K (.ref A.c_InvalidWindows) (.ref A.c_InvalidVersion) = some false
  su_InvalidWindows_InvalidText : PySem.W.subIn K (.ref A.c_InvalidWindows) (.ref A.c_InvalidText) = some false
  su_InvalidWindows_GroupError : PySem.W.subIn K (.ref A.c_InvalidWindows) (.ref A.c_GroupError) = some true
  iC_InvalidText : PySem.W.findIn K (.ref A.c_InvalidText) "__init__" = some (some (.ref A.f_InvalidTextx_initx))
  tI_InvalidText : PySem.W.typeIn K (.ref A.f_InvalidTextx_initx) = some (.type "function")
  tk_InvalidText_line : PySem.W.takerIn K A.c_InvalidText "line" = some none
  nf_InvalidText_line : PySem.W.findIn K (.ref A.c_InvalidText) "line" = some none
  su_InvalidText_InvalidWindow : PySem.W.subIn K (.ref A.c_InvalidText) (.ref A.c_InvalidWindow) = some false
  su_InvalidText_InvalidWindows : PySem.W.subIn K (.ref A.c_InvalidText) (.ref A.c_InvalidWindows) = some false
  su_InvalidText_InvalidVersion : PySem.W.subIn K (.ref A.c_InvalidText) (.ref A.c_InvalidVersion) = some false
  su_InvalidText_InvalidText : PySem.W.subIn K (.ref A.c_InvalidText) (.ref A.c_InvalidText) = some true
  su_InvalidText_GroupError : PySem.W.subIn K (.ref A.c_InvalidText) (.ref A.c_GroupError) = some true
/-- the tables of the defs that make lambdas -/
abbrev TT (A : Ad) : List (Addr × Str) := [(A.p_l_singles_right, (("_law_singles_right" : Str) ++ ".<locals>.") ++ "<lambda>"), (A.p_l_lists_right, (("_law_lists_right" : Str) ++ ".<locals>.") ++ "<lambda>"), (A.p_l_texts_right, (("_law_texts_right" : Str) ++ ".<locals>.") ++ "<lambda>")]
structure TBs (base : Heap) (mg : Str → Option Value) (A : Ad) : Prop where
  p_l_singles_right : LamX.TabB base mg A.cc_l_singles_right A.p_l_singles_right
  p_l_lists_right : LamX.TabB base mg A.cc_l_lists_right A.p_l_lists_right
  p_l_texts_right : LamX.TabB base mg A.cc_l_texts_right A.p_l_texts_right
theorem one_l_singles_right {K : PySem.W.Frag} {mg : Str → Option Value} {A : Ad} (T : Txt K mg A) : ∀ p ∈ TT A, p.1 = A.p_l_singles_right → p.2 = (("_law_singles_right" : Str) ++ ".<locals>.") ++ "<lambda>" := by
  intro p hp e
  simp only [TT, List.mem_cons, List.not_mem_nil, or_false] at hp
  rcases hp with rfl | rfl | rfl
  · rfl
  · exact absurd e (T.ne_l_singles_right_l_lists_right).symm
  · exact absurd e (T.ne_l_singles_right_l_texts_right).symm
theorem one_l_lists_right {K : PySem.W.Frag} {mg : Str → Option Value} {A : Ad} (T : Txt K mg A) : ∀ p ∈ TT A, p.1 = A.p_l_lists_right → p.2 = (("_law_lists_right" : Str) ++ ".<locals>.") ++ "<lambda>" := by
  intro p hp e
  simp only [TT, List.mem_cons, List.not_mem_nil, or_false] at hp
  rcases hp with rfl | rfl | rfl
  · exact absurd e T.ne_l_singles_right_l_lists_right
  · rfl
  · exact absurd e (T.ne_l_lists_right_l_texts_right).symm
theorem one_l_texts_right {K : PySem.W.Frag} {mg : Str → Option Value} {A : Ad} (T : Txt K mg A) : ∀ p ∈ TT A, p.1 = A.p_l_texts_right → p.2 = (("_law_texts_right" : Str) ++ ".<locals>.") ++ "<lambda>" := by
  intro p hp e
  simp only [TT, List.mem_cons, List.not_mem_nil, or_false] at hp
  rcases hp with rfl | rfl | rfl
  · exact absurd e T.ne_l_singles_right_l_texts_right
  · exact absurd e T.ne_l_lists_right_l_texts_right
  · rfl
theorem i_tt {c : Bool} {A B : Prop} (h : c = true) (x : A) : if c = true then A else B := by rw [if_pos h]; exact x
theorem i_ff {c : Bool} {A B : Prop} (h : c = false) (x : B) : if c = true then A else B := by rw [h, if_neg Bool.false_ne_true]; exact x
theorem atN_lt {xs : List Nat} {d : Int} (h0 : 0 ≤ d) (h1 : d < xs.length) : ∃ v, v ∈ xs ∧ atI xs d = some v := by
  have hd : d.toNat < xs.length := by omega
  refine ⟨xs[d.toNat], List.getElem_mem hd, ?_⟩
  unfold atI ixN
  rw [if_pos h0, if_pos h1]
  simp [hd]
theorem strs_of {n : Nat} : ∀ {ys : List V}, (∀ (i : Nat) y, ys[i]? = some y → ∃ z, y = .str z ∧ okS z n) → ∃ zs : List Str, ys = zs.map V.str ∧ ∀ z ∈ zs, okS z n
  | [], _ => ⟨[], rfl, by simp⟩
  | y :: ys, h => by
    obtain ⟨z, rfl, hz⟩ := h 0 y rfl
    obtain ⟨zs, rfl, hzs⟩ := strs_of (ys := ys) (fun i y e => h (i + 1) y e)
    exact ⟨z :: zs, rfl, List.forall_mem_cons.mpr ⟨hz, hzs⟩⟩
theorem sum_le_of {b : Nat} : ∀ zs : List Str, (∀ z ∈ zs, z.length ≤ b) → (zs.map (·.length)).sum ≤ zs.length * b
  | [], _ => by simp
  | z :: zs, h => by
    have h1 := h z (by simp)
    have ih := sum_le_of zs fun x hx => h x (List.mem_cons_of_mem _ hx)
    simp only [List.map_cons, List.sum_cons, List.length_cons, Nat.add_mul, Nat.one_mul]
    omega

local macro_rules | `(tactic| walk_at "kp") => `(tactic| first
  | with_reducible exact Kp.refl
  | with_reducible exact Kp.thenS (by assumption) (by walk_at "kp")
  | with_reducible exact Kp.thenO (by assumption) (by walk_at "ne") (by walk_at "kp")
  | fail)
local macro_rules | `(tactic| walk_at "hq") => `(tactic| first
  | assumption
  | with_reducible exact Kp.get (by assumption) (by walk_at "kp")
  | fail)
local macro_rules | `(tactic| walk_at "hg") => `(tactic| first
  | walk_at "hq"
  | exact upd_same
  | with_reducible exact (upd_ne (by walk_at "ne")).trans (by walk_at "hg")
  | with_reducible exact Same.get (by assumption) (by walk_at "hg")
  | with_reducible exact Off.get (by assumption) (by walk_at "ne") (by walk_at "hg")
  | fail)
local macro_rules | `(tactic| walk_at "ne") => `(tactic| first
  | assumption
  | (apply Ne.symm; assumption)
  | exact Rok.ne' (by assumption) (by walk_at "rok")
  | exact (Rok.ne' (by assumption) (by walk_at "rok")).symm
  | exact ne_some (by assumption) (by walk_at "hg")
  | exact (ne_some (by assumption) (by walk_at "hg")).symm
  | fail)
local macro_rules | `(tactic| walk_at "rok") => `(tactic| first
  | assumption
  | with_reducible exact Rok.kp (by assumption) (by walk_at "kp")
  | with_reducible exact Rok.same (by assumption) (by walk_at "rok")
  | fail)
local macro_rules | `(tactic| walk_at "sq") => `(tactic| first
  | assumption
  | exact Same.seq (by assumption) (by assumption)
  | (with_reducible show SqL _ _ _ _; with_reducible exact SqL.of (by walk_at "hg"))
  | (with_reducible show SqT _ _ _ _; with_reducible exact SqT.of (by walk_at "hg"))
  | fail)
local macro_rules | `(tactic| walk_at "dac") => `(tactic| first
  | assumption
  | exact DaF.same (by assumption) (by walk_at "dac")
  | fail)
local macro_rules | `(tactic| walk_at "da") => `(tactic| first
  | exact (DaF.non : DaS _ _ _ _)
  | exact (DaF.bl _ : DaS _ _ _ _)
  | exact (DaF.int _ : DaS _ _ _ _)
  | exact (DaF.str _ : DaS _ _ _ _)
  | exact DaF.non
  | exact DaF.bl _
  | exact DaF.int _
  | exact DaF.str _
  | walk_at "dac"
  | with_reducible exact DaF.lst (SqL.of (by walk_at "hq")) (fun _ => by assumption) (by walk_at "das")
  | with_reducible exact Da.lst (SqL.of (by walk_at "hq")) (by walk_at "das")
  | with_reducible exact DaF.tup (SqT.of (by walk_at "hq")) (by walk_at "das")
  | with_reducible exact DaF.dic (Rd.of (by walk_at "hq")) (by walk_at "dak")
  | fail)
local macro_rules | `(tactic| walk_at "das") => `(tactic| first
  | assumption
  | exact DaAllF.nil
  | exact DaAllF.cons (by walk_at "da") (by walk_at "das")
  | fail)
local macro_rules | `(tactic| walk_at "dak") => `(tactic| first
  | assumption
  | exact DaKvF.nil
  | exact DaKvF.cons (by walk_at "da") (by walk_at "dak")
  | fail)
local macro_rules | `(tactic| walk_at "shw") => `(tactic| first
  | assumption
  | exact shw_b2 _ _
  | exact ⟨by decide +kernel, by decide +kernel, by decide +kernel⟩
  | fail)
local macro_rules | `(tactic| walk_at "nod") => `(tactic| first
  | exact .inl rfl
  | exact .inr rfl
  | assumption
  | exact .inr (by assumption)
  | fail)
local macro_rules | `(tactic| walk_at "okd") => `(tactic| first
  | assumption
  | exact okd_of (by decide +kernel)
  | fail)
local macro_rules | `(tactic| walk_at "off") => `(tactic| first
  | assumption
  | exact Off.refl _ _
  | exact Same.refl _
  | with_reducible exact Same.thenS (by assumption) (by walk_at "off")
  | with_reducible exact Off.thenS (by assumption) (by walk_at "off")
  | with_reducible exact Off.thenO (by assumption) (by walk_at "off")
  | with_reducible exact Same.thenF (by assumption) (by assumption) (by walk_at "off") (by walk_at "off")
  | with_reducible exact Off.thenF (by assumption) (by assumption) (by walk_at "off") (by walk_at "off")
  | fail)
local macro_rules | `(tactic| walk_at "side") => `(tactic| first
  | assumption
  | omega
  | decide
  | (simp only [List.length_append, List.length_cons, List.length_nil]; decide)
  | exact ⟨by omega, by omega⟩
  | exact ⟨by omega, PyProof.noPylong_of_log2 (by first | assumption | decide)⟩
  | exact .inl ⟨by omega, by omega⟩
  | exact .inr ⟨by omega, by omega⟩
  | exact ⟨by decide, by decide, by decide⟩
  | exact ⟨by decide, by decide, by omega⟩
  | fail)
local macro_rules | `(tactic| walk_at "st") => `(tactic| first
  | with_reducible refine i_seq ?_
  | with_reducible refine i_bi ?_
  | with_reducible refine i_raise ?_
  | with_reducible refine i_callX ?_
  | with_reducible refine i_tryN ?_
  | with_reducible refine i_isNon ?_
  | with_reducible refine i_isNotNon ?_
  | ((with_reducible refine' i_split ?h ?z ?_); (case h => rfl); (case z => walk_at "side"))
  | with_reducible refine i_find ?_
  | ((with_reducible refine i_strI ?h ?_); (case h => walk_at "side"))
  | with_reducible refine i_fmt ?_
  | ((with_reducible refine i_fmS ?h ?_); (case h => walk_at "side"))
  | ((with_reducible refine i_fmI ?h ?_); (case h => walk_at "side"))
  | with_reducible refine i_jn ?_
  | with_reducible refine i_js0 ?_
  | with_reducible refine i_js1 ?_
  | ((with_reducible refine i_jsR ?h ?_); (case h => walk_at "side"))
  | with_reducible refine i_revS ?_
  | ((with_reducible refine i_exrev ?h ?_); (case h => walk_at "side"))
  | with_reducible refine i_revL ?_
  | ((with_reducible refine' i_exrevL ?h ?_); (case h => walk_at "sq"))
  | with_reducible refine i_par3 ?_
  | with_reducible refine i_ex3 ?_
  | with_reducible refine i_stB ?_
  | with_reducible refine i_mk0 ?_
  | with_reducible refine i_asg ?_
  | with_reducible refine i_c ?_
  | ((with_reducible refine' i_var ?h ?_); (case h => rfl))
  | with_reducible refine i_op ?_
  | with_reducible refine i_cons ?_
  | with_reducible refine i_nil ?_
  | ((with_reducible refine' i_gName ?h ?_); (case h => rfl))
  | with_reducible refine i_rI0 ?_
  | ((with_reducible refine i_rI ?h ?_); (case h => walk_at "side"))
  | with_reducible refine i_test ?_
  | with_reducible refine i_exbl ?_
  | with_reducible refine i_exint ?_
  | with_reducible refine i_exs ?_
  | with_reducible refine i_ret ?_
  | with_reducible refine i_next ?_
  | with_reducible refine i_ifS ?_
  | ((with_reducible refine' i_rIxL ?h ?e ?_); (case h => walk_at "sq"); (case e => first | assumption | rfl))
  | ((with_reducible refine' i_rIxT ?h ?e ?_); (case h => walk_at "sq"); (case e => first | assumption | rfl))
  | ((with_reducible refine' i_rIxS ?h ?e ?_); (case h => walk_at "side"); (case e => first | assumption | rfl))
  | with_reducible refine i_un ?_
  | with_reducible refine i_rU ?_
  | ((with_reducible refine i_rEqSame ?h ?_); (case h => rfl))
  | ((with_reducible refine i_rNeSame ?h ?_); (case h => rfl))
  | ((with_reducible refine i_rEq ?h ?_); (case h => rfl))
  | ((with_reducible refine i_rNe ?h ?_); (case h => rfl))
  | with_reducible refine i_tB ?_
  | with_reducible refine i_and ?_
  | with_reducible refine i_or ?_
  | with_reducible refine i_not ?_
  | with_reducible refine i_andV ?_
  | with_reducible refine i_orV ?_
  | with_reducible refine i_notV ?_
  | with_reducible refine i_if ?_
  | with_reducible refine i_chain ?_
  | with_reducible refine i_drop ?_
  | with_reducible refine i_retN ?_
  | with_reducible refine i_par ?_
  | with_reducible refine i_ex2 ?_
  | ((with_reducible refine' i_aug ?h ?_); (case h => rfl))
  | with_reducible refine i_gNil ?_
  | with_reducible refine i_gCons ?_
  | ((with_reducible refine' i_gTup ?h ?e ?_); (case h => walk_at "sq"); (case e => rfl))
  | with_reducible refine i_gSub ?_
  | ((with_reducible refine' i_rSetL ?h ?e ?_); (case h => walk_at "hg"); (case e => first | assumption | rfl))
  | with_reducible refine i_tup ?_
  | with_reducible refine i_lst ?_
  | with_reducible refine i_lstN ?_
  | with_reducible refine i_newDK ?_
  | with_reducible refine i_disp ?_
  | with_reducible refine i_pairs0 ?_
  | with_reducible refine i_pairs1 ?_
  | with_reducible refine i_call ?_
  | with_reducible refine i_cb ?_
  | with_reducible refine i_bm ?_
  | with_reducible refine i_m1 ?_
  | with_reducible refine i_m0 ?_
  | ((with_reducible refine' i_rAppend ?h ?e ?_); (case h => walk_at "hg"); (case e => walk_at "side"))
  | ((with_reducible refine i_rSlS ?h ?_); (case h => walk_at "side"))
  | ((with_reducible refine' i_rSlL ?h ?_); (case h => walk_at "sq"))
  | with_reducible refine i_sl ?_
  | with_reducible refine i_noPart ?_
  | with_reducible refine i_part ?_
  | with_reducible refine i_rng1 ?_
  | with_reducible refine i_iList ?_
  | with_reducible refine i_iStr ?_
  | with_reducible refine i_iEnum ?_
  | with_reducible refine i_iZip ?_
  | with_reducible refine i_ez ?_
  | ((with_reducible refine' i_exen ?h ?_); (case h => walk_at "sq"))
  | ((with_reducible refine' i_exz ?h ?k ?_); (case h => walk_at "sq"); (case k => walk_at "sq"))
  | ((with_reducible refine' i_listN ?h ?_); (case h => walk_at "sq"))
  | with_reducible refine i_intB ?_
  | ((with_reducible refine' i_listTN ?h ?_); (case h => walk_at "sq"))
  | with_reducible refine i_revT ?_
  | ((with_reducible refine' i_exrevT ?h ?_); (case h => walk_at "sq"))
  | ((with_reducible refine' i_catA ?h ?k ?a ?b ?z ?_); (case h => walk_at "sq"); (case k => walk_at "sq"); (case a => simp); (case b => simp); (case z => walk_at "side"))
  | ((with_reducible refine' i_slTA ?h ?k ?_); (case h => walk_at "sq"); (case k => simp only [List.length_cons, List.length_nil]; decide))
  | ((with_reducible refine' i_countF ?h ?k ?a ?_); (case h => walk_at "sq"); (case k => rfl); (case a => rfl))
  | with_reducible refine i_iTup ?_
  | ((with_reducible refine' i_exlT ?h ?_); (case h => walk_at "sq"))
  | ((with_reducible refine' i_rCatN ?h ?e ?z ?_); (case h => walk_at "hg"); (case e => walk_at "hg"); (case z => walk_at "side"))
  | with_reducible refine i_tryC ?_
  | ((with_reducible refine' i_tupL ?h ?_); (case h => walk_at "sq"))
  | ((with_reducible refine' i_neNil ?h ?k ?_); (case h => walk_at "sq"); (case k => walk_at "sq"))
  | ((with_reducible refine' i_eqNil ?h ?k ?_); (case h => walk_at "sq"); (case k => walk_at "sq"))
  | ((with_reducible refine' i_reprE ?h ?e ?_); (case h => walk_at "da"); (case e => walk_at "shw"))
  | ((with_reducible refine' i_tyL ?h ?_); (case h => walk_at "sq"))
  | with_reducible refine i_isBl ?_
  | ((with_reducible refine i_callW ?_))
  | ((with_reducible refine i_exrng ?h1 ?h2 ?_); (case h1 => walk_at "side"); (case h2 => walk_at "side"))
  | ((with_reducible refine' i_exl ?h ?_); (case h => walk_at "sq"))
  | with_reducible refine i_for ?_
  | with_reducible refine i_lc ?_
  | with_reducible refine i_yes ?_
  | with_reducible refine i_iteT ?_
  | with_reducible refine i_iteF ?_
  | ((with_reducible refine i_divmod ?h ?_); (case h => walk_at "side"))
  | ((with_reducible refine' i_isi ?h ?e ?_); (case h => walk_at "da"); (case e => decide))
  | ((with_reducible refine i_lenS ?h ?_); (case h => walk_at "side"))
  | ((with_reducible refine' i_lenL ?h ?_); (case h => walk_at "sq"))
  | ((with_reducible refine' i_lenT ?h ?_); (case h => walk_at "sq"))
  | ((with_reducible refine' i_repr ?h ?n ?e ?_); (case h => walk_at "da"); (case n => walk_at "nod"); (case e => walk_at "shw"))
  | ((with_reducible refine' i_rCat ?h ?e ?z ?_); (case h => walk_at "hg"); (case e => walk_at "hg"); (case z => walk_at "side"))
  | ((with_reducible refine i_rCatS ?h ?_); (case h => walk_at "side"))
  | with_reducible refine i_exstr ?_
  | ((with_reducible refine' i_join ?h ?z ?_); (case h => walk_at "sq"); (case z => walk_at "side"))
  | with_reducible refine i_abs ?_
  | with_reducible refine i_max ?_
  | with_reducible refine i_min ?_
  | ((with_reducible refine' i_rAll ?h ?_); (case h => walk_at "sq"))
  | ((with_reducible refine' i_lcEl ?h ?e ?_); (case h => walk_at "hg"); (case e => walk_at "side"))
  | with_reducible refine ⟨_, _, rfl, rfl, ?_⟩
  | with_reducible refine ⟨_, _, rfl, ?_⟩
  | with_reducible refine ⟨_, rfl, ?_⟩
  | with_reducible refine And.intro rfl ?_
  | ((with_reducible refine And.intro ?h ?_); (case h => walk_at "side"))
  | fail)

/-! ### promises -/
def sp_l_draw : Sp := fun vs H Q _ => ∃ r m, vs = [.ref r, .int m] ∧ 0 < m ∧ m.natAbs.log2 < 9000 ∧ Rok H r ∧
  ∀ d H', 0 ≤ d → d < m → Rok H' r → Off r H H' → Q (.int d) H'
def sp_l_rng (K : PySem.W.Frag) : Sp := fun vs H Q _ => ∃ (s : Addr) (ns : List Int) (k : Int), vs = [.ref s, .int k] ∧ SqL K H s (ns.map V.int) ∧ 0 ≤ k ∧ k < 100 ∧ ns.length ≤ 63 ∧
  ∀ r H', H r = none → Rok H' r → Same H H' → Q (.ref r) H'
section
variable {P : Program} {w : World} {K : PySem.W.Frag} {mg : Str → Option Value} {base : Heap} {A : Ad}
theorem ok_l_draw (T : Txt K mg A) : Fg P w K mg base CX0 1 A.f_l_draw A.d_l_draw ["_law_rng_here", "_law_many"] sp_l_draw := by
  refine ok_g T.F_l_draw sc_l_draw (fun vs H Q E h => ?_) (fun cdv Ar outer s H vs Q E hr h => ?_)
  · obtain ⟨r, m, rfl, _⟩ := h; rfl
  · obtain ⟨r, m, rfl, m0, mb, ⟨a, b, hR, b0, b1⟩, q⟩ := h
    refine ⟨_, (pss_cons (ps_if (pt_cmpR op_gt (pe_ix ix_list (pv 0) pe_int (fun _ _ => rfl)) pe_int (nomark _))
(pss_cons (ps_asg (pe_callB call_divmodN (by rfl) T.m_divmod (by decide +kernel) (pa_cons (pe_ix ix_list (pv 0) pe_int (fun _ _ => rfl)) (pa_cons (pv 1) pa_nil))) (pg_tup rfl (pgs_cons (pg_sub (pv 0) pe_int set_list) (pgs_cons (pg_name (i := 2) sc_l_draw.nd rfl (.inl rfl)) pgs_nil))))
(pss_one (ps_ret (pv 2))))
pss_nil)
(pss_cons (ps_asg (pe_op op_mod (pe_op op_add (pe_op op_mul (pe_ix ix_list (pv 0) pe_int (fun _ _ => rfl)) pe_int) pe_int) pe_int) (pg_sub (pv 0) pe_int set_list))
(pss_one (ps_ret (pe_op op_mod (pe_op op_fdiv (pe_op op_mod (pe_op op_mul (pe_ix ix_list (pv 0) pe_int (fun _ _ => rfl)) (pe_ix ix_list (pv 0) pe_int (fun _ _ => rfl))) pe_int) pe_int) (pv 1)))))), ?_⟩
    repeat (walk_at "st")
    refine ite2 (fun e => ?_) (fun e => ?_)
    · repeat (walk_at "st")
      refine i_new fun p1 G1 n1 s1 e1 => ?_
      repeat (walk_at "st")
      refine i_put fun G2 o2 e2 => ?_
      repeat (walk_at "st")
      exact q _ _ (Int.emod_nonneg _ (by omega)) (Int.emod_lt_of_pos _ m0) ⟨_, _, e2, b0, b1⟩ (Off.trans (.of_same s1) o2)
    · repeat (walk_at "st")
      refine i_put fun G1 o1 e1 => ?_
      repeat (walk_at "st")
      exact q _ _ (Int.emod_nonneg _ (by omega)) (Int.emod_lt_of_pos _ m0) ⟨_, _, e1, Int.emod_nonneg _ (by decide), Int.lt_trans (Int.emod_lt_of_pos _ (by decide)) (by decide)⟩ o1
theorem atI_lt {xs : List V} {d : Int} (h0 : 0 ≤ d) (h1 : d < xs.length) : ∃ v, v ∈ xs ∧ atI xs d = some v := by
  have hd : d.toNat < xs.length := by omega
  refine ⟨xs[d.toNat], List.getElem_mem hd, ?_⟩
  unfold atI ixN
  rw [if_pos h0, if_pos h1]
  simp [hd]
theorem ok_l_rng (T : Txt K mg A) : Fg P w K mg base CX0 1 A.f_l_rng A.d_l_rng ["_law_script", "_law_k"] (sp_l_rng K) := by
  refine ok_g T.F_l_rng sc_l_rng (fun vs H Q E h => ?_) (fun cdv Ar outer s H vs Q E hr h => ?_)
  · obtain ⟨_, _, _, rfl, _⟩ := h; rfl
  · obtain ⟨s, ns, k, rfl, hS, k0, k1, hl, q⟩ := h
    refine ⟨_, (pss_cons (ps_set (i := 2) sc_l_rng.nd rfl (.inl rfl) (pe_ifExp (pt_cmpR op_lt (pv 1) (pe_callB call_lenN (by rfl) T.m_len (by decide +kernel) (pa_cons (pv 0) pa_nil)) (nomark _)) (pe_callB call_abs (by rfl) T.m_abs (by decide +kernel) (pa_cons (pe_ix ix_list (pv 0) (pv 1) (fun _ _ => rfl)) pa_nil)) pe_int))
(pss_one (ps_ret (pe_lst (pa_cons (pe_callB (call_max2 rfl) (by rfl) T.m_max (by decide +kernel) (pa_cons pe_int (pa_cons (pe_op op_sub (pv 2) (pe_op op_pow pe_int pe_int)) pa_nil))) (pa_cons (pe_op op_add (pe_op op_mod (pe_op op_pow (pe_op op_add (pe_op op_add (pe_op op_mod (pv 2) pe_int) (pe_op op_mul pe_int (pv 1))) pe_int) pe_int) pe_int) pe_int) pa_nil)))))), ?_⟩
    repeat (walk_at "st")
    refine i_ite (fun e => ?_) (fun e => ?_)
    · have e' : k < ns.length := by simpa using of_decide_eq_true e
      obtain ⟨v, hv, ev⟩ := atI_lt (xs := ns.map V.int) k0 (by simpa using e')
      obtain ⟨z, _, rfl⟩ := List.mem_map.mp hv
      repeat (walk_at "st")
      refine i_new fun p1 G1 n1 s1 e1 => ?_
      repeat (walk_at "st")
      exact q _ _ n1 ⟨_, _, e1, by omega, by omega⟩ s1
    · repeat (walk_at "st")
      refine i_new fun p1 G1 n1 s1 e1 => ?_
      repeat (walk_at "st")
      exact q _ _ n1 ⟨_, _, e1, by omega, by omega⟩ s1

/-! ### errors -/
theorem ok_InvalidVersionx_initx (T : Txt K mg A) : FnOk P w K mg base CX0 1 A.f_InvalidVersionx_initx A.d_InvalidVersionx_initx ["self", "value"] (spI A.c_InvalidVersion ["value"]) := by
  refine T.F_InvalidVersionx_initx.ok sc_InvalidVersionx_initx (fun vs H Q E h => ?_) (fun cdv Ar outer s H vs Q E hr h => ?_)
  · obtain ⟨_, ws, rfl, hl, _⟩ := h; simp [hl]
  · obtain ⟨a, ws, rfl, hl, e, q⟩ := h
    obtain ⟨v, rfl⟩ := List.length_eq_one_iff.mp hl
    refine ⟨_, (pss_cons (ps_expr (pe_binit (by rfl) T.gX_GroupError baseV T.IB_GroupError (pa_cons (pv 0) (pa_cons (pv 1) pa_nil))))
(pss_one (ps_stB (newId := "ValueError.__new__") (initId := "ValueError.__init__") (bmB := tailOf "ValueError") (pv 0) (pv 1)))), ?_⟩
    repeat (walk_at "st")
    refine ⟨a, _, [v], rfl, by show 1 ≤ 1000; decide, T.EX_InvalidVersion.o, e, ?_⟩
    repeat (walk_at "st")
    refine ⟨a, _, rfl, T.EX_InvalidVersion.o, T.tk_InvalidVersion_value, .inl ⟨e, fun dx n ne => ?_⟩⟩
    exact q dx _ n ne upd_same (by rw [upd_ne ne]; exact upd_same) fun b n1 n2 => by rw [upd_ne n1, upd_ne n2]
theorem ok_InvalidWindowx_initx (T : Txt K mg A) : FnOk P w K mg base CX0 1 A.f_InvalidWindowx_initx A.d_InvalidWindowx_initx ["self", "value"] (spI A.c_InvalidWindow ["value"]) := by
  refine T.F_InvalidWindowx_initx.ok sc_InvalidWindowx_initx (fun vs H Q E h => ?_) (fun cdv Ar outer s H vs Q E hr h => ?_)
  · obtain ⟨_, ws, rfl, hl, _⟩ := h; simp [hl]
  · obtain ⟨a, ws, rfl, hl, e, q⟩ := h
    obtain ⟨v, rfl⟩ := List.length_eq_one_iff.mp hl
    refine ⟨_, (pss_cons (ps_expr (pe_binit (by rfl) T.gX_GroupError baseV T.IB_GroupError (pa_cons (pv 0) (pa_cons (pv 1) pa_nil))))
(pss_one (ps_stB (newId := "ValueError.__new__") (initId := "ValueError.__init__") (bmB := tailOf "ValueError") (pv 0) (pv 1)))), ?_⟩
    repeat (walk_at "st")
    refine ⟨a, _, [v], rfl, by show 1 ≤ 1000; decide, T.EX_InvalidWindow.o, e, ?_⟩
    repeat (walk_at "st")
    refine ⟨a, _, rfl, T.EX_InvalidWindow.o, T.tk_InvalidWindow_value, .inl ⟨e, fun dx n ne => ?_⟩⟩
    exact q dx _ n ne upd_same (by rw [upd_ne ne]; exact upd_same) fun b n1 n2 => by rw [upd_ne n1, upd_ne n2]

theorem ok_InvalidWindowsx_initx (T : Txt K mg A) : FnOk P w K mg base CX0 1 A.f_InvalidWindowsx_initx A.d_InvalidWindowsx_initx ["self", "position"] (spI A.c_InvalidWindows ["position"]) := by
  refine T.F_InvalidWindowsx_initx.ok sc_InvalidWindowsx_initx (fun vs H Q E h => ?_) (fun cdv Ar outer s H vs Q E hr h => ?_)
  · obtain ⟨_, ws, rfl, hl, _⟩ := h; simp [hl]
  · obtain ⟨a, ws, rfl, hl, e, q⟩ := h
    obtain ⟨v, rfl⟩ := List.length_eq_one_iff.mp hl
    refine ⟨_, (pss_cons (ps_expr (pe_binit (by rfl) T.gX_GroupError baseV T.IB_GroupError (pa_cons (pv 0) (pa_cons (pv 1) pa_nil))))
(pss_one (ps_stB (newId := "ValueError.__new__") (initId := "ValueError.__init__") (bmB := tailOf "ValueError") (pv 0) (pv 1)))), ?_⟩
    repeat (walk_at "st")
    refine ⟨a, _, [v], rfl, by show 1 ≤ 1000; decide, T.EX_InvalidWindows.o, e, ?_⟩
    repeat (walk_at "st")
    refine ⟨a, _, rfl, T.EX_InvalidWindows.o, T.tk_InvalidWindows_position, .inl ⟨e, fun dx n ne => ?_⟩⟩
    exact q dx _ n ne upd_same (by rw [upd_ne ne]; exact upd_same) fun b n1 n2 => by rw [upd_ne n1, upd_ne n2]

theorem ok_is_integer (T : Txt K mg A) : FnOk P w K mg base CX0 1 A.f_is_integer A.d_is_integer ["value"] (sp_dat K fun d => isi d "int" && !isi d "bool") := by
  refine T.F_is_integer.ok sc_is_integer (fun vs H Q E h => ?_) (fun cdv Ar outer s H vs Q E hr h => ?_)
  · obtain ⟨_, _, rfl, _⟩ := h; rfl
  · obtain ⟨v, d, rfl, hd, q⟩ := h
    refine ⟨_, (pss_one (ps_ret (pe_and (pe_callB call_isiD (by rfl) T.m_isinstance (by decide +kernel) (pa_cons (pv 0) (pa_cons (pe_bltn (v := .ty "int") rfl T.m_int (by decide +kernel) rfl) pa_nil))) (pe_one (pe_not (pe_callB call_isiD (by rfl) T.m_isinstance (by decide +kernel) (pa_cons (pv 0) (pa_cons (pe_bltn (v := .ty "bool") rfl T.m_bool (by decide +kernel) rfl) pa_nil)))))))), ?_⟩
    have q' := q _ (Same.refl H)
    dsimp only at q'
    repeat (walk_at "st")
    refine i_ite (fun e => ?_) (fun e => ?_)
    · repeat (walk_at "st")
      rw [e] at q'; exact q'
    · rw [e] at q'; exact q'
theorem ok_is_version (T : Txt K mg A) (G_is_integer : FnOk P w K mg base CX0 1 A.f_is_integer A.d_is_integer ["value"] (sp_dat K fun d => isi d "int" && !isi d "bool")) : FnOk P w K mg base CX0 2 A.f_is_version A.d_is_version ["value"] (sp_dat K verD) := by
  refine T.F_is_version.ok sc_is_version (fun vs H Q E h => ?_) (fun cdv Ar outer s H vs Q E hr h => ?_)
  · obtain ⟨_, _, rfl, _⟩ := h; rfl
  · obtain ⟨v, d, rfl, hd, q⟩ := h
    refine ⟨_, (pss_one (ps_ret (pe_and (L2.pe_call G_is_integer (hr.mono (by decide)) (by rfl) T.g_is_integer T.F_is_integer.kp T.b_is_integer .nil pass0 (pa_cons (pv 0) pa_nil)) (pe_one (pe_cmpR op_ge (pv 0) pe_int (nomark _)))))), ?_⟩
    repeat (walk_at "st")
    refine ⟨_, _, rfl, hd, fun G1 s1 => ?_⟩
    repeat (walk_at "st")
    have q' := q _ s1
    cases hd with
    | int i => 
      refine i_iteT ?_
      repeat (walk_at "st")
      exact q'
    | _ => exact q'
theorem ok_is_window (T : Txt K mg A) (G_is_version : FnOk P w K mg base CX0 2 A.f_is_version A.d_is_version ["value"] (sp_dat K verD)) : FnOk P w K mg base CX0 3 A.f_is_window A.d_is_window ["value"] (sp_dat K winB) := by
  refine T.F_is_window.ok sc_is_window (fun vs H Q E h => ?_) (fun cdv Ar outer s H vs Q E hr h => ?_)
  · obtain ⟨_, _, rfl, _⟩ := h; rfl
  · obtain ⟨v, d, rfl, hd, q⟩ := h
    refine ⟨_, (pss_cons (ps_if (PW.pt (pw_or (pt_not (pt_val (pe_callB call_isiD (by rfl) T.m_isinstance (by decide +kernel) (pa_cons (pv 0) (pa_cons (pe_bltn (v := .ty "tuple") rfl T.m_tuple (by decide +kernel) rfl) pa_nil))))) (pw_or (pt_cmpR op_ne (pe_callB call_lenN (by rfl) T.m_len (by decide +kernel) (pa_cons (pv 0) pa_nil)) pe_int (nomark _)) (pw_or1 (pt_not (pt_val (L2.pe_call G_is_version (hr.mono (by decide)) (by rfl) T.g_is_version T.F_is_version.kp T.b_is_version .nil pass0 (pa_cons (pe_ix ix_tup (pv 0) pe_int (fun _ _ => rfl)) pa_nil))))))))
(pss_one (ps_ret pe_bl))
pss_nil)
(pss_cons (ps_asg (pv 0) (pg_tup rfl (pgs_cons (pg_name (i := 1) sc_is_window.nd rfl (.inl rfl)) (pgs_cons (pg_name (i := 2) sc_is_window.nd rfl (.inl rfl)) pgs_nil))))
(pss_one (ps_ret (pe_or (pe_cmpR op_isNN (pv 2) pe_non (nomark _)) (pe_one (pe_and (L2.pe_call G_is_version (hr.mono (by decide)) (by rfl) T.g_is_version T.F_is_version.kp T.b_is_version .nil pass0 (pa_cons (pv 2) pa_nil)) (pe_one (pe_cmpR op_ge (pv 2) (pv 1) (nomark _)))))))))), ?_⟩
    repeat (walk_at "st")
    cases hd with
    | tup hq ha =>
      rename_i xs ds
      have len := ha.len
      refine i_ff (by rfl) ?_
      repeat (walk_at "st")
      by_cases hl : ds.length = 2
      · refine i_ff (by rw [len, hl]; rfl) ?_
        repeat (walk_at "st")
        obtain ⟨x1, x2, d1, d2, rfl, rfl, h1, h2⟩ := da_two ha hl
        repeat (walk_at "st")
        refine ⟨_, _, rfl, h1, fun G1 s1 => ?_⟩
        have hq' := same_seqT s1 hq
        repeat (walk_at "st")
        refine i_ite (fun e => ?_) (fun e => ?_)
        · repeat (walk_at "st")
          have e' : verD d1 = false := by simpa using e
          have q' := q _ s1
          rw [winB_two, e'] at q'
          exact q'
        · have e' : verD d1 = true := by simpa using e
          obtain ⟨i, rfl, rfl, i0⟩ := verD_int h1 e'
          repeat (walk_at "st")
          refine i_ite (fun c => ?_) (fun c => ?_)
          · repeat (walk_at "st")
            have q' := q _ s1
            rw [winB_two, e', ← da_non h2, c] at q'
            exact q'
          · repeat (walk_at "st")
            refine ⟨_, _, rfl, h2.same s1, fun G2 s2 => ?_⟩
            repeat (walk_at "st")
            refine i_ite (fun c2 => ?_) (fun c2 => ?_)
            · obtain ⟨k, rfl, rfl, k0⟩ := verD_int h2 c2
              repeat (walk_at "st")
              have q' := q _ (s1.trans s2)
              rw [winB_two, e', c2] at q'
              exact q'
            · have q' := q _ (s1.trans s2)
              rw [winB_two, e', ← da_non h2, c, c2] at q'
              exact q'
      · refine i_tt (by rw [len]; simp; omega) ?_
        repeat (walk_at "st")
        have q' := q _ (Same.refl H)
        rw [winB_len hl] at q'
        exact q'
    | _ =>
      refine i_tt (by rfl) ?_
      repeat (walk_at "st")
      exact q _ (Same.refl _)
theorem ok_require_window (T : Txt K mg A) (G_is_window : FnOk P w K mg base CX0 3 A.f_is_window A.d_is_window ["value"] (sp_dat K winB)) (G_InvalidWindowx_initx : FnOk P w K mg base CX0 1 A.f_InvalidWindowx_initx A.d_InvalidWindowx_initx ["self", "value"] (spI A.c_InvalidWindow ["value"])) :
    FnOk P w K mg base (L2.CX P w) 4 A.f_require_window A.d_require_window ["value"] (sp_req K winB A.c_InvalidWindow "value") := by
  refine T.F_require_window.okX sc_require_window (fun vs H Q E h => ?_) (fun cdv Ar outer s H vs Q E hr h => ?_)
  · obtain ⟨_, _, rfl, _⟩ := h; rfl
  · obtain ⟨v, d, rfl, hd, qy, qn⟩ := h
    refine ⟨_, (pss_one (ps_if (pt_not (pt_val (L2.pe_call G_is_window (hr.mono (by decide)) (by rfl) T.g_is_window T.F_is_window.kp T.b_is_window .nil pass0 (pa_cons (pv 0) pa_nil))))
(pss_one (ps_raiseN rfl (takes_of rfl rfl rfl rfl) (pmk_B T.EX_InvalidWindow.o T.iC_InvalidWindow T.tI_InvalidWindow G_InvalidWindowx_initx (hr.mono (by decide)) T.b_InvalidWindowx_initx pass0 (by rfl) T.gX_InvalidWindow (pa_cons (pv 0) pa_nil))))
pss_nil)), ?_⟩
    repeat (walk_at "st")
    refine ⟨_, _, rfl, hd, fun G1 s1 => ?_⟩
    repeat (walk_at "st")
    refine i_ite (fun e => ?_) (fun e => ?_)
    · have e' : winB d = false := by simpa using e
      repeat (walk_at "st")
      refine i_mkR rfl (by decide) fun c H2 hc s2 ec => ?_
      exact qn e' c H2 (none_of s1 hc) (s1.trans s2) ec
    · have e' : winB d = true := by simpa using e
      repeat (walk_at "st")
      exact qy e' _ s1

theorem ok_require_version (T : Txt K mg A) (G_is_version : FnOk P w K mg base CX0 2 A.f_is_version A.d_is_version ["value"] (sp_dat K verD)) (G_InvalidVersionx_initx : FnOk P w K mg base CX0 1 A.f_InvalidVersionx_initx A.d_InvalidVersionx_initx ["self", "value"] (spI A.c_InvalidVersion ["value"])) :
    FnOk P w K mg base (L2.CX P w) 3 A.f_require_version A.d_require_version ["value"] (sp_req K verD A.c_InvalidVersion "value") := by
  refine T.F_require_version.okX sc_require_version (fun vs H Q E h => ?_) (fun cdv Ar outer s H vs Q E hr h => ?_)
  · obtain ⟨_, _, rfl, _⟩ := h; rfl
  · obtain ⟨v, d, rfl, hd, qy, qn⟩ := h
    refine ⟨_, (pss_one (ps_if (pt_not (pt_val (L2.pe_call G_is_version (hr.mono (by decide)) (by rfl) T.g_is_version T.F_is_version.kp T.b_is_version .nil pass0 (pa_cons (pv 0) pa_nil))))
(pss_one (ps_raiseN rfl (takes_of rfl rfl rfl rfl) (pmk_B T.EX_InvalidVersion.o T.iC_InvalidVersion T.tI_InvalidVersion G_InvalidVersionx_initx (hr.mono (by decide)) T.b_InvalidVersionx_initx pass0 (by rfl) T.gX_InvalidVersion (pa_cons (pv 0) pa_nil))))
pss_nil)), ?_⟩
    repeat (walk_at "st")
    refine ⟨_, _, rfl, hd, fun G1 s1 => ?_⟩
    repeat (walk_at "st")
    refine i_ite (fun e => ?_) (fun e => ?_)
    · have e' : verD d = false := by simpa using e
      repeat (walk_at "st")
      refine i_mkR rfl (by decide) fun c H2 hc s2 ec => ?_
      exact qn e' c H2 (none_of s1 hc) (s1.trans s2) ec
    · have e' : verD d = true := by simpa using e
      repeat (walk_at "st")
      exact qy e' _ s1
def sp_rws (K : PySem.W.Frag) (C : Addr) : Sp := fun vs H Q E => ∃ v d, vs = [v] ∧ Da K H v d ∧ (badV d = none → ∀ H', Same H H' → Q .non H') ∧
  (∀ o, badV d = some o → ∀ c H', H c = none → Same H H' → H' c = some (.xd [("position", o)]) → E (.ref C) (some c) H')
theorem ok_require_windows (T : Txt K mg A) (G_is_window : FnOk P w K mg base CX0 3 A.f_is_window A.d_is_window ["value"] (sp_dat K winB)) (G_InvalidWindowsx_initx : FnOk P w K mg base CX0 1 A.f_InvalidWindowsx_initx A.d_InvalidWindowsx_initx ["self", "position"] (spI A.c_InvalidWindows ["position"])) :
    FnOk P w K mg base (L2.CX P w) 4 A.f_require_windows A.d_require_windows ["value"] (sp_rws K A.c_InvalidWindows) := by
  refine T.F_require_windows.okX sc_require_windows (fun vs H Q E h => ?_) (fun cdv Ar outer s H vs Q E hr h => ?_)
  · obtain ⟨_, _, rfl, _⟩ := h; rfl
  · obtain ⟨v, d, rfl, hd, qy, qn⟩ := h
    refine ⟨_, (pss_cons (ps_if (pt_not (pt_val (pe_callB call_isiD (by rfl) T.m_isinstance (by decide +kernel) (pa_cons (pv 0) (pa_cons (pe_bltn (v := .ty "list") rfl T.m_list (by decide +kernel) rfl) pa_nil)))))
(pss_one (ps_raiseN rfl (takes_of rfl rfl rfl rfl) (pmk_B T.EX_InvalidWindows.o T.iC_InvalidWindows T.tI_InvalidWindows G_InvalidWindowsx_initx (hr.mono (by decide)) T.b_InvalidWindowsx_initx pass0 (by rfl) T.gX_InvalidWindows (pa_cons pe_non pa_nil))))
pss_nil)
(pss_one (ps_for (passes_of rfl) rfl (pi_enum (by rfl) T.m_enumerate (pa_cons (pv 0) pa_nil)) (pg_tup rfl (pgs_cons (pg_name (i := 1) sc_require_windows.nd rfl (.inl rfl)) (pgs_cons (pg_name (i := 2) sc_require_windows.nd rfl (.inl rfl)) pgs_nil)))
(pss_one (ps_if (pt_not (pt_val (L2.pe_call G_is_window (hr.mono (by decide)) (by rfl) T.g_is_window T.F_is_window.kp T.b_is_window .nil pass0 (pa_cons (pv 2) pa_nil))))
(pss_one (ps_raiseN rfl (takes_of rfl rfl rfl rfl) (pmk_B T.EX_InvalidWindows.o T.iC_InvalidWindows T.tI_InvalidWindows G_InvalidWindowsx_initx (hr.mono (by decide)) T.b_InvalidWindowsx_initx pass0 (by rfl) T.gX_InvalidWindows (pa_cons (pv 1) pa_nil))))
pss_nil))))), ?_⟩
    repeat (walk_at "st")
    refine i_ite (fun e => ?_) (fun e => ?_)
    · have e' : isi d "list" = false := by simpa using e
      repeat (walk_at "st")
      refine i_mkR rfl (by decide) fun c H2 hc s2 ec => ?_
      exact qn .non (badV_not e') c H2 hc s2 ec
    · have e' : isi d "list" = true := by simpa using e
      obtain ⟨a, xs, ds, rfl, rfl, hq, ha⟩ := da_list hd e'
      repeat (walk_at "st")
      refine f_wq wq_enum (fun i σ H' => Same H H' ∧ (∀ j, j < i → ∀ d, ds[j]? = some d → winB d = true) ∧ ∃ y1 y2, σ = [some (.ref a), y1, y2]) ⟨Same.refl _, fun j hj => absurd hj (Nat.not_lt_zero _), _, _, rfl⟩ (fun i σ H' h => Same.seq h.1 hq) (fun i x σ H0 H1 hi h sa hr => ?_) (fun σ H' h => ?_)
      · obtain ⟨s1, hj, y1, y2, rfl⟩ := h
        obtain ⟨p, x1, x2, rfl, eT, e1, e2⟩ := hr
        cases e1
        obtain ⟨d2, hd2, k2⟩ := da_get ha e2
        have s1' := s1.trans sa
        repeat (walk_at "st")
        refine ⟨_, _, rfl, k2.same s1', fun G1 s2 => ?_⟩
        repeat (walk_at "st")
        refine i_ite (fun e => ?_) (fun e => ?_)
        · have e' : winB d2 = false := by simpa using e
          repeat (walk_at "st")
          refine i_mkR rfl (by decide) fun c H2 hc s3 ec => ?_
          exact qn (.int i) (badV_at hj hd2 e') c H2 (none_of (s1'.trans s2) hc) ((s1'.trans s2).trans s3) ec
        · have e' : winB d2 = true := by simpa using e
          repeat (walk_at "st")
          refine ⟨s1'.trans s2, fun j hj2 d hd => ?_, _, _, rfl⟩
          rcases Nat.lt_succ_iff_lt_or_eq.mp hj2 with z | z
          · exact hj j z d hd
          · rw [z, hd2] at hd; cases hd; exact e'
      · obtain ⟨s1, hj, y1, y2, rfl⟩ := h
        repeat (walk_at "st")
        refine qy (badV_none fun d hd => ?_) _ s1
        obtain ⟨j, hj2, rfl⟩ := List.getElem_of_mem hd
        exact hj j (by rw [ha.len]; exact hj2) _ (by simp)
def sp_reach (K : PySem.W.Frag) : Sp := fun vs H Q _ => ∃ v w n, vs = [v, .int n] ∧ Da K H v (winD w) ∧ ∀ H', Same H H' → Q (.bl (reachW w n)) H'
theorem ok_reaches (T : Txt K mg A) : FnOk P w K mg base CX0 1 A.f_reaches A.d_reaches ["window", "version"] (sp_reach K) := by
  refine T.F_reaches.ok sc_reaches (fun vs H Q E h => ?_) (fun cdv Ar outer s H vs Q E hr h => ?_)
  · obtain ⟨_, _, _, rfl, _⟩ := h; rfl
  · obtain ⟨v, w, n, rfl, hd, q⟩ := h
    refine ⟨_, (pss_one (ps_ret (pe_or (pe_cmpR op_isNN (pe_ix ix_tup (pv 0) pe_int (fun _ _ => rfl)) pe_non (nomark _)) (pe_one (pe_cmpR op_ge (pe_ix ix_tup (pv 0) pe_int (fun _ _ => rfl)) (pv 1) (nomark _)))))), ?_⟩
    obtain ⟨a, rfl, hT⟩ := da_win hd
    obtain ⟨l, o⟩ := w
    have q' := q _ (Same.refl H)
    cases o with
    | none =>
      have hT : SqT K H a [.int l, .non] := hT
      repeat (walk_at "st")
      refine i_tt (by rfl) ?_
      exact q'
    | some k =>
      have hT : SqT K H a [.int l, .int k] := hT
      repeat (walk_at "st")
      refine i_ff (by rfl) ?_
      repeat (walk_at "st")
      exact q'
def sp_cont (K : PySem.W.Frag) (C D : Addr) : Sp := fun vs H Q E => ∃ v1 d1 v2 d2, vs = [v1, v2] ∧ Da K H v1 d1 ∧ Da K H v2 d2 ∧
  (∀ w n, winP d1 = some w → d2 = .int n → 0 ≤ n → ∀ H', Same H H' → Q (.bl (contW w n)) H') ∧
  (winB d1 = false → ∀ c H', H c = none → Same H H' → H' c = some (.xd [("value", v1)]) → E (.ref C) (some c) H') ∧
  (winB d1 = true → verD d2 = false → ∀ c H', H c = none → Same H H' → H' c = some (.xd [("value", v2)]) → E (.ref D) (some c) H')
theorem ok_contains (T : Txt K mg A) (G_require_window : FnOk P w K mg base (L2.CX P w) 4 A.f_require_window A.d_require_window ["value"] (sp_req K winB A.c_InvalidWindow "value")) (G_require_version : FnOk P w K mg base (L2.CX P w) 3 A.f_require_version A.d_require_version ["value"] (sp_req K verD A.c_InvalidVersion "value")) (G_reaches : FnOk P w K mg base CX0 1 A.f_reaches A.d_reaches ["window", "version"] (sp_reach K)) :
    FnOk P w K mg base (L2.CX P w) 5 A.f_contains A.d_contains ["window", "version"] (sp_cont K A.c_InvalidWindow A.c_InvalidVersion) := by
  refine T.F_contains.okX sc_contains (fun vs H Q E h => ?_) (fun cdv Ar outer s H vs Q E hr h => ?_)
  · obtain ⟨_, _, _, _, rfl, _⟩ := h; rfl
  · obtain ⟨v1, d1, v2, d2, rfl, h1, h2, q, q1, q2⟩ := h
    refine ⟨_, (pss_cons (ps_expr (L2.pe_call G_require_window (hr.mono (by decide)) (by rfl) T.g_require_window T.F_require_window.kp T.b_require_window .nil (passes_call (takes_of rfl rfl rfl rfl) fun _ _ _ _ h => h) (pa_cons (pv 0) pa_nil)))
(pss_cons (ps_expr (L2.pe_call G_require_version (hr.mono (by decide)) (by rfl) T.g_require_version T.F_require_version.kp T.b_require_version .nil (passes_call (takes_of rfl rfl rfl rfl) fun _ _ _ _ h => h) (pa_cons (pv 1) pa_nil)))
(pss_one (ps_ret (pe_and (pe_cmpR op_le (pe_ix ix_tup (pv 0) pe_int (fun _ _ => rfl)) (pv 1) (nomark _)) (pe_one (L2.pe_call G_reaches (hr.mono (by decide)) (by rfl) T.g_reaches T.F_reaches.kp T.b_reaches .nil pass0 (pa_cons (pv 0) (pa_cons (pv 1) pa_nil))))))))), ?_⟩
    repeat (walk_at "st")
    refine ⟨_, _, rfl, h1, fun e1 G1 s1 => ?_, fun e c G1 hc s1 ec => q1 e c G1 hc s1 ec⟩
    repeat (walk_at "st")
    refine ⟨_, _, rfl, h2.same s1, fun e2 G2 s2 => ?_, fun e c G2 hc s2 ec => q2 e1 e c G2 (none_of s1 hc) (s1.trans s2) ec⟩
    obtain ⟨w, hw⟩ := Option.isSome_iff_exists.mp (show (winP d1).isSome = true from e1)
    obtain ⟨rfl, ok⟩ := winP_some hw
    obtain ⟨n, rfl, rfl, n0⟩ := verD_int h2 e2
    have hw2 := h1.same (s1.trans s2)
    obtain ⟨a, rfl, hT⟩ := da_win hw2
    obtain ⟨l, o⟩ := w
    have q' := q _ _ hw rfl n0
    unfold contW at q'
    repeat (walk_at "st")
    refine i_ite (fun e => ?_) (fun e => ?_)
    · repeat (walk_at "st")
      refine ⟨_, _, _, rfl, hw2, fun G3 s3 => ?_⟩
      have q' := q' _ (s1.trans (s2.trans s3))
      rw [e] at q'
      exact q'
    · have q' := q' _ (s1.trans s2)
      rw [e] at q'
      exact q'
def sp_rises (K : PySem.W.Frag) (C : Addr) : Sp := fun vs H Q E => ∃ v1 d1 v2 d2, vs = [v1, v2] ∧ Da K H v1 d1 ∧ Da K H v2 d2 ∧
  (∀ w u, winP d1 = some w → winP d2 = some u → ∀ H', Same H H' → Q (.bl (risesW w u)) H') ∧
  (winB d1 = false → ∀ c H', H c = none → Same H H' → H' c = some (.xd [("value", v1)]) → E (.ref C) (some c) H') ∧
  (winB d1 = true → winB d2 = false → ∀ c H', H c = none → Same H H' → H' c = some (.xd [("value", v2)]) → E (.ref C) (some c) H')
theorem ok_rises (T : Txt K mg A) (G_require_window : FnOk P w K mg base (L2.CX P w) 4 A.f_require_window A.d_require_window ["value"] (sp_req K winB A.c_InvalidWindow "value")) (G_reaches : FnOk P w K mg base CX0 1 A.f_reaches A.d_reaches ["window", "version"] (sp_reach K)) : FnOk P w K mg base (L2.CX P w) 5 A.f_rises A.d_rises ["first", "second"] (sp_rises K A.c_InvalidWindow) := by
  refine T.F_rises.okX sc_rises (fun vs H Q E h => ?_) (fun cdv Ar outer s H vs Q E hr h => ?_)
  · obtain ⟨_, _, _, _, rfl, _⟩ := h; rfl
  · obtain ⟨v1, d1, v2, d2, rfl, h1, h2, q, q1, q2⟩ := h
    refine ⟨_, (pss_cons (ps_expr (L2.pe_call G_require_window (hr.mono (by decide)) (by rfl) T.g_require_window T.F_require_window.kp T.b_require_window .nil (passes_call (takes_of rfl rfl rfl rfl) fun _ _ _ _ h => h) (pa_cons (pv 0) pa_nil)))
(pss_cons (ps_expr (L2.pe_call G_require_window (hr.mono (by decide)) (by rfl) T.g_require_window T.F_require_window.kp T.b_require_window .nil (passes_call (takes_of rfl rfl rfl rfl) fun _ _ _ _ h => h) (pa_cons (pv 1) pa_nil)))
(pss_cons (ps_if (pt_cmpR op_lt (pe_ix ix_tup (pv 1) pe_int (fun _ _ => rfl)) (pe_ix ix_tup (pv 0) pe_int (fun _ _ => rfl)) (nomark _))
(pss_one (ps_ret pe_bl))
pss_nil)
(pss_one (ps_ret (pe_ifExp (pt_cmpR op_isNN (pe_ix ix_tup (pv 0) pe_int (fun _ _ => rfl)) pe_non (nomark _)) (pe_cmpR op_isNN (pe_ix ix_tup (pv 1) pe_int (fun _ _ => rfl)) pe_non (nomark _)) (L2.pe_call G_reaches (hr.mono (by decide)) (by rfl) T.g_reaches T.F_reaches.kp T.b_reaches .nil pass0 (pa_cons (pv 1) (pa_cons (pe_ix ix_tup (pv 0) pe_int (fun _ _ => rfl)) pa_nil))))))))), ?_⟩
    repeat (walk_at "st")
    refine ⟨_, _, rfl, h1, fun e1 G1 s1 => ?_, fun e c G1 hc s1 ec => q1 e c G1 hc s1 ec⟩
    repeat (walk_at "st")
    refine ⟨_, _, rfl, h2.same s1, fun e2 G2 s2 => ?_, fun e c G2 hc s2 ec => q2 e1 e c G2 (none_of s1 hc) (s1.trans s2) ec⟩
    obtain ⟨w, hw⟩ := Option.isSome_iff_exists.mp (show (winP d1).isSome = true from e1)
    obtain ⟨u, hu⟩ := Option.isSome_iff_exists.mp (show (winP d2).isSome = true from e2)
    obtain ⟨rfl, ok1⟩ := winP_some hw
    obtain ⟨rfl, ok2⟩ := winP_some hu
    have hw1 := h1.same (s1.trans s2)
    have hw2 := h2.same (s1.trans s2)
    obtain ⟨a, rfl, hT1⟩ := da_win hw1
    obtain ⟨b, rfl, hT2⟩ := da_win hw2
    obtain ⟨l1, o1⟩ := w
    obtain ⟨l2, o2⟩ := u
    have q' := q _ _ hw hu
    unfold risesW at q'
    have hT1 : SqT K G2 a [.int l1, hiV o1] := hT1
    have hT2 : SqT K G2 b [.int l2, hiV o2] := hT2
    repeat (walk_at "st")
    refine i_ite (fun e => ?_) (fun e => ?_)
    · repeat (walk_at "st")
      have q' := q' _ (s1.trans s2)
      rw [e] at q'
      exact q'
    · repeat (walk_at "st")
      rw [e] at q'
      cases o1 with
      | none =>
        refine i_tt (by rfl) ?_
        repeat (walk_at "st")
        have q' := q' _ (s1.trans s2)
        cases o2 <;> exact q'
      | some k =>
        refine i_ff (by rfl) ?_
        repeat (walk_at "st")
        refine ⟨_, _, _, rfl, hw2, fun G3 s3 => ?_⟩
        repeat (walk_at "st")
        exact q' _ (s1.trans (s2.trans s3))
def sp_ff (K : PySem.W.Frag) (C : Addr) : Sp := fun vs H Q E => ∃ v d, vs = [v] ∧ Da K H v d ∧ (∀ ws : List (Int × Option Int), d = .list (ws.map winD) → (∀ w ∈ ws, okW w) → ∀ H', Same H H' → Q (posV (fallI ws)) H') ∧
  (∀ o, badV d = some o → ∀ c H', H c = none → Same H H' → H' c = some (.xd [("position", o)]) → E (.ref C) (some c) H')
theorem ok_first_falling (T : Txt K mg A) (G_require_windows : FnOk P w K mg base (L2.CX P w) 4 A.f_require_windows A.d_require_windows ["value"] (sp_rws K A.c_InvalidWindows)) (G_rises : FnOk P w K mg base (L2.CX P w) 5 A.f_rises A.d_rises ["first", "second"] (sp_rises K A.c_InvalidWindow)) : FnOk P w K mg base (L2.CX P w) 6 A.f_first_falling A.d_first_falling ["windows"] (sp_ff K A.c_InvalidWindows) := by
  refine T.F_first_falling.okX sc_first_falling (fun vs H Q E h => ?_) (fun cdv Ar outer s H vs Q E hr h => ?_)
  · obtain ⟨_, _, rfl, _⟩ := h; rfl
  · obtain ⟨v, d, rfl, hd, q, qn⟩ := h
    refine ⟨_, (pss_cons (ps_expr (L2.pe_call G_require_windows (hr.mono (by decide)) (by rfl) T.g_require_windows T.F_require_windows.kp T.b_require_windows .nil (passes_call (takes_of rfl rfl rfl rfl) fun _ _ _ _ h => h) (pa_cons (pv 0) pa_nil)))
(pss_cons (ps_for (passes_of rfl) rfl (pi_enumzip (by rfl) T.m_enumerate (by rfl) T.m_zip (pa_cons (pv 0) (pa_cons (pe_slice sl_list (pv 0) (po_some pe_int) po_none) pa_nil))) (pg_tup rfl (pgs_cons (pg_name (i := 1) sc_first_falling.nd rfl (.inl rfl)) (pgs_cons (pg_tup rfl (pgs_cons (pg_name (i := 2) sc_first_falling.nd rfl (.inl rfl)) (pgs_cons (pg_name (i := 3) sc_first_falling.nd rfl (.inl rfl)) pgs_nil))) pgs_nil)))
(pss_one (ps_if (pt_not (pt_val (L2.pe_call G_rises (hr.mono (by decide)) (by rfl) T.g_rises T.F_rises.kp T.b_rises .nil (passes_call (takes_of rfl rfl rfl rfl) fun _ _ _ _ h => h) (pa_cons (pv 2) (pa_cons (pv 3) pa_nil)))))
(pss_one (ps_ret (pv 1)))
pss_nil)))
(pss_one (ps_ret pe_non)))), ?_⟩
    repeat (walk_at "st")
    refine ⟨_, _, rfl, hd, fun e1 G1 s1 => ?_, fun o ho c G1 hc s1 ec => qn o ho c G1 hc s1 ec⟩
    obtain ⟨ws, rfl, okw⟩ := badV_list e1
    obtain ⟨a, xs, ds, rfl, e2, hq, ha⟩ := da_list (hd.same s1) rfl
    cases e2
    have ll : xs.length = ws.length := by rw [ha.len]; simp
    repeat (walk_at "st")
    refine i_new fun p2 G2 n2 s2 e2 => ?_
    rw [cutV_from (by decide)] at e2
    repeat (walk_at "st")
    refine f_wq (wq_ez (K := K) (xs := xs) (ys := xs.drop (Int.toNat 1)) rfl) (fun i σ H' => Same G2 H' ∧ (∀ j, j < i → ∀ a b, ws[j]? = some a → ws[j + 1]? = some b → risesW a b = true) ∧ ∃ y1 y2 y3, σ = [some (.ref a), y1, y2, y3]) ⟨Same.refl _, fun j hj => absurd hj (Nat.not_lt_zero _), _, _, _, rfl⟩
      (fun i σ H' h => ⟨Same.seq (s2.trans h.1) hq, SqL.of (h.1 _ _ e2)⟩) (fun i x σ H0 H1 hi h sa hr => ?_) (fun σ H' h => ?_)
    · obtain ⟨s3, hj, y1, y2, y3, rfl⟩ := h
      obtain ⟨p, U, x1, x2, rfl, eT, eU, h1, h2⟩ := hr
      replace h2 : (xs.drop (Int.toNat 1))[i]? = some x2 := h2
      rw [List.getElem?_drop] at h2
      obtain ⟨d1, hd1, k1⟩ := da_get ha h1
      obtain ⟨d2, hd2, k2⟩ := da_get ha h2
      obtain ⟨w1, hw1, rfl⟩ := wins_get hd1
      obtain ⟨w2, hw2, rfl⟩ := wins_get hd2
      have i1 : Int.toNat 1 + i = i + 1 := by omega
      rw [i1] at hw2
      have ok1 := okw _ (List.mem_of_getElem? hw1)
      have ok2 := okw _ (List.mem_of_getElem? hw2)
      have s4 := s2.trans (s3.trans sa)
      repeat (walk_at "st")
      refine ⟨_, _, _, _, rfl, k1.same s4, k2.same s4, fun w u hw hu G5 s5 => ?_, fun z => ?_, fun _ z => ?_⟩
      · rw [winP_D ok1] at hw
        rw [winP_D ok2] at hu
        cases hw
        cases hu
        repeat (walk_at "st")
        refine i_ite (fun e => ?_) (fun e => ?_)
        · have e' : risesW w1 w2 = false := by simpa using e
          repeat (walk_at "st")
          have q' := q ws rfl okw _ (s1.trans (s4.trans s5))
          rw [fallI_some hj hw1 hw2 e'] at q'
          have q2 : (1 : Int) + (i : Nat) = ((1 + i : Nat) : Int) := by omega
          rw [q2]
          exact q'
        · have e' : risesW w1 w2 = true := by simpa using e
          repeat (walk_at "st")
          refine ⟨s3.trans (sa.trans s5), fun j hj2 a b ha hb => ?_, _, _, _, rfl⟩
          rcases Nat.lt_succ_iff_lt_or_eq.mp hj2 with z | z
          · exact hj j z a b ha hb
          · subst z
            rw [hw1] at ha
            rw [hw2] at hb
            cases ha
            cases hb
            exact e'
      · unfold winB at z; rw [winP_D ok1] at z; cases z
      · unfold winB at z; rw [winP_D ok2] at z; cases z
    · obtain ⟨s3, hj, y1, y2, y3, rfl⟩ := h
      repeat (walk_at "st")
      have q' := q ws rfl okw _ (s1.trans (s2.trans s3))
      rw [fallI_none fun j a b ha hb => ?_] at q'
      · exact q'
      · refine hj j ?_ a b ha hb
        have := (List.getElem?_eq_some_iff.mp hb).1
        rw [List.length_drop]
        omega
def sp_least (K : PySem.W.Frag) (C D : Addr) : Sp := fun vs H Q E => ∃ v1 d1 v2 d2, vs = [v1, v2] ∧ Da K H v1 d1 ∧ Da K H v2 d2 ∧
  (∀ (ws : List (Int × Option Int)) n, d1 = .list (ws.map winD) → (∀ w ∈ ws, okW w) → fallI ws = none → d2 = .int n → 0 ≤ n → ∀ H', Same H H' → Q (posV (leastI n ws)) H') ∧
  (∀ o, badV d1 = some o → ∀ c H', H c = none → Same H H' → H' c = some (.xd [("position", o)]) → E (.ref C) (some c) H') ∧
  (∀ (ws : List (Int × Option Int)) i, d1 = .list (ws.map winD) → (∀ w ∈ ws, okW w) → fallI ws = some i → ∀ c H', H c = none → Same H H' → H' c = some (.xd [("position", .int (i : Nat))]) → E (.ref C) (some c) H') ∧
  (∀ ws : List (Int × Option Int), d1 = .list (ws.map winD) → (∀ w ∈ ws, okW w) → fallI ws = none → verD d2 = false → ∀ c H', H c = none → Same H H' → H' c = some (.xd [("value", v2)]) → E (.ref D) (some c) H')
theorem ok_least_reaching (T : Txt K mg A) (G_first_falling : FnOk P w K mg base (L2.CX P w) 6 A.f_first_falling A.d_first_falling ["windows"] (sp_ff K A.c_InvalidWindows)) (G_require_version : FnOk P w K mg base (L2.CX P w) 3 A.f_require_version A.d_require_version ["value"] (sp_req K verD A.c_InvalidVersion "value")) (G_reaches : FnOk P w K mg base CX0 1 A.f_reaches A.d_reaches ["window", "version"] (sp_reach K)) (G_InvalidWindowsx_initx : FnOk P w K mg base CX0 1 A.f_InvalidWindowsx_initx A.d_InvalidWindowsx_initx ["self", "position"] (spI A.c_InvalidWindows ["position"])) :
    FnOk P w K mg base (L2.CX P w) 7 A.f_least_reaching A.d_least_reaching ["windows", "version"] (sp_least K A.c_InvalidWindows A.c_InvalidVersion) := by
  refine T.F_least_reaching.okX sc_least_reaching (fun vs H Q E h => ?_) (fun cdv Ar outer s H vs Q E hr h => ?_)
  · obtain ⟨_, _, _, _, rfl, _⟩ := h; rfl
  · obtain ⟨v1, d1, v2, d2, rfl, h1, h2, q, q1, q2, q3⟩ := h
    refine ⟨_, (pss_cons (ps_set (i := 2) sc_least_reaching.nd rfl (.inl rfl) (L2.pe_call G_first_falling (hr.mono (by decide)) (by rfl) T.g_first_falling T.F_first_falling.kp T.b_first_falling .nil (passes_call (takes_of rfl rfl rfl rfl) fun _ _ _ _ h => h) (pa_cons (pv 0) pa_nil)))
(pss_cons (ps_if (pt_cmpR op_notNN (pv 2) pe_non (nomark _))
(pss_one (ps_raiseN rfl (takes_of rfl rfl rfl rfl) (pmk_B T.EX_InvalidWindows.o T.iC_InvalidWindows T.tI_InvalidWindows G_InvalidWindowsx_initx (hr.mono (by decide)) T.b_InvalidWindowsx_initx pass0 (by rfl) T.gX_InvalidWindows (pa_cons (pv 2) pa_nil))))
pss_nil)
(pss_cons (ps_expr (L2.pe_call G_require_version (hr.mono (by decide)) (by rfl) T.g_require_version T.F_require_version.kp T.b_require_version .nil (passes_call (takes_of rfl rfl rfl rfl) fun _ _ _ _ h => h) (pa_cons (pv 1) pa_nil)))
(pss_cons (ps_for (passes_of rfl) rfl (pi_enum (by rfl) T.m_enumerate (pa_cons (pv 0) pa_nil)) (pg_tup rfl (pgs_cons (pg_name (i := 3) sc_least_reaching.nd rfl (.inl rfl)) (pgs_cons (pg_name (i := 4) sc_least_reaching.nd rfl (.inl rfl)) pgs_nil)))
(pss_one (ps_if (pt_val (L2.pe_call G_reaches (hr.mono (by decide)) (by rfl) T.g_reaches T.F_reaches.kp T.b_reaches .nil pass0 (pa_cons (pv 4) (pa_cons (pv 1) pa_nil))))
(pss_one (ps_ret (pv 3)))
pss_nil)))
(pss_one (ps_ret pe_non)))))), ?_⟩
    repeat (walk_at "st")
    refine ⟨_, _, rfl, h1, fun ws e okw G1 s1 => ?_, fun o ho c G1 hc s1 ec => q1 o ho c G1 hc s1 ec⟩
    subst e
    cases hf : fallI ws with
    | some i =>
      repeat (walk_at "st")
      refine i_tt (by rfl) ?_
      repeat (walk_at "st")
      refine i_mkR rfl (by decide) fun c H2 hc s2 ec => ?_
      exact q2 ws i rfl okw hf c H2 (none_of s1 hc) (s1.trans s2) ec
    | none =>
      repeat (walk_at "st")
      refine i_ff (by rfl) ?_
      repeat (walk_at "st")
      refine ⟨_, _, rfl, h2.same s1, fun e2 G2 s2 => ?_, fun e c G2 hc s2 ec => q3 ws rfl okw hf e c G2 (none_of s1 hc) (s1.trans s2) ec⟩
      obtain ⟨n, rfl, rfl, n0⟩ := verD_int h2 e2
      obtain ⟨a, xs, ds, rfl, e3, hq, ha⟩ := da_list (h1.same (s1.trans s2)) rfl
      cases e3
      have ll : xs.length = ws.length := by rw [ha.len]; simp
      repeat (walk_at "st")
      refine f_wq wq_enum (fun i σ H' => Same G2 H' ∧ (∀ j, j < i → ∀ w, ws[j]? = some w → reachW w n = false) ∧ ∃ y1 y2 y3, σ = [some (.ref a), some (.int n), y1, y2, y3]) ⟨Same.refl _, fun j hj => absurd hj (Nat.not_lt_zero _), _, _, _, rfl⟩ (fun i σ H' h => Same.seq h.1 hq) (fun i x σ H0 H1 hi h sa hr => ?_) (fun σ H' h => ?_)
      · obtain ⟨s3, hj, y1, y2, y3, rfl⟩ := h
        obtain ⟨p, x1, x2, rfl, eT, e1, e2⟩ := hr
        cases e1
        obtain ⟨d2, hd2, k2⟩ := da_get ha e2
        obtain ⟨w, hw, rfl⟩ := wins_get hd2
        have s4 := s3.trans sa
        repeat (walk_at "st")
        refine ⟨_, _, _, rfl, k2.same s4, fun G5 s5 => ?_⟩
        repeat (walk_at "st")
        refine i_ite (fun e => ?_) (fun e => ?_)
        · repeat (walk_at "st")
          have q' := q ws n rfl okw hf rfl n0 _ (s1.trans (s2.trans (s4.trans s5)))
          rw [leastI_some hj hw e] at q'
          exact q'
        · repeat (walk_at "st")
          refine ⟨s4.trans s5, fun j hj2 u hu => ?_, _, _, _, rfl⟩
          rcases Nat.lt_succ_iff_lt_or_eq.mp hj2 with z | z
          · exact hj j z u hu
          · subst z
            rw [hw] at hu
            cases hu
            exact e
      · obtain ⟨s3, hj, y1, y2, y3, rfl⟩ := h
        repeat (walk_at "st")
        have q' := q ws n rfl okw hf rfl n0 _ (s1.trans (s2.trans s3))
        rw [leastI_none fun j w hw => hj j (by rw [ll]; exact (List.getElem?_eq_some_iff.mp hw).1) w hw] at q'
        exact q'

end
end KX

namespace KX
open PySem PySem.Spec PyProof.Rows L2

local macro_rules | `(tactic| walk_at "kp") => `(tactic| first
  | with_reducible exact Kp.refl
  | with_reducible exact Kp.thenS (by assumption) (by walk_at "kp")
  | with_reducible exact Kp.thenO (by assumption) (by walk_at "ne") (by walk_at "kp")
  | fail)
local macro_rules | `(tactic| walk_at "hq") => `(tactic| first
  | assumption
  | with_reducible exact Kp.get (by assumption) (by walk_at "kp")
  | fail)
local macro_rules | `(tactic| walk_at "hg") => `(tactic| first
  | walk_at "hq"
  | exact upd_same
  | with_reducible exact (upd_ne (by walk_at "ne")).trans (by walk_at "hg")
  | with_reducible exact Same.get (by assumption) (by walk_at "hg")
  | with_reducible exact Off.get (by assumption) (by walk_at "ne") (by walk_at "hg")
  | fail)
local macro_rules | `(tactic| walk_at "ne") => `(tactic| first
  | assumption
  | (apply Ne.symm; assumption)
  | exact Rok.ne' (by assumption) (by walk_at "rok")
  | exact (Rok.ne' (by assumption) (by walk_at "rok")).symm
  | exact ne_some (by assumption) (by walk_at "hg")
  | exact (ne_some (by assumption) (by walk_at "hg")).symm
  | fail)
local macro_rules | `(tactic| walk_at "rok") => `(tactic| first
  | assumption
  | with_reducible exact Rok.kp (by assumption) (by walk_at "kp")
  | with_reducible exact Rok.same (by assumption) (by walk_at "rok")
  | fail)
local macro_rules | `(tactic| walk_at "sq") => `(tactic| first
  | assumption
  | exact Same.seq (by assumption) (by assumption)
  | (with_reducible show SqL _ _ _ _; with_reducible exact SqL.of (by walk_at "hg"))
  | (with_reducible show SqT _ _ _ _; with_reducible exact SqT.of (by walk_at "hg"))
  | fail)
local macro_rules | `(tactic| walk_at "dac") => `(tactic| first
  | assumption
  | exact DaF.same (by assumption) (by walk_at "dac")
  | fail)
local macro_rules | `(tactic| walk_at "da") => `(tactic| first
  | exact (DaF.non : DaS _ _ _ _)
  | exact (DaF.bl _ : DaS _ _ _ _)
  | exact (DaF.int _ : DaS _ _ _ _)
  | exact (DaF.str _ : DaS _ _ _ _)
  | exact DaF.non
  | exact DaF.bl _
  | exact DaF.int _
  | exact DaF.str _
  | walk_at "dac"
  | with_reducible exact DaF.lst (SqL.of (by walk_at "hq")) (fun _ => by assumption) (by walk_at "das")
  | with_reducible exact Da.lst (SqL.of (by walk_at "hq")) (by walk_at "das")
  | with_reducible exact DaF.tup (SqT.of (by walk_at "hq")) (by walk_at "das")
  | with_reducible exact DaF.dic (Rd.of (by walk_at "hq")) (by walk_at "dak")
  | fail)
local macro_rules | `(tactic| walk_at "das") => `(tactic| first
  | assumption
  | exact DaAllF.nil
  | exact DaAllF.cons (by walk_at "da") (by walk_at "das")
  | fail)
local macro_rules | `(tactic| walk_at "dak") => `(tactic| first
  | assumption
  | exact DaKvF.nil
  | exact DaKvF.cons (by walk_at "da") (by walk_at "dak")
  | fail)
local macro_rules | `(tactic| walk_at "shw") => `(tactic| first
  | assumption
  | exact shw_b2 _ _
  | exact ⟨by decide +kernel, by decide +kernel, by decide +kernel⟩
  | fail)
local macro_rules | `(tactic| walk_at "nod") => `(tactic| first
  | exact .inl rfl
  | exact .inr rfl
  | assumption
  | exact .inr (by assumption)
  | fail)
local macro_rules | `(tactic| walk_at "okd") => `(tactic| first
  | assumption
  | exact okd_of (by decide +kernel)
  | fail)
local macro_rules | `(tactic| walk_at "off") => `(tactic| first
  | assumption
  | exact Off.refl _ _
  | exact Same.refl _
  | with_reducible exact Same.thenS (by assumption) (by walk_at "off")
  | with_reducible exact Off.thenS (by assumption) (by walk_at "off")
  | with_reducible exact Off.thenO (by assumption) (by walk_at "off")
  | with_reducible exact Same.thenF (by assumption) (by assumption) (by walk_at "off") (by walk_at "off")
  | with_reducible exact Off.thenF (by assumption) (by assumption) (by walk_at "off") (by walk_at "off")
  | fail)
local macro_rules | `(tactic| walk_at "side") => `(tactic| first
  | assumption
  | omega
  | decide
  | (simp only [List.length_append, List.length_cons, List.length_nil]; decide)
  | exact ⟨by omega, by omega⟩
  | exact ⟨by omega, PyProof.noPylong_of_log2 (by first | assumption | decide)⟩
  | exact .inl ⟨by omega, by omega⟩
  | exact .inr ⟨by omega, by omega⟩
  | exact ⟨by decide, by decide, by decide⟩
  | exact ⟨by decide, by decide, by omega⟩
  | fail)
local macro_rules | `(tactic| walk_at "st") => `(tactic| first
  | with_reducible refine i_seq ?_
  | with_reducible refine i_bi ?_
  | with_reducible refine i_raise ?_
  | with_reducible refine i_callX ?_
  | with_reducible refine i_tryN ?_
  | with_reducible refine i_isNon ?_
  | with_reducible refine i_isNotNon ?_
  | ((with_reducible refine' i_split ?h ?z ?_); (case h => rfl); (case z => walk_at "side"))
  | with_reducible refine i_find ?_
  | ((with_reducible refine i_strI ?h ?_); (case h => walk_at "side"))
  | with_reducible refine i_fmt ?_
  | ((with_reducible refine i_fmS ?h ?_); (case h => walk_at "side"))
  | ((with_reducible refine i_fmI ?h ?_); (case h => walk_at "side"))
  | with_reducible refine i_jn ?_
  | with_reducible refine i_js0 ?_
  | with_reducible refine i_js1 ?_
  | ((with_reducible refine i_jsR ?h ?_); (case h => walk_at "side"))
  | with_reducible refine i_revS ?_
  | ((with_reducible refine i_exrev ?h ?_); (case h => walk_at "side"))
  | with_reducible refine i_revL ?_
  | ((with_reducible refine' i_exrevL ?h ?_); (case h => walk_at "sq"))
  | with_reducible refine i_par3 ?_
  | with_reducible refine i_ex3 ?_
  | with_reducible refine i_stB ?_
  | with_reducible refine i_mk0 ?_
  | with_reducible refine i_asg ?_
  | with_reducible refine i_c ?_
  | ((with_reducible refine' i_var ?h ?_); (case h => rfl))
  | with_reducible refine i_op ?_
  | with_reducible refine i_cons ?_
  | with_reducible refine i_nil ?_
  | ((with_reducible refine' i_gName ?h ?_); (case h => rfl))
  | with_reducible refine i_rI0 ?_
  | ((with_reducible refine i_rI ?h ?_); (case h => walk_at "side"))
  | with_reducible refine i_test ?_
  | with_reducible refine i_exbl ?_
  | with_reducible refine i_exint ?_
  | with_reducible refine i_exs ?_
  | with_reducible refine i_ret ?_
  | with_reducible refine i_next ?_
  | with_reducible refine i_ifS ?_
  | ((with_reducible refine' i_rIxL ?h ?e ?_); (case h => walk_at "sq"); (case e => first | assumption | rfl))
  | ((with_reducible refine' i_rIxT ?h ?e ?_); (case h => walk_at "sq"); (case e => first | assumption | rfl))
  | ((with_reducible refine' i_rIxS ?h ?e ?_); (case h => walk_at "side"); (case e => first | assumption | rfl))
  | with_reducible refine i_un ?_
  | with_reducible refine i_rU ?_
  | ((with_reducible refine i_rEqSame ?h ?_); (case h => rfl))
  | ((with_reducible refine i_rNeSame ?h ?_); (case h => rfl))
  | ((with_reducible refine i_rEq ?h ?_); (case h => rfl))
  | ((with_reducible refine i_rNe ?h ?_); (case h => rfl))
  | with_reducible refine i_tB ?_
  | with_reducible refine i_and ?_
  | with_reducible refine i_or ?_
  | with_reducible refine i_not ?_
  | with_reducible refine i_andV ?_
  | with_reducible refine i_orV ?_
  | with_reducible refine i_notV ?_
  | with_reducible refine i_if ?_
  | with_reducible refine i_chain ?_
  | with_reducible refine i_drop ?_
  | with_reducible refine i_retN ?_
  | with_reducible refine i_par ?_
  | with_reducible refine i_ex2 ?_
  | ((with_reducible refine' i_aug ?h ?_); (case h => rfl))
  | with_reducible refine i_gNil ?_
  | with_reducible refine i_gCons ?_
  | ((with_reducible refine' i_gTup ?h ?e ?_); (case h => walk_at "sq"); (case e => rfl))
  | with_reducible refine i_gSub ?_
  | ((with_reducible refine' i_rSetL ?h ?e ?_); (case h => walk_at "hg"); (case e => first | assumption | rfl))
  | with_reducible refine i_tup ?_
  | with_reducible refine i_lst ?_
  | with_reducible refine i_lstN ?_
  | with_reducible refine i_newDK ?_
  | with_reducible refine i_disp ?_
  | with_reducible refine i_pairs0 ?_
  | with_reducible refine i_pairs1 ?_
  | with_reducible refine i_call ?_
  | with_reducible refine i_cb ?_
  | with_reducible refine i_bm ?_
  | with_reducible refine i_m1 ?_
  | with_reducible refine i_m0 ?_
  | ((with_reducible refine' i_rAppend ?h ?e ?_); (case h => walk_at "hg"); (case e => walk_at "side"))
  | ((with_reducible refine i_rSlS ?h ?_); (case h => walk_at "side"))
  | ((with_reducible refine' i_rSlL ?h ?_); (case h => walk_at "sq"))
  | with_reducible refine i_sl ?_
  | with_reducible refine i_noPart ?_
  | with_reducible refine i_part ?_
  | with_reducible refine i_rng1 ?_
  | with_reducible refine i_iList ?_
  | with_reducible refine i_iStr ?_
  | with_reducible refine i_iEnum ?_
  | with_reducible refine i_iZip ?_
  | with_reducible refine i_ez ?_
  | ((with_reducible refine' i_exen ?h ?_); (case h => walk_at "sq"))
  | ((with_reducible refine' i_exz ?h ?k ?_); (case h => walk_at "sq"); (case k => walk_at "sq"))
  | ((with_reducible refine' i_listN ?h ?_); (case h => walk_at "sq"))
  | with_reducible refine i_intB ?_
  | ((with_reducible refine' i_listTN ?h ?_); (case h => walk_at "sq"))
  | with_reducible refine i_revT ?_
  | ((with_reducible refine' i_exrevT ?h ?_); (case h => walk_at "sq"))
  | ((with_reducible refine' i_catA ?h ?k ?a ?b ?z ?_); (case h => walk_at "sq"); (case k => walk_at "sq"); (case a => simp); (case b => simp); (case z => walk_at "side"))
  | ((with_reducible refine' i_slTA ?h ?k ?_); (case h => walk_at "sq"); (case k => simp only [List.length_cons, List.length_nil]; decide))
  | ((with_reducible refine' i_countF ?h ?k ?a ?_); (case h => walk_at "sq"); (case k => rfl); (case a => rfl))
  | with_reducible refine i_iTup ?_
  | ((with_reducible refine' i_exlT ?h ?_); (case h => walk_at "sq"))
  | ((with_reducible refine' i_rCatN ?h ?e ?z ?_); (case h => walk_at "hg"); (case e => walk_at "hg"); (case z => walk_at "side"))
  | with_reducible refine i_tryC ?_
  | ((with_reducible refine' i_tupL ?h ?_); (case h => walk_at "sq"))
  | ((with_reducible refine' i_neNil ?h ?k ?_); (case h => walk_at "sq"); (case k => walk_at "sq"))
  | ((with_reducible refine' i_eqNil ?h ?k ?_); (case h => walk_at "sq"); (case k => walk_at "sq"))
  | ((with_reducible refine' i_reprE ?h ?e ?_); (case h => walk_at "da"); (case e => walk_at "shw"))
  | ((with_reducible refine' i_tyL ?h ?_); (case h => walk_at "sq"))
  | with_reducible refine i_isBl ?_
  | ((with_reducible refine i_callW ?_))
  | ((with_reducible refine i_exrng ?h1 ?h2 ?_); (case h1 => walk_at "side"); (case h2 => walk_at "side"))
  | ((with_reducible refine' i_exl ?h ?_); (case h => walk_at "sq"))
  | with_reducible refine i_for ?_
  | with_reducible refine i_lc ?_
  | with_reducible refine i_yes ?_
  | with_reducible refine i_iteT ?_
  | with_reducible refine i_iteF ?_
  | ((with_reducible refine i_divmod ?h ?_); (case h => walk_at "side"))
  | ((with_reducible refine' i_isi ?h ?e ?_); (case h => walk_at "da"); (case e => decide))
  | ((with_reducible refine i_lenS ?h ?_); (case h => walk_at "side"))
  | ((with_reducible refine' i_lenL ?h ?_); (case h => walk_at "sq"))
  | ((with_reducible refine' i_lenT ?h ?_); (case h => walk_at "sq"))
  | ((with_reducible refine' i_repr ?h ?n ?e ?_); (case h => walk_at "da"); (case n => walk_at "nod"); (case e => walk_at "shw"))
  | ((with_reducible refine' i_rCat ?h ?e ?z ?_); (case h => walk_at "hg"); (case e => walk_at "hg"); (case z => walk_at "side"))
  | ((with_reducible refine i_rCatS ?h ?_); (case h => walk_at "side"))
  | with_reducible refine i_exstr ?_
  | ((with_reducible refine' i_join ?h ?z ?_); (case h => walk_at "sq"); (case z => walk_at "side"))
  | with_reducible refine i_abs ?_
  | with_reducible refine i_max ?_
  | with_reducible refine i_min ?_
  | ((with_reducible refine' i_rAll ?h ?_); (case h => walk_at "sq"))
  | ((with_reducible refine' i_lcEl ?h ?e ?_); (case h => walk_at "hg"); (case e => walk_at "side"))
  | with_reducible refine ⟨_, _, rfl, rfl, ?_⟩
  | with_reducible refine ⟨_, _, rfl, ?_⟩
  | with_reducible refine ⟨_, rfl, ?_⟩
  | with_reducible refine And.intro rfl ?_
  | ((with_reducible refine And.intro ?h ?_); (case h => walk_at "side"))
  | fail)

section
variable {P : Program} {w : World} {K : PySem.W.Frag} {mg : Str → Option Value} {base : Heap} {A : Ad}
theorem ok_InvalidTextx_initx (T : Txt K mg A) : FnOk P w K mg base CX0 1 A.f_InvalidTextx_initx A.d_InvalidTextx_initx ["self", "line"] (spI A.c_InvalidText ["line"]) := by
  refine T.F_InvalidTextx_initx.ok sc_InvalidTextx_initx (fun vs H Q E h => ?_) (fun cdv Ar outer s H vs Q E hr h => ?_)
  · obtain ⟨_, ws, rfl, hl, _⟩ := h; simp [hl]
  · obtain ⟨a, ws, rfl, hl, e, q⟩ := h
    obtain ⟨v, rfl⟩ := List.length_eq_one_iff.mp hl
    refine ⟨_, (pss_cons (ps_expr (pe_binit (by rfl) T.gX_GroupError baseV T.IB_GroupError (pa_cons (pv 0) (pa_cons (pv 1) pa_nil))))
(pss_one (ps_stB (newId := "ValueError.__new__") (initId := "ValueError.__init__") (bmB := tailOf "ValueError") (pv 0) (pv 1)))), ?_⟩
    repeat (walk_at "st")
    refine ⟨a, _, [v], rfl, by show 1 ≤ 1000; decide, T.EX_InvalidText.o, e, ?_⟩
    repeat (walk_at "st")
    refine ⟨a, _, rfl, T.EX_InvalidText.o, T.tk_InvalidText_line, .inl ⟨e, fun dx n ne => ?_⟩⟩
    exact q dx _ n ne upd_same (by rw [upd_ne ne]; exact upd_same) fun b n1 n2 => by rw [upd_ne n1, upd_ne n2]

def sp_l_choice : Sp := fun vs H Q _ => ∃ r, Rok H r ∧ ((∃ o xs, vs = [.ref r, .ref o] ∧ H o = some (.lst xs) ∧ o ≠ r ∧ 0 < xs.length ∧ xs.length < 1000 ∧ ∀ v H', v ∈ xs → Rok H' r → Off r H H' → Q v H') ∨
  (∃ z : Str, vs = [.ref r, .str z] ∧ 0 < z.length ∧ z.length < 1000 ∧ ∀ c H', c ∈ z.cps.toList → Rok H' r → Off r H H' → Q (.str ⟨#[c]⟩) H'))
theorem ok_l_choice (T : Txt K mg A) (G_l_draw : Fg P w K mg base CX0 1 A.f_l_draw A.d_l_draw ["_law_rng_here", "_law_many"] sp_l_draw) : Fg P w K mg base CX0 2 A.f_l_choice A.d_l_choice ["_law_rng_here", "_law_options"] sp_l_choice := by
  refine ok_g T.F_l_choice sc_l_choice (fun vs H Q E h => ?_) (fun cdv Ar outer s H vs Q E hr h => ?_)
  · obtain ⟨_, _, ⟨_, _, rfl, _⟩ | ⟨_, rfl, _⟩⟩ := h <;> rfl
  · obtain ⟨r, hR, ⟨o, xs, rfl, hO, hne, l0, l1, q⟩ | ⟨z, rfl, l0, l1, q⟩⟩ := h
    · have lb : (xs.length : Int).natAbs.log2 < 9000 := Nat.lt_of_le_of_lt (Nat.log2_le_self _) (by omega)
      refine ⟨_, (pss_one (ps_ret (pe_ix ix_seq (pv 1) (pe_call G_l_draw (hr.mono (by decide)) (by rfl) T.g_l_draw T.F_l_draw.kp T.b_l_draw .nil pass0 (pa_cons (pv 0) (pa_cons (pe_callB call_lenN (by rfl) T.m_len (by decide +kernel) (pa_cons (pv 1) pa_nil)) pa_nil))) (fun _ _ => rfl)))), ?_⟩
      repeat (walk_at "st")
      refine ⟨_, _, rfl, (by walk_at "side"), (by first | decide | decide +kernel | assumption), (by walk_at "rok"), fun d1 G1 dl1 dh1 r1 o1 => ?_⟩
      obtain ⟨v, hv, ev⟩ := atI_lt (xs := xs) dl1 dh1
      refine i_rIxLor (SqL.of (by walk_at "hg")) ev ?_
      exact q _ _ hv r1 o1
    · have lb : (z.length : Int).natAbs.log2 < 9000 := Nat.lt_of_le_of_lt (Nat.log2_le_self _) (by omega)
      have hz : z.length ≤ sizeLine := by rw [sizeLine_eq]; omega
      refine ⟨_, (pss_one (ps_ret (pe_ix ix_seq (pv 1) (pe_call G_l_draw (hr.mono (by decide)) (by rfl) T.g_l_draw T.F_l_draw.kp T.b_l_draw .nil pass0 (pa_cons (pv 0) (pa_cons (pe_callB call_lenN (by rfl) T.m_len (by decide +kernel) (pa_cons (pv 1) pa_nil)) pa_nil))) (fun _ _ => rfl)))), ?_⟩
      repeat (walk_at "st")
      refine ⟨_, _, rfl, (by walk_at "side"), (by first | decide | decide +kernel | assumption), (by walk_at "rok"), fun d1 G1 dl1 dh1 r1 o1 => ?_⟩
      obtain ⟨v, hv, ev⟩ := atN_lt (xs := z.cps.toList) dl1 dh1
      refine i_rIxSor hz ev ?_
      exact q _ _ hv r1 o1

def sp_fmt (K : PySem.W.Frag) (C : Addr) : Sp := fun vs H Q E => ∃ v d, vs = [v] ∧ Da K H v d ∧ (∀ w, winP d = some w → shortW w ∧ ∀ H', Same H H' → Q (.str (fmtS w)) H') ∧
  (winB d = false → ∀ c H', H c = none → Same H H' → H' c = some (.xd [("value", v)]) → E (.ref C) (some c) H')
theorem ok_format_window (T : Txt K mg A) (G_require_window : FnOk P w K mg base (L2.CX P w) 4 A.f_require_window A.d_require_window ["value"] (sp_req K winB A.c_InvalidWindow "value")) : FnOk P w K mg base (L2.CX P w) 5 A.f_format_window A.d_format_window ["window"] (sp_fmt K A.c_InvalidWindow) := by
  refine T.F_format_window.okX sc_format_window (fun vs H Q E h => ?_) (fun cdv Ar outer s H vs Q E hr h => ?_)
  · obtain ⟨_, _, rfl, _⟩ := h; rfl
  · obtain ⟨v, d, rfl, hd, qy, qn⟩ := h
    refine ⟨_, (pss_cons (ps_expr (L2.pe_call G_require_window (hr.mono (by decide)) (by rfl) T.g_require_window T.F_require_window.kp T.b_require_window .nil (passes_call (takes_of rfl rfl rfl rfl) fun _ _ _ _ h => h) (pa_cons (pv 0) pa_nil)))
(pss_cons (ps_asg (pv 0) (pg_tup rfl (pgs_cons (pg_name (i := 1) sc_format_window.nd rfl (.inl rfl)) (pgs_cons (pg_name (i := 2) sc_format_window.nd rfl (.inl rfl)) pgs_nil))))
(pss_one (ps_ret (pe_ifExp (pt_cmpR op_isNN (pv 2) pe_non (nomark _)) (pe_joinedN (PJ.cons (pe_fmt (pv 1)) (PJ.cons (pe_fmt (pe_glob (v := .str "..") rfl T.c_DOTS ⟨_, rfl⟩)) PJ.nil))) (pe_joinedN (PJ.cons (pe_fmt (pv 1)) (PJ.cons (pe_fmt (pe_glob (v := .str "..") rfl T.c_DOTS ⟨_, rfl⟩)) (PJ.cons (pe_fmt (pv 2)) PJ.nil))))))))), ?_⟩
    repeat (walk_at "st")
    refine ⟨_, _, rfl, hd, fun e G1 s1 => ?_, fun e c G1 hc s1 ec => qn e c G1 hc s1 ec⟩
    obtain ⟨w, hw⟩ := Option.isSome_iff_exists.mp e
    obtain ⟨⟨z1, z2⟩, q⟩ := qy w hw
    obtain ⟨rfl, _⟩ := winP_some hw
    obtain ⟨a, rfl, hT⟩ := da_win (hd.same s1)
    have l0 : (Str.empty).length = 0 := rfl
    have l2 : (Str.ofString "..").length = 2 := by decide +kernel
    obtain ⟨l, hi⟩ := w
    have l1 : (Str.ofString (toString l)).length ≤ 1921 := txt_le z1
    have g1 : l.natAbs.log2 < 1920 := log_of z1
    cases hi with
    | none =>
      have hT : SqT K G1 a [.int l, .non] := hT
      repeat (walk_at "st")
      refine i_tt (by rfl) ?_
      have m1 : (Str.ofString (toString l)).length ≤ sizeLine := by rw [sizeLine_eq]; omega
      have m2 : (Str.empty ++ Str.ofString (toString l)).length ≤ sizeLine := by rw [sizeLine_eq, Str.length_append]; omega
      have m3 : (Str.empty ++ Str.ofString (toString l) ++ Str.ofString "..").length ≤ sizeLine := by rw [sizeLine_eq, Str.length_append, Str.length_append]; omega
      have m4 : (Str.ofString "..").length ≤ sizeLine := by rw [sizeLine_eq]; omega
      repeat (walk_at "st")
      exact q _ s1
    | some k =>
      have hT : SqT K G1 a [.int l, .int k] := hT
      repeat (walk_at "st")
      refine i_ff (by rfl) ?_
      have l3 := txt_le (z2 k rfl)
      have g3 := log_of (z2 k rfl)
      have m1 : (Str.ofString (toString l)).length ≤ sizeLine := by rw [sizeLine_eq]; omega
      have m2 : (Str.empty ++ Str.ofString (toString l)).length ≤ sizeLine := by rw [sizeLine_eq, Str.length_append]; omega
      have m3 : (Str.empty ++ Str.ofString (toString l) ++ Str.ofString "..").length ≤ sizeLine := by rw [sizeLine_eq, Str.length_append, Str.length_append]; omega
      have m5 : (Str.empty ++ Str.ofString (toString l) ++ Str.ofString ".." ++ Str.ofString (toString k)).length ≤ sizeLine := by rw [sizeLine_eq, Str.length_append, Str.length_append, Str.length_append]; omega
      have m4 : (Str.ofString "..").length ≤ sizeLine := by rw [sizeLine_eq]; omega
      repeat (walk_at "st")
      exact q _ s1

def ordV : V → Nat
  | .str z => z.cps.getD 0 0
  | _ => 0
theorem signsV_get {x : Str} {i : Nat} {v : V} (h : (signsV x)[i]? = some v) : ∃ c, v = .str ⟨#[c]⟩ ∧ c ∈ x.cps.toList := by
  have hm := List.mem_of_getElem? h
  obtain ⟨c, hc, e⟩ := List.mem_map.mp hm
  exact ⟨c, e.symm, hc⟩

def sp_pnum : Sp := fun vs H Q _ => ∃ x, vs = [.str x] ∧ okS x 300 ∧ ∀ H', Same H H' → Q (oV (pnum x)) H'
theorem ok_parse_number (T : Txt K mg A) : FnOk P w K mg base CX0 1 A.f_parse_number A.d_parse_number ["word"] sp_pnum := by
  refine T.F_parse_number.ok sc_parse_number (fun vs H Q E h => ?_) (fun cdv Ar outer s H vs Q E hr h => ?_)
  · obtain ⟨_, rfl, _⟩ := h; rfl
  · obtain ⟨x, rfl, hx, q⟩ := h
    refine ⟨_, (pss_cons (ps_if (PW.pt (pw_or (pt_not (pt_chain op_le op_le pe_int (pe_callB call_lenN (by rfl) T.m_len (by decide +kernel) (pa_cons (pv 0) pa_nil)) (pe_glob (v := .int (60)) rfl T.c_MAX_DIGITS ⟨_, rfl⟩))) (pw_or1 (pt_not (pt_val (pe_callB (cr_all rfl) (by rfl) T.m_all (by decide +kernel) (pa_cons (pe_lc (own := [("digit", 1)]) rfl sc_parse_number.nd (pi_str (pv 0)) (blkOk_by (own := [("digit", 1)]) (N := ["word", "digit"]) (sc := defScope s_parse_number) (by decide +kernel)) (fun _ _ _ _ _ => (pg_name (i := 1) sc_parse_number.nd rfl (.inl rfl))) (fun _ _ _ _ _ => pts_nil) (fun _ _ _ _ _ => (pe_cmpR op_in_sign (pv 1) (pe_glob (v := .str "0123456789") rfl T.c_DIGITS ⟨_, rfl⟩) (by rfl)))) pa_nil)))))))
(pss_one (ps_ret pe_non))
pss_nil)
(pss_one (ps_ret (pe_ifExp (PW.pt (pw_and (pt_cmpR op_eq (pe_ix ix_str (pv 0) pe_int (fun _ _ => rfl)) pe_str (nomark _)) (pw_and1 (pt_cmpR op_ne (pv 0) pe_str (nomark _))))) pe_non (pe_callTy call_intS (by rfl) T.m_int (by decide +kernel) (pa_cons (pv 0) pa_nil)))))), ?_⟩
    have hl := hx.line (by decide)
    have hx1 := hx.1
    repeat (walk_at "st")
    refine i_ite (fun e => ?_) (fun e => ?_)
    · repeat (walk_at "st")
      refine i_ite (fun e2 => ?_) (fun e2 => ?_)
      · repeat (walk_at "st")
        have l8 : ¬ x.length ≤ 60 := by simp at e2; omega
        have en : pnum x = none := if_neg (by simp [l8])
        have q' := q _ (Same.refl H)
        rw [en] at q'
        exact q'
      · repeat (walk_at "st")
        have l8 : x.length ≤ 60 := by simp at e2; omega
        have l1 : 1 ≤ x.length := by have := of_decide_eq_true e; omega
        refine l_map wk_str (fun v => .bl (decide (ordV v ∈ dg))) (by rw [signsV_len, sizeLine_eq]; exact Nat.lt_of_le_of_lt l8 (by decide)) (fun _ _ => trivial) (fun i v H' R hv s1 hR => ?_) (fun D H' n1 s1 e1 => ?_)
        · obtain ⟨c, rfl, hc⟩ := signsV_get hv
          repeat (walk_at "st")
          exact hR _ (Same.refl _)
        · have e3 : (signsV x).map (fun v => V.bl (decide (ordV v ∈ dg))) = (x.cps.toList.map fun c => decide (c ∈ dg)).map V.bl := by
            simp only [signsV, List.map_map]; rfl
          rw [e3] at e1
          repeat (walk_at "st")
          have ed : ((x.cps.toList.map fun c => decide (c ∈ dg)).all id) = digs x := by
            rw [List.all_map]; rfl
          rw [ed]
          have q' := q _ s1
          refine i_ite (fun e4 => ?_) (fun e4 => ?_)
          · repeat (walk_at "st")
            have en : pnum x = none := if_neg (by have : digs x = false := by simpa using e4
                                                  simp [this])
            rw [en] at q'
            exact q'
          · have hd : digs x = true := by simpa using e4
            repeat (walk_at "st")
            obtain ⟨c, r, hcr⟩ : ∃ c r, x.cps.toList = c :: r := by
              cases hcr : x.cps.toList with
              | nil => have : x.length = x.cps.toList.length := rfl
                       rw [this, hcr] at l1; simp at l1
              | cons c r => exact ⟨c, r, rfl⟩
            have e0 : atI x.cps.toList 0 = some c := by rw [hcr]; unfold atI ixN; simp
            have hp : pnum x = if canS x = true then some (valS x) else none := if_pos (by simp [hd, l1, l8])
            have hc : canS x = !(decide (some c = some 48) && !decide (x = Str.ofString "0")) := by
              unfold canS; rw [hcr]; rfl
            rw [hp, hc] at q'
            repeat (walk_at "st")
            rw [str1_eq]
            refine i_ite (fun e5 => ?_) (fun e5 => ?_)
            · rw [e5] at q'
              repeat (walk_at "st")
              rw [strV_eq]
              refine i_ite (fun e6 => ?_) (fun e6 => ?_)
              · rw [e6] at q'
                repeat (walk_at "st")
                exact q'
              · rw [e6] at q'
                repeat (walk_at "st")
                refine i_intS (intS hd l1 (by omega)) (by omega) ?_
                exact q'
            · rw [e5] at q'
              repeat (walk_at "st")
              refine i_intS (intS hd l1 (by omega)) (by omega) ?_
              exact q'
    · repeat (walk_at "st")
      refine i_tt (by rfl) ?_
      repeat (walk_at "st")
      have l1 : ¬ 1 ≤ x.length := by have := of_decide_eq_false e; omega
      have en : pnum x = none := if_neg (by simp [l1])
      have q' := q _ (Same.refl H)
      rw [en] at q'
      exact q'
def sp_winin (K : PySem.W.Frag) : Sp := fun vs H Q _ => ∃ x, vs = [.str x] ∧ okS x 300 ∧ (winS x = none → ∀ H', Same H H' → Q .non H') ∧
  (∀ w, winS x = some w → ∀ a H', Same H H' → DaS K H' (.ref a) (winD w) → Q (.ref a) H')
theorem ok_window_in (T : Txt K mg A) (G_parse_number : FnOk P w K mg base CX0 1 A.f_parse_number A.d_parse_number ["word"] sp_pnum) (G_is_window : FnOk P w K mg base CX0 3 A.f_is_window A.d_is_window ["value"] (sp_dat K winB)) : FnOk P w K mg base CX0 4 A.f_window_in A.d_window_in ["text"] (sp_winin K) := by
  refine T.F_window_in.ok sc_window_in (fun vs H Q E h => ?_) (fun cdv Ar outer s H vs Q E hr h => ?_)
  · obtain ⟨_, rfl, _⟩ := h; rfl
  · obtain ⟨x, rfl, hx, qn, qs⟩ := h
    refine ⟨_, (pss_cons (ps_set (i := 1) sc_window_in.nd rfl (.inl rfl) (pe_splitN (pv 0) (pe_glob (v := .str "..") rfl T.c_DOTS ⟨_, rfl⟩)))
(pss_cons (ps_if (pt_cmpR op_ne (pe_callB call_lenN (by rfl) T.m_len (by decide +kernel) (pa_cons (pv 1) pa_nil)) pe_int (nomark _))
(pss_one (ps_ret pe_non))
pss_nil)
(pss_cons (ps_par (i := 2) (j := 3) rfl sc_window_in.nd rfl rfl (by decide) rfl rfl (pa_cons (L2.pe_call G_parse_number (hr.mono (by decide)) (by rfl) T.g_parse_number T.F_parse_number.kp T.b_parse_number .nil pass0 (pa_cons (pe_ix ix_list (pv 1) pe_int (fun _ _ => rfl)) pa_nil)) (pa_cons (L2.pe_call G_parse_number (hr.mono (by decide)) (by rfl) T.g_parse_number T.F_parse_number.kp T.b_parse_number .nil pass0 (pa_cons (pe_ix ix_list (pv 1) pe_int (fun _ _ => rfl)) pa_nil)) pa_nil)) (by rfl))
(pss_cons (ps_if (PW.pt (pw_or (pt_cmpR op_isNN (pv 2) pe_non (nomark _)) (pw_or1 (PW.pt (pw_and (pt_cmpR op_isNN (pv 3) pe_non (nomark _)) (pw_and1 (pt_cmpR op_ne (pe_ix ix_list (pv 1) pe_int (fun _ _ => rfl)) pe_str (nomark _))))))))
(pss_one (ps_ret pe_non))
pss_nil)
(pss_one (ps_ret (pe_ifExp (pt_val (L2.pe_call G_is_window (hr.mono (by decide)) (by rfl) T.g_is_window T.F_is_window.kp T.b_is_window .nil pass0 (pa_cons (pe_tup (pa_cons (pv 2) (pa_cons (pv 3) pa_nil))) pa_nil))) (pe_tup (pa_cons (pv 2) (pa_cons (pv 3) pa_nil))) pe_non))))))), ?_⟩
    have hl := hx.line (by decide)
    have hx1 := hx.1
    have h2 : x.length + 2 ≤ sizeLine := by rw [sizeLine_eq]; omega
    have hok := splits_ok hx
    repeat (walk_at "st")
    refine i_new fun p1 G1 n1 s1 e1 => ?_
    repeat (walk_at "st")
    by_cases hlen : (Txt.split x (Str.ofString "..")).length = 2
    · obtain ⟨a, b, hab⟩ : ∃ a b, Txt.split x (Str.ofString "..") = [a, b] := by
        match hm : Txt.split x (Str.ofString ".."), hlen with
        | [a, b], _ => exact ⟨a, b, rfl⟩
      have ha := hok a (by rw [hab]; simp)
      have hb := hok b (by rw [hab]; simp)
      rw [hab] at e1
      have e1' : G1 p1 = some (.lst [.str a, .str b]) := e1
      clear e1
      rw [hab]
      refine i_ff (by rfl) ?_
      repeat (walk_at "st")
      refine ⟨_, rfl, ha, fun G2 s2 => ?_⟩
      have e2 := s2 _ _ e1'
      repeat (walk_at "st")
      refine ⟨_, rfl, hb, fun G3 s3 => ?_⟩
      have e3 := s3 _ _ e2
      repeat (walk_at "st")
      have sw := winS_two hab
      cases hl1 : pnum a with
      | none =>
        refine i_tt (by rfl) ?_
        repeat (walk_at "st")
        exact qn (by rw [sw, hl1]; rfl) _ (s1.trans (s2.trans s3))
      | some l =>
        have l0 := pnum_nonneg hl1
        refine i_ff (by rfl) ?_
        repeat (walk_at "st")
        cases hh : pnum b with
        | none =>
          refine i_tt (by rfl) ?_
          repeat (walk_at "st")
          rw [strV_eq]
          refine i_ite (fun c => ?_) (fun c => ?_)
          · repeat (walk_at "st")
            have c' : ¬ b = Str.ofString "" := by simpa using c
            exact qn (by rw [sw, hl1, hh]; exact if_neg c') _ (s1.trans (s2.trans s3))
          · repeat (walk_at "st")
            have c' : b = Str.ofString "" := by simpa using c
            refine i_new fun p4 G4 n4 s4 e4 => ?_
            repeat (walk_at "st")
            refine ⟨_, _, rfl, (da_winT (w := (l, none)) (SqT.of e4)).da, fun G5 s5 => ?_⟩
            have wb : winB (winD (l, none)) = true := by unfold winB; rw [winP_D ⟨l0, fun _ z => by cases z⟩]; rfl
            rw [wb]
            repeat (walk_at "st")
            refine i_new fun p6 G6 n6 s6 e6 => ?_
            exact qs (l, none) (by rw [sw, hl1, hh]; exact if_pos c') _ _ (s1.trans (s2.trans (s3.trans (s4.trans (s5.trans s6))))) (da_winT (SqT.of e6))
        | some k =>
          have k0 := pnum_nonneg hh
          refine i_ff (by rfl) ?_
          repeat (walk_at "st")
          refine i_new fun p4 G4 n4 s4 e4 => ?_
          repeat (walk_at "st")
          refine ⟨_, _, rfl, (da_winT (w := (l, some k)) (SqT.of e4)).da, fun G5 s5 => ?_⟩
          repeat (walk_at "st")
          by_cases hlk : l ≤ k
          · have wb : winB (winD (l, some k)) = true := by unfold winB; rw [winP_D ⟨l0, fun _ z => by cases z; exact hlk⟩]; rfl
            rw [wb]
            repeat (walk_at "st")
            refine i_new fun p6 G6 n6 s6 e6 => ?_
            exact qs (l, some k) (by rw [sw, hl1, hh]; exact if_pos hlk) _ _ (s1.trans (s2.trans (s3.trans (s4.trans (s5.trans s6))))) (da_winT (SqT.of e6))
          · have wb : winB (winD (l, some k)) = false := by
              unfold winB
              have z : winP (winD (l, some k)) = none := if_neg (by omega)
              rw [z]; rfl
            rw [wb]
            repeat (walk_at "st")
            exact qn (by rw [sw, hl1, hh]; exact if_neg hlk) _ (s1.trans (s2.trans (s3.trans (s4.trans s5))))
    · refine i_tt (by rw [List.length_map]; simp; omega) ?_
      repeat (walk_at "st")
      exact qn (winS_not hlen) _ s1
def sp_parsew (K : PySem.W.Frag) (C : Addr) : Sp := fun vs H Q E => ∃ v d, vs = [v] ∧ Da K H v d ∧
  (∀ x, d = .str x → okS x 300 ∧ (winS x = none → ∀ c H', H c = none → Same H H' → H' c = some (.xd [("line", .int 1)]) → E (.ref C) (some c) H') ∧
    ∀ w, winS x = some w → ∀ a H', Same H H' → DaS K H' (.ref a) (winD w) → Q (.ref a) H') ∧
  (isi d "str" = false → ∀ c H', H c = none → Same H H' → H' c = some (.xd [("line", .int 0)]) → E (.ref C) (some c) H')
theorem ok_parse_window (T : Txt K mg A) (G_window_in : FnOk P w K mg base CX0 4 A.f_window_in A.d_window_in ["text"] (sp_winin K)) (G_InvalidTextx_initx : FnOk P w K mg base CX0 1 A.f_InvalidTextx_initx A.d_InvalidTextx_initx ["self", "line"] (spI A.c_InvalidText ["line"])) : FnOk P w K mg base (L2.CX P w) 5 A.f_parse_window A.d_parse_window ["text"] (sp_parsew K A.c_InvalidText) := by
  refine T.F_parse_window.okX sc_parse_window (fun vs H Q E h => ?_) (fun cdv Ar outer s H vs Q E hr h => ?_)
  · obtain ⟨_, _, rfl, _⟩ := h; rfl
  · obtain ⟨v, d, rfl, hd, qs, qn⟩ := h
    refine ⟨_, (pss_cons (ps_if (pt_not (pt_val (pe_callB call_isiD (by rfl) T.m_isinstance (by decide +kernel) (pa_cons (pv 0) (pa_cons (pe_bltn (v := .ty "str") rfl T.m_str (by decide +kernel) rfl) pa_nil)))))
(pss_one (ps_raiseN rfl (takes_of rfl rfl rfl rfl) (pmk_B T.EX_InvalidText.o T.iC_InvalidText T.tI_InvalidText G_InvalidTextx_initx (hr.mono (by decide)) T.b_InvalidTextx_initx pass0 (by rfl) T.gX_InvalidText (pa_cons pe_int pa_nil))))
pss_nil)
(pss_cons (ps_set (i := 1) sc_parse_window.nd rfl (.inl rfl) (L2.pe_call G_window_in (hr.mono (by decide)) (by rfl) T.g_window_in T.F_window_in.kp T.b_window_in .nil pass0 (pa_cons (pv 0) pa_nil)))
(pss_cons (ps_if (pt_cmpR op_isNN (pv 1) pe_non (nomark _))
(pss_one (ps_raiseN rfl (takes_of rfl rfl rfl rfl) (pmk_B T.EX_InvalidText.o T.iC_InvalidText T.tI_InvalidText G_InvalidTextx_initx (hr.mono (by decide)) T.b_InvalidTextx_initx pass0 (by rfl) T.gX_InvalidText (pa_cons pe_int pa_nil))))
pss_nil)
(pss_one (ps_ret (pv 1)))))), ?_⟩
    repeat (walk_at "st")
    refine i_ite (fun e => ?_) (fun e => ?_)
    · have e' : isi d "str" = false := by simpa using e
      repeat (walk_at "st")
      refine i_mkR rfl (by decide) fun c H2 hc s2 ec => ?_
      exact qn e' c H2 hc s2 ec
    · obtain ⟨x, rfl, rfl⟩ : ∃ x, v = .str x ∧ d = .str x := by
        cases hd <;> first | exact ⟨_, rfl, rfl⟩ | cases e
      obtain ⟨hx, q0, q1⟩ := qs x rfl
      repeat (walk_at "st")
      refine ⟨_, rfl, hx, fun hw G1 s1 => ?_, fun w hw a G1 s1 hda => ?_⟩
      · repeat (walk_at "st")
        refine i_tt (by rfl) ?_
        repeat (walk_at "st")
        refine i_mkR rfl (by decide) fun c H2 hc s2 ec => ?_
        exact q0 hw c H2 (none_of s1 hc) (s1.trans s2) ec
      · repeat (walk_at "st")
        refine i_ff (by rfl) ?_
        repeat (walk_at "st")
        exact q1 w hw a G1 s1 hda

theorem i_neSigns {H : Hp} {Q : VK} {a b : Addr} {l : List Nat} (h : H a = some (.lst (l.map fun c => V.str ⟨#[c]⟩))) (k : H b = some (.lst [])) (hl : ∀ c ∈ l, c < 1114112) (q : Q (.bl (!l.isEmpty)) H) : rNeD K (.ref a) (.ref b) H Q := by
  obtain ⟨d, e, h1, h2, h3, h4, hq⟩ := i_eqSigns (K := K) (Q := fun v H' => ∃ b, v = .bl b ∧ Q (.bl (!b)) H') h k hl ⟨_, rfl, q⟩
  obtain ⟨b', e1, e2⟩ := hq
  cases e1
  exact ⟨d, e, h1, h2, h3, h4, e2⟩
def sp_l_number : Sp := fun vs H Q _ => ∃ x, vs = [.str x] ∧ okS x 300 ∧ ∀ H', Same H H' → Q (oV (lnum (TL.tl x))) H'
theorem ok_l_number (T : Txt K mg A) : Fg P w K mg base CX0 1 A.f_l_number A.d_l_number ["_law_word"] sp_l_number := by
  refine ok_g T.F_l_number sc_l_number (fun vs H Q E h => ?_) (fun cdv Ar outer s H vs Q E hr h => ?_)
  · obtain ⟨_, rfl, _⟩ := h; rfl
  · obtain ⟨x, rfl, hx, q⟩ := h
    refine ⟨_, (pss_cons (ps_if (PW.pt (pw_or (pt_cmpR op_eq (pv 0) pe_str (nomark _)) (pw_or (pt_cmpR (op_neD hr.room.units) (pe_lc (own := [("_law_sign", 1)]) rfl sc_l_number.nd (pi_str (pv 0)) (blkOk_by (own := [("_law_sign", 1)]) (N := ["_law_word", "_law_sign"]) (sc := defScope s_l_number) (by decide +kernel)) (fun _ _ _ _ _ => (pg_name (i := 1) sc_l_number.nd rfl (.inl rfl))) (fun _ _ _ _ _ => (pts_one (pt_cmpR op_notIn_sign (pv 1) pe_str (by rfl)))) (fun _ _ _ _ _ => (pv 1))) (pe_lst pa_nil) (nomark _)) (pw_or1 (PW.pt (pw_and (pt_cmpR op_eq (pe_ix ix_str (pv 0) pe_int (fun _ _ => rfl)) pe_str (nomark _)) (pw_and1 (pt_cmpR op_ne (pv 0) pe_str (nomark _)))))))))
(pss_one (ps_ret pe_non))
pss_nil)
(pss_one (ps_ret (pe_callTy call_intS (by rfl) T.m_int (by decide +kernel) (pa_cons (pv 0) pa_nil))))), ?_⟩
    have hl := hx.line (by decide)
    have hx1 := hx.1
    repeat (walk_at "st")
    rw [strV_eq]
    refine i_ite (fun e => ?_) (fun e => ?_)
    · repeat (walk_at "st")
      have e' : x = Str.ofString "" := of_decide_eq_true e
      have q' := q _ (Same.refl H)
      have en : lnum (TL.tl x) = none := if_neg fun z => z.1 (by rw [e']; decide +kernel)
      rw [en] at q'
      exact q'
    · repeat (walk_at "st")
      have e' : ¬ x = Str.ofString "" := of_decide_eq_false e
      have ne : TL.tl x ≠ [] := fun z => e' (TL.ext_tl (by rw [z]; decide +kernel))
      refine l_filter wk_str (fun v => !decide (ordV v ∈ dg)) id (by rw [signsV_len, sizeLine_eq]; exact Nat.lt_of_le_of_lt hx1 (by decide)) (fun _ _ => trivial) (fun i v H' R N hv s1 hR hN => ?_) (fun D H' n1 s1 e1 => ?_)
      · obtain ⟨c, rfl, hc⟩ := signsV_get hv
        repeat (walk_at "st")
        refine i_ite (fun e => ?_) (fun e => ?_)
        · repeat (walk_at "st")
          exact hR e _ (Same.refl _)
        · exact hN e _ (Same.refl _)
      · repeat (walk_at "st")
        refine i_new fun p2 G2 n2 s2 e2 => ?_
        repeat (walk_at "st")
        have e3 : List.map id (List.filter (fun v => !decide (ordV v ∈ dg)) (signsV x)) = (x.cps.toList.filter fun c => !decide (c ∈ dg)).map fun c => V.str ⟨#[c]⟩ := by
          simp only [signsV, List.filter_map, List.map_id_fun, id]; rfl
        rw [e3] at e1
        refine i_neSigns (s2 _ _ e1) e2 (fun c hc => hx.2 c (List.mem_filter.mp hc).1) ?_
        have q' := q _ (s1.trans s2)
        have ed : (x.cps.toList.filter fun c => !decide (c ∈ dg)).isEmpty = digs x := by
          unfold digs
          rw [Bool.eq_iff_iff, List.isEmpty_iff, List.filter_eq_nil_iff, List.all_eq_true]
          simp
        rw [ed]
        repeat (walk_at "st")
        refine i_ite (fun e4 => ?_) (fun e4 => ?_)
        · repeat (walk_at "st")
          have hd : ¬ digs x = true := by simpa using e4
          have en : lnum (TL.tl x) = none := if_neg fun z => hd (digs_iff.mpr z.2.1)
          rw [en] at q'
          exact q'
        · have hd : digs x = true := by simpa using e4
          repeat (walk_at "st")
          have l1 : 1 ≤ x.length := List.length_pos_iff.mpr ne
          obtain ⟨c, r, hcr⟩ : ∃ c r, x.cps.toList = c :: r := by
            cases hcr : x.cps.toList with
            | nil => exact absurd hcr ne
            | cons c r => exact ⟨c, r, rfl⟩
          have e0 : atI x.cps.toList 0 = some c := by rw [hcr]; unfold atI ixN; simp
          have hh : x.cps.toList.head? = some c := by rw [hcr]; rfl
          have ez : x = Str.ofString "0" ↔ TL.tl x = [48] := by
            have e : TL.tl (Str.ofString "0") = [48] := by decide +kernel
            rw [← e]
            exact ⟨fun z => by rw [z], fun z => TL.ext_tl z⟩
          have good : (c = 48 → x = Str.ofString "0") → lnum (TL.tl x) = some (valS x) := fun z =>
            if_pos ⟨ne, digs_iff.mp hd, fun y => ez.mp (z (by rw [show (TL.tl x).head? = some c from hh] at y; exact Option.some.inj y))⟩
          have bad : c = 48 → ¬ x = Str.ofString "0" → lnum (TL.tl x) = none := fun z1 z2 => if_neg fun y => z2 (ez.mpr (y.2.2 (by rw [show (TL.tl x).head? = some c from hh, z1])))
          repeat (walk_at "st")
          rw [str1_eq]
          refine i_ite (fun e5 => ?_) (fun e5 => ?_)
          · have c5 : c = 48 := by simpa using e5
            repeat (walk_at "st")
            rw [strV_eq]
            refine i_ite (fun e6 => ?_) (fun e6 => ?_)
            · have c6 : ¬ x = Str.ofString "0" := by simpa using e6
              repeat (walk_at "st")
              rw [bad c5 c6] at q'
              exact q'
            · have c6 : x = Str.ofString "0" := by simpa using e6
              repeat (walk_at "st")
              refine i_intS (intS hd l1 (by omega)) (by omega) ?_
              rw [good fun _ => c6] at q'
              exact q'
          · have c5 : ¬ c = 48 := by simpa using e5
            repeat (walk_at "st")
            refine i_intS (intS hd l1 (by omega)) (by omega) ?_
            rw [good fun z => absurd z c5] at q'
            exact q'

def sp_l_read (K : PySem.W.Frag) : Sp := fun vs H Q _ => ∃ x, vs = [.str x] ∧ okS x 300 ∧ (lread x = none → ∀ H', Same H H' → Q .non H') ∧
  (∀ w, lread x = some w → ∀ a H', Same H H' → DaS K H' (.ref a) (winD w) → Q (.ref a) H')
theorem ok_l_read (T : Txt K mg A) (G_l_number : Fg P w K mg base CX0 1 A.f_l_number A.d_l_number ["_law_word"] sp_l_number) : Fg P w K mg base CX0 2 A.f_l_read A.d_l_read ["_law_text"] (sp_l_read K) := by
  refine ok_g T.F_l_read sc_l_read (fun vs H Q E h => ?_) (fun cdv Ar outer s H vs Q E hr h => ?_)
  · obtain ⟨_, rfl, _⟩ := h; rfl
  · obtain ⟨x, rfl, hx, qn, qs⟩ := h
    refine ⟨_, (pss_cons (ps_set (i := 1) sc_l_read.nd rfl (.inl rfl) (pe_findN (pv 0) pe_str))
(pss_cons (ps_if (pt_cmpR op_lt (pv 1) pe_int (nomark _))
(pss_one (ps_ret pe_non))
pss_nil)
(pss_cons (ps_par (i := 2) (j := 3) rfl sc_l_read.nd rfl rfl (by decide) rfl rfl (pa_cons (pe_call G_l_number (hr.mono (by decide)) (by rfl) T.g_l_number T.F_l_number.kp T.b_l_number .nil pass0 (pa_cons (pe_slice sl_str (pv 0) po_none (po_some (pv 1))) pa_nil)) (pa_cons (pe_call G_l_number (hr.mono (by decide)) (by rfl) T.g_l_number T.F_l_number.kp T.b_l_number .nil pass0 (pa_cons (pe_slice sl_str (pv 0) (po_some (pe_op op_add (pv 1) pe_int)) po_none) pa_nil)) pa_nil)) (by rfl))
(pss_cons (ps_if (PW.pt (pw_or (pt_cmpR op_isNN (pv 2) pe_non (nomark _)) (pw_or (PW.pt (pw_and (pt_cmpR op_isNN (pv 3) pe_non (nomark _)) (pw_and1 (pt_cmpR op_ne (pe_slice sl_str (pv 0) (po_some (pe_op op_add (pv 1) pe_int)) po_none) pe_str (nomark _))))) (pw_or1 (PW.pt (pw_and (pt_cmpR op_notNN (pv 3) pe_non (nomark _)) (pw_and1 (pt_cmpR op_lt (pv 3) (pv 2) (nomark _)))))))))
(pss_one (ps_ret pe_non))
pss_nil)
(pss_one (ps_ret (pe_tup (pa_cons (pv 2) (pa_cons (pv 3) pa_nil))))))))), ?_⟩
    have hl := hx.line (by decide)
    repeat (walk_at "st")
    rcases find_dd x with ⟨a, r, h1, h2, hf⟩ | ⟨h1, hf⟩
    · rw [hf]
      refine i_ff (decide_eq_false (by omega)) ?_
      have z2 : (cutS x (some (↑a.length + 2)) none).length ≤ sizeLine := Nat.le_trans (cutS_length _ _ _) hl
      have ta : TL.tl (cutS x none (some (a.length : Int))) = a := by
        rw [tl_cut_to (by omega), h2, Int.toNat_natCast, List.append_assoc, List.take_left]
      have tr : TL.tl (cutS x (some (↑a.length + 2)) none) = r := by
        rw [tl_cut_from (by omega), h2]
        have e : (↑a.length + 2 : Int).toNat = (a ++ DD).length := by simp; omega
        rw [e, List.drop_left]
      have sr : lread x = lAB r (lnum a) := by unfold lread; rw [h1]
      have e0 : cutS x (some (↑a.length + 2)) none = Str.ofString "" ↔ r = [] := by
        have e : TL.tl (Str.ofString "") = [] := by decide +kernel
        rw [← tr, ← e]
        exact ⟨fun q => by rw [q], fun q => TL.ext_tl q⟩
      repeat (walk_at "st")
      refine ⟨_, rfl, hx.cut _ _, fun G1 s1 => ?_⟩
      rw [ta]
      repeat (walk_at "st")
      refine ⟨_, rfl, hx.cut _ _, fun G2 s2 => ?_⟩
      rw [tr]
      repeat (walk_at "st")
      cases hl1 : lnum a with
      | none =>
        refine i_tt (by rfl) ?_
        repeat (walk_at "st")
        exact qn (by rw [sr, hl1]; rfl) _ (s1.trans s2)
      | some l =>
        refine i_ff (by rfl) ?_
        repeat (walk_at "st")
        cases hk : lnum r with
        | none =>
          refine i_tt (by rfl) ?_
          repeat (walk_at "st")
          rw [strV_eq]
          refine i_ite (fun e => ?_) (fun e => ?_)
          · have nr : ¬ r = [] := fun z => absurd (e0.mpr z) (by simpa using e)
            repeat (walk_at "st")
            exact qn (by rw [sr, hl1]; unfold lAB; dsimp only; rw [if_neg nr, hk]) _ (s1.trans s2)
          · have nr : r = [] := e0.mp (by simpa using e)
            repeat (walk_at "st")
            refine i_ff (by rfl) ?_
            repeat (walk_at "st")
            refine i_new fun p3 G3 n3 s3 e3 => ?_
            exact qs (l, none) (by rw [sr, hl1]; unfold lAB; dsimp only; rw [if_pos nr]) _ _ (s1.trans (s2.trans s3)) (da_winT (SqT.of e3))
        | some k =>
          have nr : ¬ r = [] := fun z => by rw [z] at hk; exact absurd hk (by rw [show lnum [] = none from if_neg fun y => y.1 rfl]; exact fun y => nomatch y)
          refine i_ff (by rfl) ?_
          repeat (walk_at "st")
          refine i_tt (by rfl) ?_
          repeat (walk_at "st")
          dsimp only [oV]
          repeat (walk_at "st")
          refine i_ite (fun c => ?_) (fun c => ?_)
          · repeat (walk_at "st")
            exact qn (by rw [sr, hl1]; unfold lAB; dsimp only; rw [if_neg nr, hk]; dsimp only; rw [if_pos (of_decide_eq_true c)]) _ (s1.trans s2)
          · repeat (walk_at "st")
            refine i_new fun p3 G3 n3 s3 e3 => ?_
            exact qs (l, some k) (by rw [sr, hl1]; unfold lAB; dsimp only; rw [if_neg nr, hk]; dsimp only; rw [if_neg (of_decide_eq_false c)]) _ _ (s1.trans (s2.trans s3)) (da_winT (SqT.of e3))
    · rw [hf]
      refine i_tt (by decide) ?_
      repeat (walk_at "st")
      exact qn (by unfold lread; rw [h1]) _ (Same.refl H)

theorem ok_l_is_count (T : Txt K mg A) : Fg P w K mg base CX0 1 A.f_l_is_count A.d_l_is_count ["_law_one"] (sp_dat K verD) := by
  refine ok_g T.F_l_is_count sc_l_is_count (fun vs H Q E h => ?_) (fun cdv Ar outer s H vs Q E hr h => ?_)
  · obtain ⟨_, _, rfl, _⟩ := h; rfl
  · obtain ⟨v, d, rfl, hd, q⟩ := h
    refine ⟨_, (pss_one (ps_ret (pe_and (pe_callB call_isiD (by rfl) T.m_isinstance (by decide +kernel) (pa_cons (pv 0) (pa_cons (pe_bltn (v := .ty "int") rfl T.m_int (by decide +kernel) rfl) pa_nil))) (pe_and (pe_not (pe_callB call_isiD (by rfl) T.m_isinstance (by decide +kernel) (pa_cons (pv 0) (pa_cons (pe_bltn (v := .ty "bool") rfl T.m_bool (by decide +kernel) rfl) pa_nil)))) (pe_one (pe_cmpR op_ge (pv 0) pe_int (nomark _))))))), ?_⟩
    have q' := q _ (Same.refl H)
    repeat (walk_at "st")
    cases hd with
    | int i =>
      refine i_tt (by rfl) ?_
      repeat (walk_at "st")
      refine i_tt (by rfl) ?_
      repeat (walk_at "st")
      exact q'
    | bl c =>
      refine i_tt (by rfl) ?_
      repeat (walk_at "st")
      refine i_ff (by rfl) ?_
      exact q'
    | _ =>
      refine i_ff (by rfl) ?_
      exact q'
theorem ok_l_is_window (T : Txt K mg A) (G_l_is_count : Fg P w K mg base CX0 1 A.f_l_is_count A.d_l_is_count ["_law_one"] (sp_dat K verD)) : Fg P w K mg base CX0 3 A.f_l_is_window A.d_l_is_window ["_law_one"] (sp_dat K winB) := by
  refine ok_g T.F_l_is_window sc_l_is_window (fun vs H Q E h => ?_) (fun cdv Ar outer s H vs Q E hr h => ?_)
  · obtain ⟨_, _, rfl, _⟩ := h; rfl
  · obtain ⟨v, d, rfl, hd, q⟩ := h
    refine ⟨_, (pss_cons (ps_if (PW.pt (pw_or (pt_not (pt_val (pe_callB call_isiD (by rfl) T.m_isinstance (by decide +kernel) (pa_cons (pv 0) (pa_cons (pe_bltn (v := .ty "tuple") rfl T.m_tuple (by decide +kernel) rfl) pa_nil))))) (pw_or (pt_cmpR op_ne (pe_callB call_lenN (by rfl) T.m_len (by decide +kernel) (pa_cons (pv 0) pa_nil)) pe_int (nomark _)) (pw_or1 (pt_not (pt_val (pe_call G_l_is_count (hr.mono (by decide)) (by rfl) T.g_l_is_count T.F_l_is_count.kp T.b_l_is_count .nil pass0 (pa_cons (pe_ix ix_tup (pv 0) pe_int (fun _ _ => rfl)) pa_nil))))))))
(pss_one (ps_ret pe_bl))
pss_nil)
(pss_one (ps_ret (pe_or (pe_cmpR op_isNN (pe_ix ix_tup (pv 0) pe_int (fun _ _ => rfl)) pe_non (nomark _)) (pe_one (pe_and (pe_call G_l_is_count (hr.mono (by decide)) (by rfl) T.g_l_is_count T.F_l_is_count.kp T.b_l_is_count .nil pass0 (pa_cons (pe_ix ix_tup (pv 0) pe_int (fun _ _ => rfl)) pa_nil)) (pe_one (pe_cmpR op_ge (pe_ix ix_tup (pv 0) pe_int (fun _ _ => rfl)) (pe_ix ix_tup (pv 0) pe_int (fun _ _ => rfl)) (nomark _))))))))), ?_⟩
    repeat (walk_at "st")
    cases hd with
    | tup hq ha =>
      rename_i xs ds
      have len := ha.len
      refine i_ff (by rfl) ?_
      repeat (walk_at "st")
      by_cases hl : ds.length = 2
      · refine i_ff (by rw [len, hl]; rfl) ?_
        repeat (walk_at "st")
        obtain ⟨x1, x2, d1, d2, rfl, rfl, h1, h2⟩ := da_two ha hl
        repeat (walk_at "st")
        refine ⟨_, _, rfl, h1, fun G1 s1 => ?_⟩
        have hq' := same_seqT s1 hq
        repeat (walk_at "st")
        refine i_ite (fun e => ?_) (fun e => ?_)
        · repeat (walk_at "st")
          have e' : verD d1 = false := by simpa using e
          have q' := q _ s1
          rw [winB_two, e'] at q'
          exact q'
        · have e' : verD d1 = true := by simpa using e
          obtain ⟨i, rfl, rfl, i0⟩ := verD_int h1 e'
          repeat (walk_at "st")
          refine i_ite (fun c => ?_) (fun c => ?_)
          · repeat (walk_at "st")
            have q' := q _ s1
            rw [winB_two, e', ← da_non h2, c] at q'
            exact q'
          · repeat (walk_at "st")
            refine ⟨_, _, rfl, h2.same s1, fun G2 s2 => ?_⟩
            have hq2 := same_seqT s2 hq'
            repeat (walk_at "st")
            refine i_ite (fun c2 => ?_) (fun c2 => ?_)
            · obtain ⟨k, rfl, rfl, k0⟩ := verD_int h2 c2
              repeat (walk_at "st")
              have q' := q _ (s1.trans s2)
              rw [winB_two, e', c2] at q'
              exact q'
            · have q' := q _ (s1.trans s2)
              rw [winB_two, e', ← da_non h2, c, c2] at q'
              exact q'
      · refine i_tt (by rw [len]; simp; omega) ?_
        repeat (walk_at "st")
        have q' := q _ (Same.refl H)
        rw [winB_len hl] at q'
        exact q'
    | _ =>
      refine i_tt (by rfl) ?_
      repeat (walk_at "st")
      exact q _ (Same.refl _)

end
end KX

namespace KX
open PySem PySem.Spec PyProof.Rows L2

local macro_rules | `(tactic| walk_at "kp") => `(tactic| first
  | with_reducible exact Kp.refl
  | with_reducible exact Kp.thenS (by assumption) (by walk_at "kp")
  | with_reducible exact Kp.thenO (by assumption) (by walk_at "ne") (by walk_at "kp")
  | fail)
local macro_rules | `(tactic| walk_at "hq") => `(tactic| first
  | assumption
  | with_reducible exact Kp.get (by assumption) (by walk_at "kp")
  | fail)
local macro_rules | `(tactic| walk_at "hg") => `(tactic| first
  | walk_at "hq"
  | exact upd_same
  | with_reducible exact (upd_ne (by walk_at "ne")).trans (by walk_at "hg")
  | with_reducible exact Same.get (by assumption) (by walk_at "hg")
  | with_reducible exact Off.get (by assumption) (by walk_at "ne") (by walk_at "hg")
  | fail)
local macro_rules | `(tactic| walk_at "ne") => `(tactic| first
  | assumption
  | (apply Ne.symm; assumption)
  | exact Rok.ne' (by assumption) (by walk_at "rok")
  | exact (Rok.ne' (by assumption) (by walk_at "rok")).symm
  | exact ne_some (by assumption) (by walk_at "hg")
  | exact (ne_some (by assumption) (by walk_at "hg")).symm
  | fail)
local macro_rules | `(tactic| walk_at "rok") => `(tactic| first
  | assumption
  | with_reducible exact Rok.kp (by assumption) (by walk_at "kp")
  | with_reducible exact Rok.same (by assumption) (by walk_at "rok")
  | fail)
local macro_rules | `(tactic| walk_at "sq") => `(tactic| first
  | assumption
  | exact Same.seq (by assumption) (by assumption)
  | (with_reducible show SqL _ _ _ _; with_reducible exact SqL.of (by walk_at "hg"))
  | (with_reducible show SqT _ _ _ _; with_reducible exact SqT.of (by walk_at "hg"))
  | fail)
local macro_rules | `(tactic| walk_at "dac") => `(tactic| first
  | assumption
  | exact DaF.same (by assumption) (by walk_at "dac")
  | fail)
local macro_rules | `(tactic| walk_at "da") => `(tactic| first
  | exact (DaF.non : DaS _ _ _ _)
  | exact (DaF.bl _ : DaS _ _ _ _)
  | exact (DaF.int _ : DaS _ _ _ _)
  | exact (DaF.str _ : DaS _ _ _ _)
  | exact DaF.non
  | exact DaF.bl _
  | exact DaF.int _
  | exact DaF.str _
  | walk_at "dac"
  | with_reducible exact DaF.lst (SqL.of (by walk_at "hq")) (fun _ => by assumption) (by walk_at "das")
  | with_reducible exact Da.lst (SqL.of (by walk_at "hq")) (by walk_at "das")
  | with_reducible exact DaF.tup (SqT.of (by walk_at "hq")) (by walk_at "das")
  | with_reducible exact DaF.dic (Rd.of (by walk_at "hq")) (by walk_at "dak")
  | fail)
local macro_rules | `(tactic| walk_at "das") => `(tactic| first
  | assumption
  | exact DaAllF.nil
  | exact DaAllF.cons (by walk_at "da") (by walk_at "das")
  | fail)
local macro_rules | `(tactic| walk_at "dak") => `(tactic| first
  | assumption
  | exact DaKvF.nil
  | exact DaKvF.cons (by walk_at "da") (by walk_at "dak")
  | fail)
local macro_rules | `(tactic| walk_at "shw") => `(tactic| first
  | assumption
  | exact shw_b2 _ _
  | exact ⟨by decide +kernel, by decide +kernel, by decide +kernel⟩
  | fail)
local macro_rules | `(tactic| walk_at "nod") => `(tactic| first
  | exact .inl rfl
  | exact .inr rfl
  | assumption
  | exact .inr (by assumption)
  | fail)
local macro_rules | `(tactic| walk_at "okd") => `(tactic| first
  | assumption
  | exact okd_of (by decide +kernel)
  | fail)
local macro_rules | `(tactic| walk_at "off") => `(tactic| first
  | assumption
  | exact Off.refl _ _
  | exact Same.refl _
  | with_reducible exact Same.thenS (by assumption) (by walk_at "off")
  | with_reducible exact Off.thenS (by assumption) (by walk_at "off")
  | with_reducible exact Off.thenO (by assumption) (by walk_at "off")
  | with_reducible exact Same.thenF (by assumption) (by assumption) (by walk_at "off") (by walk_at "off")
  | with_reducible exact Off.thenF (by assumption) (by assumption) (by walk_at "off") (by walk_at "off")
  | fail)
local macro_rules | `(tactic| walk_at "side") => `(tactic| first
  | assumption
  | omega
  | decide
  | (simp only [List.length_append, List.length_cons, List.length_nil]; decide)
  | exact ⟨by omega, by omega⟩
  | exact ⟨by omega, PyProof.noPylong_of_log2 (by first | assumption | decide)⟩
  | exact .inl ⟨by omega, by omega⟩
  | exact .inr ⟨by omega, by omega⟩
  | exact ⟨by decide, by decide, by decide⟩
  | exact ⟨by decide, by decide, by omega⟩
  | fail)
local macro_rules | `(tactic| walk_at "st") => `(tactic| first
  | with_reducible refine i_seq ?_
  | with_reducible refine i_bi ?_
  | with_reducible refine i_raise ?_
  | with_reducible refine i_callX ?_
  | with_reducible refine i_tryN ?_
  | with_reducible refine i_isNon ?_
  | with_reducible refine i_isNotNon ?_
  | ((with_reducible refine' i_split ?h ?z ?_); (case h => rfl); (case z => walk_at "side"))
  | with_reducible refine i_find ?_
  | ((with_reducible refine i_strI ?h ?_); (case h => walk_at "side"))
  | with_reducible refine i_fmt ?_
  | ((with_reducible refine i_fmS ?h ?_); (case h => walk_at "side"))
  | ((with_reducible refine i_fmI ?h ?_); (case h => walk_at "side"))
  | with_reducible refine i_jn ?_
  | with_reducible refine i_js0 ?_
  | with_reducible refine i_js1 ?_
  | ((with_reducible refine i_jsR ?h ?_); (case h => walk_at "side"))
  | with_reducible refine i_revS ?_
  | ((with_reducible refine i_exrev ?h ?_); (case h => walk_at "side"))
  | with_reducible refine i_revL ?_
  | ((with_reducible refine' i_exrevL ?h ?_); (case h => walk_at "sq"))
  | with_reducible refine i_par3 ?_
  | with_reducible refine i_ex3 ?_
  | with_reducible refine i_stB ?_
  | with_reducible refine i_mk0 ?_
  | with_reducible refine i_asg ?_
  | with_reducible refine i_c ?_
  | ((with_reducible refine' i_var ?h ?_); (case h => rfl))
  | with_reducible refine i_op ?_
  | with_reducible refine i_cons ?_
  | with_reducible refine i_nil ?_
  | ((with_reducible refine' i_gName ?h ?_); (case h => rfl))
  | with_reducible refine i_rI0 ?_
  | ((with_reducible refine i_rI ?h ?_); (case h => walk_at "side"))
  | with_reducible refine i_test ?_
  | with_reducible refine i_exbl ?_
  | with_reducible refine i_exint ?_
  | with_reducible refine i_exs ?_
  | with_reducible refine i_ret ?_
  | with_reducible refine i_next ?_
  | with_reducible refine i_ifS ?_
  | ((with_reducible refine' i_rIxL ?h ?e ?_); (case h => walk_at "sq"); (case e => first | assumption | rfl))
  | ((with_reducible refine' i_rIxT ?h ?e ?_); (case h => walk_at "sq"); (case e => first | assumption | rfl))
  | ((with_reducible refine' i_rIxS ?h ?e ?_); (case h => walk_at "side"); (case e => first | assumption | rfl))
  | with_reducible refine i_un ?_
  | with_reducible refine i_rU ?_
  | ((with_reducible refine i_rEqSame ?h ?_); (case h => rfl))
  | ((with_reducible refine i_rNeSame ?h ?_); (case h => rfl))
  | ((with_reducible refine i_rEq ?h ?_); (case h => rfl))
  | ((with_reducible refine i_rNe ?h ?_); (case h => rfl))
  | with_reducible refine i_tB ?_
  | with_reducible refine i_and ?_
  | with_reducible refine i_or ?_
  | with_reducible refine i_not ?_
  | with_reducible refine i_andV ?_
  | with_reducible refine i_orV ?_
  | with_reducible refine i_notV ?_
  | with_reducible refine i_if ?_
  | with_reducible refine i_chain ?_
  | with_reducible refine i_drop ?_
  | with_reducible refine i_retN ?_
  | with_reducible refine i_par ?_
  | with_reducible refine i_ex2 ?_
  | ((with_reducible refine' i_aug ?h ?_); (case h => rfl))
  | with_reducible refine i_gNil ?_
  | with_reducible refine i_gCons ?_
  | ((with_reducible refine' i_gTup ?h ?e ?_); (case h => walk_at "sq"); (case e => rfl))
  | with_reducible refine i_gSub ?_
  | ((with_reducible refine' i_rSetL ?h ?e ?_); (case h => walk_at "hg"); (case e => first | assumption | rfl))
  | with_reducible refine i_tup ?_
  | with_reducible refine i_lst ?_
  | with_reducible refine i_lstN ?_
  | with_reducible refine i_newDK ?_
  | with_reducible refine i_disp ?_
  | with_reducible refine i_pairs0 ?_
  | with_reducible refine i_pairs1 ?_
  | with_reducible refine i_call ?_
  | with_reducible refine i_cb ?_
  | with_reducible refine i_bm ?_
  | with_reducible refine i_m1 ?_
  | with_reducible refine i_m0 ?_
  | ((with_reducible refine' i_rAppend ?h ?e ?_); (case h => walk_at "hg"); (case e => walk_at "side"))
  | ((with_reducible refine i_rSlS ?h ?_); (case h => walk_at "side"))
  | ((with_reducible refine' i_rSlL ?h ?_); (case h => walk_at "sq"))
  | with_reducible refine i_sl ?_
  | with_reducible refine i_noPart ?_
  | with_reducible refine i_part ?_
  | with_reducible refine i_rng1 ?_
  | with_reducible refine i_iList ?_
  | with_reducible refine i_iStr ?_
  | with_reducible refine i_iEnum ?_
  | with_reducible refine i_iZip ?_
  | with_reducible refine i_ez ?_
  | ((with_reducible refine' i_exen ?h ?_); (case h => walk_at "sq"))
  | ((with_reducible refine' i_exz ?h ?k ?_); (case h => walk_at "sq"); (case k => walk_at "sq"))
  | ((with_reducible refine' i_listN ?h ?_); (case h => walk_at "sq"))
  | with_reducible refine i_intB ?_
  | ((with_reducible refine' i_listTN ?h ?_); (case h => walk_at "sq"))
  | with_reducible refine i_revT ?_
  | ((with_reducible refine' i_exrevT ?h ?_); (case h => walk_at "sq"))
  | ((with_reducible refine' i_catA ?h ?k ?a ?b ?z ?_); (case h => walk_at "sq"); (case k => walk_at "sq"); (case a => simp); (case b => simp); (case z => walk_at "side"))
  | ((with_reducible refine' i_slTA ?h ?k ?_); (case h => walk_at "sq"); (case k => simp only [List.length_cons, List.length_nil]; decide))
  | ((with_reducible refine' i_countF ?h ?k ?a ?_); (case h => walk_at "sq"); (case k => rfl); (case a => rfl))
  | with_reducible refine i_iTup ?_
  | ((with_reducible refine' i_exlT ?h ?_); (case h => walk_at "sq"))
  | ((with_reducible refine' i_rCatN ?h ?e ?z ?_); (case h => walk_at "hg"); (case e => walk_at "hg"); (case z => walk_at "side"))
  | with_reducible refine i_tryC ?_
  | ((with_reducible refine' i_tupL ?h ?_); (case h => walk_at "sq"))
  | ((with_reducible refine' i_neNil ?h ?k ?_); (case h => walk_at "sq"); (case k => walk_at "sq"))
  | ((with_reducible refine' i_eqNil ?h ?k ?_); (case h => walk_at "sq"); (case k => walk_at "sq"))
  | ((with_reducible refine' i_reprE ?h ?e ?_); (case h => walk_at "da"); (case e => walk_at "shw"))
  | ((with_reducible refine' i_tyL ?h ?_); (case h => walk_at "sq"))
  | with_reducible refine i_isBl ?_
  | ((with_reducible refine i_callW ?_))
  | ((with_reducible refine i_exrng ?h1 ?h2 ?_); (case h1 => walk_at "side"); (case h2 => walk_at "side"))
  | ((with_reducible refine' i_exl ?h ?_); (case h => walk_at "sq"))
  | with_reducible refine i_for ?_
  | with_reducible refine i_lc ?_
  | with_reducible refine i_yes ?_
  | with_reducible refine i_iteT ?_
  | with_reducible refine i_iteF ?_
  | ((with_reducible refine i_divmod ?h ?_); (case h => walk_at "side"))
  | ((with_reducible refine' i_isi ?h ?e ?_); (case h => walk_at "da"); (case e => decide))
  | ((with_reducible refine i_lenS ?h ?_); (case h => walk_at "side"))
  | ((with_reducible refine' i_lenL ?h ?_); (case h => walk_at "sq"))
  | ((with_reducible refine' i_lenT ?h ?_); (case h => walk_at "sq"))
  | ((with_reducible refine' i_repr ?h ?n ?e ?_); (case h => walk_at "da"); (case n => walk_at "nod"); (case e => walk_at "shw"))
  | ((with_reducible refine' i_rCat ?h ?e ?z ?_); (case h => walk_at "hg"); (case e => walk_at "hg"); (case z => walk_at "side"))
  | ((with_reducible refine i_rCatS ?h ?_); (case h => walk_at "side"))
  | with_reducible refine i_exstr ?_
  | ((with_reducible refine' i_join ?h ?z ?_); (case h => walk_at "sq"); (case z => walk_at "side"))
  | with_reducible refine i_abs ?_
  | with_reducible refine i_max ?_
  | with_reducible refine i_min ?_
  | ((with_reducible refine' i_rAll ?h ?_); (case h => walk_at "sq"))
  | ((with_reducible refine' i_lcEl ?h ?e ?_); (case h => walk_at "hg"); (case e => walk_at "side"))
  | with_reducible refine ⟨_, _, rfl, rfl, ?_⟩
  | with_reducible refine ⟨_, _, rfl, ?_⟩
  | with_reducible refine ⟨_, rfl, ?_⟩
  | with_reducible refine And.intro rfl ?_
  | ((with_reducible refine And.intro ?h ?_); (case h => walk_at "side"))
  | fail)

section
variable {P : Program} {w : World} {K : PySem.W.Frag} {mg : Str → Option Value} {base : Heap} {A : Ad}
/-! ### odd values -/
def odd1 : List PyData := [.tuple [.int 0, .int 0], .tuple [.int 1, .int 3], .tuple [.int 2, .none], .tuple [.int 3, .int 1], .tuple [.bool true, .int 2], .tuple [.int 0, .bool true], .tuple [.int 0, .bool false], .tuple [.int (-1), .int 2], .tuple [.int 0], .tuple [.int 0, .int 1, .int 2], .list [.int 0, .int 1], .none]
def odd2 : List PyData := [.tuple [.none, .none], .tuple [.none, .int 1], .tuple [.str "0", .int 1], .tuple [.int 0, .str "1"], .int 0, .bool true, .str "", .str "0..1", .tuple [], .list [], .dict [], .dict [(.int 0, .int 1)], .tuple [.tuple [.int 0, .int 1]]]
def odd3 : List PyData := [.tuple [.int (10 ^ Int.toNat 59), .none], .tuple [.int 0, .int (10 ^ Int.toNat 59)], .tuple [.int 5, .int 5], .tuple [.int 2, .int 4], .tuple [.int 0, .int 2], .tuple [.int 1, .int 2], .tuple [.int 4, .none]]
/-- a window among them has small bounds -/
def lowW (d : PyData) : Bool := match winP d with
  | none => true
  | some w => decide (w.1 < 10 ^ 60) && (match w.2 with | none => true | some h => decide (h < 10 ^ 60))
def oddOk (d : PyData) : Bool := shcB d 100 3 && lowW d
theorem odd_all : (odd1 ++ (odd2 ++ odd3)).all oddOk = true := by decide +kernel
def Odd16 (d : PyData) : Prop := Shc d 100 3 ∧ ∀ w, winP d = some w → w.1 < 10 ^ 60 ∧ ∀ h, w.2 = some h → h < 10 ^ 60
theorem odd16_of {d : PyData} (h : oddOk d = true) : Odd16 d := by
  unfold oddOk at h
  rw [Bool.and_eq_true] at h
  refine ⟨shc_of h.1, fun w hw => ?_⟩
  have h2 := h.2
  unfold lowW at h2
  rw [hw] at h2
  dsimp only at h2
  rw [Bool.and_eq_true] at h2
  refine ⟨of_decide_eq_true h2.1, fun k hk => ?_⟩
  have h3 := h2.2
  rw [hk] at h3
  exact of_decide_eq_true h3
def sp_l_odd (K : PySem.W.Frag) : Sp := fun vs H Q _ => ∃ r, vs = [.ref r] ∧ Rok H r ∧ ∀ v d H', DaS K (newP H H') v d → Odd16 d → Rok H' r → Off r H H' → Q v H'
theorem ok_l_odd (T : Txt K mg A) (G_l_choice : Fg P w K mg base CX0 2 A.f_l_choice A.d_l_choice ["_law_rng_here", "_law_options"] sp_l_choice) : Fg P w K mg base CX0 3 A.f_l_odd A.d_l_odd ["_law_rng_here"] (sp_l_odd K) := by
  refine ok_g T.F_l_odd sc_l_odd (fun vs H Q E h => ?_) (fun cdv Ar outer s H vs Q E hr h => ?_)
  · obtain ⟨_, rfl, _⟩ := h; rfl
  · obtain ⟨r, rfl, hR, q⟩ := h
    refine ⟨_, (pss_cons (ps_set (i := 1) sc_l_odd.nd rfl (.inl rfl) (pe_litL (LitAll.cons (Lit.tup (LitAll.cons Lit.int (LitAll.cons Lit.int LitAll.nil)) (by decide)) (LitAll.cons (Lit.tup (LitAll.cons Lit.int (LitAll.cons Lit.int LitAll.nil)) (by decide)) (LitAll.cons (Lit.tup (LitAll.cons Lit.int (LitAll.cons Lit.non LitAll.nil)) (by decide)) (LitAll.cons (Lit.tup (LitAll.cons Lit.int (LitAll.cons Lit.int LitAll.nil)) (by decide)) (LitAll.cons (Lit.tup (LitAll.cons Lit.bl (LitAll.cons Lit.int LitAll.nil)) (by decide)) (LitAll.cons (Lit.tup (LitAll.cons Lit.int (LitAll.cons Lit.bl LitAll.nil)) (by decide)) (LitAll.cons (Lit.tup (LitAll.cons Lit.int (LitAll.cons Lit.bl LitAll.nil)) (by decide)) (LitAll.cons (Lit.tup (LitAll.cons Lit.neg (LitAll.cons Lit.int LitAll.nil)) (by decide)) (LitAll.cons (Lit.tup (LitAll.cons Lit.int LitAll.nil) (by decide)) (LitAll.cons (Lit.tup (LitAll.cons Lit.int (LitAll.cons Lit.int (LitAll.cons Lit.int LitAll.nil))) (by decide)) (LitAll.cons (Lit.lst (LitAll.cons Lit.int (LitAll.cons Lit.int LitAll.nil)) (by decide)) (LitAll.cons Lit.non LitAll.nil)))))))))))) (by decide)))
(pss_cons (ps_set (i := 1) sc_l_odd.nd rfl (.inl rfl) (pe_op op_cat (pv 1) (pe_litL (LitAll.cons (Lit.tup (LitAll.cons Lit.non (LitAll.cons Lit.non LitAll.nil)) (by decide)) (LitAll.cons (Lit.tup (LitAll.cons Lit.non (LitAll.cons Lit.int LitAll.nil)) (by decide)) (LitAll.cons (Lit.tup (LitAll.cons Lit.str (LitAll.cons Lit.int LitAll.nil)) (by decide)) (LitAll.cons (Lit.tup (LitAll.cons Lit.int (LitAll.cons Lit.str LitAll.nil)) (by decide)) (LitAll.cons Lit.int (LitAll.cons Lit.bl (LitAll.cons Lit.str (LitAll.cons Lit.str (LitAll.cons (Lit.tup LitAll.nil (by decide)) (LitAll.cons (Lit.lst LitAll.nil (by decide)) (LitAll.cons Lit.dic0 (LitAll.cons (Lit.dicI Lit.int) (LitAll.cons (Lit.tup (LitAll.cons (Lit.tup (LitAll.cons Lit.int (LitAll.cons Lit.int LitAll.nil)) (by decide)) LitAll.nil) (by decide)) LitAll.nil))))))))))))) (by decide))))
(pss_one (ps_ret (pe_call G_l_choice (hr.mono (by decide)) (by rfl) T.g_l_choice T.F_l_choice.kp T.b_l_choice .nil pass0 (pa_cons (pv 0) (pa_cons (pe_op op_cat (pv 1) (pe_litL (LitAll.cons (Lit.tup (LitAll.cons (Lit.pow Lit.int Lit.int (by decide) (by decide) (by decide)) (LitAll.cons Lit.non LitAll.nil)) (by decide)) (LitAll.cons (Lit.tup (LitAll.cons Lit.int (LitAll.cons (Lit.pow Lit.int Lit.int (by decide) (by decide) (by decide)) LitAll.nil)) (by decide)) (LitAll.cons (Lit.tup (LitAll.cons Lit.int (LitAll.cons Lit.int LitAll.nil)) (by decide)) (LitAll.cons (Lit.tup (LitAll.cons Lit.int (LitAll.cons Lit.int LitAll.nil)) (by decide)) (LitAll.cons (Lit.tup (LitAll.cons Lit.int (LitAll.cons Lit.int LitAll.nil)) (by decide)) (LitAll.cons (Lit.tup (LitAll.cons Lit.int (LitAll.cons Lit.int LitAll.nil)) (by decide)) (LitAll.cons (Lit.tup (LitAll.cons Lit.int (LitAll.cons Lit.non LitAll.nil)) (by decide)) LitAll.nil))))))) (by decide))) pa_nil))))))), ?_⟩
    repeat (walk_at "st")
    refine i_litL fun p1 xs1 G1 n1 z1 s1 e1 d1 => ?_
    repeat (walk_at "st")
    refine i_litL fun p2 xs2 G2 n2 z2 s2 e2 d2 => ?_
    repeat (walk_at "st")
    have l1 : xs1.length = 12 := d1.len
    have l2 : xs2.length = 13 := d2.len
    have e1' := s2 _ _ e1
    have hz : xs1.length + xs2.length ≤ sizeLine := by rw [sizeLine_eq]; omega
    repeat (walk_at "st")
    refine i_new fun p3 G3 n3 s3 e3 => ?_
    repeat (walk_at "st")
    refine i_litL fun p4 xs4 G4 n4 z4 s4 e4 d4 => ?_
    repeat (walk_at "st")
    have l4 : xs4.length = 7 := d4.len
    have e3' := s4 _ _ e3
    have hz2 : (xs1 ++ xs2).length + xs4.length ≤ sizeLine := by rw [sizeLine_eq, List.length_append]; omega
    repeat (walk_at "st")
    refine i_new fun p5 G5 n5 s5 e5 => ?_
    repeat (walk_at "st")
    obtain ⟨a, b, hr0, hb⟩ := hR
    have s15 := s1.trans (s2.trans (s3.trans (s4.trans s5)))
    have hne : p5 ≠ r := fun z => by rw [← z] at hr0; have := (s1.trans (s2.trans (s3.trans s4))) _ _ hr0; rw [n5] at this; cases this
    refine ⟨r, ⟨a, b, s15 _ _ hr0, hb⟩, .inl ⟨_, _, rfl, e5, hne, by rw [List.length_append, List.length_append]; omega, by rw [List.length_append, List.length_append]; omega, fun v G6 hv r6 o6 => ?_⟩⟩
    have dd := (d1.same (newP_mono (s2.trans (s3.trans (s4.trans s5))))).app ((d2.same ((newP_mono (s3.trans (s4.trans s5))).trans (newP_back s1))).app (d4.same ((newP_mono s5).trans (newP_back (s1.trans (s2.trans s3))))))
    rw [List.append_assoc] at hv
    obtain ⟨d, hd, hda⟩ := dd.mem v hv
    exact q v d _ (hda.same (newP_off hr0 o6)) (odd16_of (List.all_eq_true.mp odd_all d hd)) r6 (by walk_at "off")
def sp_l_top (K : PySem.W.Frag) : Sp := fun vs H Q _ => ∃ v w, vs = [v] ∧ Da K H v (winD w) ∧ ∀ H', Same H H' → Q (.int (topW w)) H'
theorem ok_l_top (T : Txt K mg A) : Fg P w K mg base CX0 1 A.f_l_top A.d_l_top ["_law_one"] (sp_l_top K) := by
  refine ok_g T.F_l_top sc_l_top (fun vs H Q E h => ?_) (fun cdv Ar outer s H vs Q E hr h => ?_)
  · obtain ⟨_, _, rfl, _⟩ := h; rfl
  · obtain ⟨v, w, rfl, hd, q⟩ := h
    refine ⟨_, (pss_one (ps_ret (pe_ifExp (pt_cmpR op_isNN (pe_ix ix_tup (pv 0) pe_int (fun _ _ => rfl)) pe_non (nomark _)) (pe_op op_pow pe_int pe_int) (pe_ix ix_tup (pv 0) pe_int (fun _ _ => rfl))))), ?_⟩
    have q' := q _ (Same.refl H)
    obtain ⟨a, rfl, hT⟩ := da_win hd
    obtain ⟨l, hi⟩ := w
    cases hi with
    | none =>
      have hT : SqT K H a [.int l, .non] := hT
      repeat (walk_at "st")
      refine i_tt (by rfl) ?_
      repeat (walk_at "st")
      exact q'
    | some k =>
      have hT : SqT K H a [.int l, .int k] := hT
      repeat (walk_at "st")
      refine i_ff (by rfl) ?_
      repeat (walk_at "st")
      exact q'
end
end KX

namespace KX
open PySem PySem.Spec PyProof.Rows L2

local macro_rules | `(tactic| walk_at "kp") => `(tactic| first
  | with_reducible exact Kp.refl
  | with_reducible exact Kp.thenS (by assumption) (by walk_at "kp")
  | with_reducible exact Kp.thenO (by assumption) (by walk_at "ne") (by walk_at "kp")
  | fail)
local macro_rules | `(tactic| walk_at "hq") => `(tactic| first
  | assumption
  | with_reducible exact Kp.get (by assumption) (by walk_at "kp")
  | fail)
local macro_rules | `(tactic| walk_at "hg") => `(tactic| first
  | walk_at "hq"
  | exact upd_same
  | with_reducible exact (upd_ne (by walk_at "ne")).trans (by walk_at "hg")
  | with_reducible exact Same.get (by assumption) (by walk_at "hg")
  | with_reducible exact Off.get (by assumption) (by walk_at "ne") (by walk_at "hg")
  | fail)
local macro_rules | `(tactic| walk_at "ne") => `(tactic| first
  | assumption
  | (apply Ne.symm; assumption)
  | exact Rok.ne' (by assumption) (by walk_at "rok")
  | exact (Rok.ne' (by assumption) (by walk_at "rok")).symm
  | exact ne_some (by assumption) (by walk_at "hg")
  | exact (ne_some (by assumption) (by walk_at "hg")).symm
  | fail)
local macro_rules | `(tactic| walk_at "rok") => `(tactic| first
  | assumption
  | with_reducible exact Rok.kp (by assumption) (by walk_at "kp")
  | with_reducible exact Rok.same (by assumption) (by walk_at "rok")
  | fail)
local macro_rules | `(tactic| walk_at "sq") => `(tactic| first
  | assumption
  | exact Same.seq (by assumption) (by assumption)
  | (with_reducible show SqL _ _ _ _; with_reducible exact SqL.of (by walk_at "hg"))
  | (with_reducible show SqT _ _ _ _; with_reducible exact SqT.of (by walk_at "hg"))
  | fail)
local macro_rules | `(tactic| walk_at "dac") => `(tactic| first
  | assumption
  | exact DaF.same (by assumption) (by walk_at "dac")
  | fail)
local macro_rules | `(tactic| walk_at "da") => `(tactic| first
  | exact (DaF.non : DaS _ _ _ _)
  | exact (DaF.bl _ : DaS _ _ _ _)
  | exact (DaF.int _ : DaS _ _ _ _)
  | exact (DaF.str _ : DaS _ _ _ _)
  | exact DaF.non
  | exact DaF.bl _
  | exact DaF.int _
  | exact DaF.str _
  | walk_at "dac"
  | with_reducible exact DaF.lst (SqL.of (by walk_at "hq")) (fun _ => by assumption) (by walk_at "das")
  | with_reducible exact Da.lst (SqL.of (by walk_at "hq")) (by walk_at "das")
  | with_reducible exact DaF.tup (SqT.of (by walk_at "hq")) (by walk_at "das")
  | with_reducible exact DaF.dic (Rd.of (by walk_at "hq")) (by walk_at "dak")
  | fail)
local macro_rules | `(tactic| walk_at "das") => `(tactic| first
  | assumption
  | exact DaAllF.nil
  | exact DaAllF.cons (by walk_at "da") (by walk_at "das")
  | fail)
local macro_rules | `(tactic| walk_at "dak") => `(tactic| first
  | assumption
  | exact DaKvF.nil
  | exact DaKvF.cons (by walk_at "da") (by walk_at "dak")
  | fail)
local macro_rules | `(tactic| walk_at "shw") => `(tactic| first
  | assumption
  | exact shw_b2 _ _
  | exact ⟨by decide +kernel, by decide +kernel, by decide +kernel⟩
  | fail)
local macro_rules | `(tactic| walk_at "nod") => `(tactic| first
  | exact .inl rfl
  | exact .inr rfl
  | assumption
  | exact .inr (by assumption)
  | fail)
local macro_rules | `(tactic| walk_at "okd") => `(tactic| first
  | assumption
  | exact okd_of (by decide +kernel)
  | fail)
local macro_rules | `(tactic| walk_at "off") => `(tactic| first
  | assumption
  | exact Off.refl _ _
  | exact Same.refl _
  | with_reducible exact Same.thenS (by assumption) (by walk_at "off")
  | with_reducible exact Off.thenS (by assumption) (by walk_at "off")
  | with_reducible exact Off.thenO (by assumption) (by walk_at "off")
  | with_reducible exact Same.thenF (by assumption) (by assumption) (by walk_at "off") (by walk_at "off")
  | with_reducible exact Off.thenF (by assumption) (by assumption) (by walk_at "off") (by walk_at "off")
  | fail)
local macro_rules | `(tactic| walk_at "side") => `(tactic| first
  | assumption
  | omega
  | decide
  | (simp only [List.length_append, List.length_cons, List.length_nil]; decide)
  | exact ⟨by omega, by omega⟩
  | exact ⟨by omega, PyProof.noPylong_of_log2 (by first | assumption | decide)⟩
  | exact .inl ⟨by omega, by omega⟩
  | exact .inr ⟨by omega, by omega⟩
  | exact ⟨by decide, by decide, by decide⟩
  | exact ⟨by decide, by decide, by omega⟩
  | fail)
local macro_rules | `(tactic| walk_at "st") => `(tactic| first
  | with_reducible refine i_seq ?_
  | with_reducible refine i_bi ?_
  | with_reducible refine i_raise ?_
  | with_reducible refine i_callX ?_
  | with_reducible refine i_tryN ?_
  | with_reducible refine i_isNon ?_
  | with_reducible refine i_isNotNon ?_
  | ((with_reducible refine' i_split ?h ?z ?_); (case h => rfl); (case z => walk_at "side"))
  | with_reducible refine i_find ?_
  | ((with_reducible refine i_strI ?h ?_); (case h => walk_at "side"))
  | with_reducible refine i_fmt ?_
  | ((with_reducible refine i_fmS ?h ?_); (case h => walk_at "side"))
  | ((with_reducible refine i_fmI ?h ?_); (case h => walk_at "side"))
  | with_reducible refine i_jn ?_
  | with_reducible refine i_js0 ?_
  | with_reducible refine i_js1 ?_
  | ((with_reducible refine i_jsR ?h ?_); (case h => walk_at "side"))
  | with_reducible refine i_revS ?_
  | ((with_reducible refine i_exrev ?h ?_); (case h => walk_at "side"))
  | with_reducible refine i_revL ?_
  | ((with_reducible refine' i_exrevL ?h ?_); (case h => walk_at "sq"))
  | with_reducible refine i_par3 ?_
  | with_reducible refine i_ex3 ?_
  | with_reducible refine i_stB ?_
  | with_reducible refine i_mk0 ?_
  | with_reducible refine i_asg ?_
  | with_reducible refine i_c ?_
  | ((with_reducible refine' i_var ?h ?_); (case h => rfl))
  | with_reducible refine i_op ?_
  | with_reducible refine i_cons ?_
  | with_reducible refine i_nil ?_
  | ((with_reducible refine' i_gName ?h ?_); (case h => rfl))
  | with_reducible refine i_rI0 ?_
  | ((with_reducible refine i_rI ?h ?_); (case h => walk_at "side"))
  | with_reducible refine i_test ?_
  | with_reducible refine i_exbl ?_
  | with_reducible refine i_exint ?_
  | with_reducible refine i_exs ?_
  | with_reducible refine i_ret ?_
  | with_reducible refine i_next ?_
  | with_reducible refine i_ifS ?_
  | ((with_reducible refine' i_rIxL ?h ?e ?_); (case h => walk_at "sq"); (case e => first | assumption | rfl))
  | ((with_reducible refine' i_rIxT ?h ?e ?_); (case h => walk_at "sq"); (case e => first | assumption | rfl))
  | ((with_reducible refine' i_rIxS ?h ?e ?_); (case h => walk_at "side"); (case e => first | assumption | rfl))
  | with_reducible refine i_un ?_
  | with_reducible refine i_rU ?_
  | ((with_reducible refine i_rEqSame ?h ?_); (case h => rfl))
  | ((with_reducible refine i_rNeSame ?h ?_); (case h => rfl))
  | ((with_reducible refine i_rEq ?h ?_); (case h => rfl))
  | ((with_reducible refine i_rNe ?h ?_); (case h => rfl))
  | with_reducible refine i_tB ?_
  | with_reducible refine i_and ?_
  | with_reducible refine i_or ?_
  | with_reducible refine i_not ?_
  | with_reducible refine i_andV ?_
  | with_reducible refine i_orV ?_
  | with_reducible refine i_notV ?_
  | with_reducible refine i_if ?_
  | with_reducible refine i_chain ?_
  | with_reducible refine i_drop ?_
  | with_reducible refine i_retN ?_
  | with_reducible refine i_par ?_
  | with_reducible refine i_ex2 ?_
  | ((with_reducible refine' i_aug ?h ?_); (case h => rfl))
  | with_reducible refine i_gNil ?_
  | with_reducible refine i_gCons ?_
  | ((with_reducible refine' i_gTup ?h ?e ?_); (case h => walk_at "sq"); (case e => rfl))
  | with_reducible refine i_gSub ?_
  | ((with_reducible refine' i_rSetL ?h ?e ?_); (case h => walk_at "hg"); (case e => first | assumption | rfl))
  | with_reducible refine i_tup ?_
  | with_reducible refine i_lst ?_
  | with_reducible refine i_lstN ?_
  | with_reducible refine i_newDK ?_
  | with_reducible refine i_disp ?_
  | with_reducible refine i_pairs0 ?_
  | with_reducible refine i_pairs1 ?_
  | with_reducible refine i_call ?_
  | with_reducible refine i_cb ?_
  | with_reducible refine i_bm ?_
  | with_reducible refine i_m1 ?_
  | with_reducible refine i_m0 ?_
  | ((with_reducible refine' i_rAppend ?h ?e ?_); (case h => walk_at "hg"); (case e => walk_at "side"))
  | ((with_reducible refine i_rSlS ?h ?_); (case h => walk_at "side"))
  | ((with_reducible refine' i_rSlL ?h ?_); (case h => walk_at "sq"))
  | with_reducible refine i_sl ?_
  | with_reducible refine i_noPart ?_
  | with_reducible refine i_part ?_
  | with_reducible refine i_rng1 ?_
  | with_reducible refine i_iList ?_
  | with_reducible refine i_iStr ?_
  | with_reducible refine i_iEnum ?_
  | with_reducible refine i_iZip ?_
  | with_reducible refine i_ez ?_
  | ((with_reducible refine' i_exen ?h ?_); (case h => walk_at "sq"))
  | ((with_reducible refine' i_exz ?h ?k ?_); (case h => walk_at "sq"); (case k => walk_at "sq"))
  | ((with_reducible refine' i_listN ?h ?_); (case h => walk_at "sq"))
  | with_reducible refine i_intB ?_
  | ((with_reducible refine' i_listTN ?h ?_); (case h => walk_at "sq"))
  | with_reducible refine i_revT ?_
  | ((with_reducible refine' i_exrevT ?h ?_); (case h => walk_at "sq"))
  | ((with_reducible refine' i_catA ?h ?k ?a ?b ?z ?_); (case h => walk_at "sq"); (case k => walk_at "sq"); (case a => simp); (case b => simp); (case z => walk_at "side"))
  | ((with_reducible refine' i_slTA ?h ?k ?_); (case h => walk_at "sq"); (case k => simp only [List.length_cons, List.length_nil]; decide))
  | ((with_reducible refine' i_countF ?h ?k ?a ?_); (case h => walk_at "sq"); (case k => rfl); (case a => rfl))
  | with_reducible refine i_iTup ?_
  | ((with_reducible refine' i_exlT ?h ?_); (case h => walk_at "sq"))
  | ((with_reducible refine' i_rCatN ?h ?e ?z ?_); (case h => walk_at "hg"); (case e => walk_at "hg"); (case z => walk_at "side"))
  | with_reducible refine i_tryC ?_
  | ((with_reducible refine' i_tupL ?h ?_); (case h => walk_at "sq"))
  | ((with_reducible refine' i_neNil ?h ?k ?_); (case h => walk_at "sq"); (case k => walk_at "sq"))
  | ((with_reducible refine' i_eqNil ?h ?k ?_); (case h => walk_at "sq"); (case k => walk_at "sq"))
  | ((with_reducible refine' i_reprE ?h ?e ?_); (case h => walk_at "da"); (case e => walk_at "shw"))
  | ((with_reducible refine' i_tyL ?h ?_); (case h => walk_at "sq"))
  | with_reducible refine i_isBl ?_
  | ((with_reducible refine i_callW ?_))
  | ((with_reducible refine i_exrng ?h1 ?h2 ?_); (case h1 => walk_at "side"); (case h2 => walk_at "side"))
  | ((with_reducible refine' i_exl ?h ?_); (case h => walk_at "sq"))
  | with_reducible refine i_for ?_
  | with_reducible refine i_lc ?_
  | with_reducible refine i_yes ?_
  | with_reducible refine i_iteT ?_
  | with_reducible refine i_iteF ?_
  | ((with_reducible refine i_divmod ?h ?_); (case h => walk_at "side"))
  | ((with_reducible refine' i_isi ?h ?e ?_); (case h => walk_at "da"); (case e => decide))
  | ((with_reducible refine i_lenS ?h ?_); (case h => walk_at "side"))
  | ((with_reducible refine' i_lenL ?h ?_); (case h => walk_at "sq"))
  | ((with_reducible refine' i_lenT ?h ?_); (case h => walk_at "sq"))
  | ((with_reducible refine' i_repr ?h ?n ?e ?_); (case h => walk_at "da"); (case n => walk_at "nod"); (case e => walk_at "shw"))
  | ((with_reducible refine' i_rCat ?h ?e ?z ?_); (case h => walk_at "hg"); (case e => walk_at "hg"); (case z => walk_at "side"))
  | ((with_reducible refine i_rCatS ?h ?_); (case h => walk_at "side"))
  | with_reducible refine i_exstr ?_
  | ((with_reducible refine' i_join ?h ?z ?_); (case h => walk_at "sq"); (case z => walk_at "side"))
  | with_reducible refine i_abs ?_
  | with_reducible refine i_max ?_
  | with_reducible refine i_min ?_
  | ((with_reducible refine' i_rAll ?h ?_); (case h => walk_at "sq"))
  | ((with_reducible refine' i_lcEl ?h ?e ?_); (case h => walk_at "hg"); (case e => walk_at "side"))
  | with_reducible refine ⟨_, _, rfl, rfl, ?_⟩
  | with_reducible refine ⟨_, _, rfl, ?_⟩
  | with_reducible refine ⟨_, rfl, ?_⟩
  | with_reducible refine And.intro rfl ?_
  | ((with_reducible refine And.intro ?h ?_); (case h => walk_at "side"))
  | fail)

section
variable {P : Program} {w : World} {K : PySem.W.Frag} {mg : Str → Option Value} {base : Heap} {A : Ad}
/-- which class, which word, which field -/
def Word16 (A : Ad) (C : Addr) (n f : Str) : Prop := (C = A.c_InvalidWindow ∧ n = "window" ∧ f = "value") ∨ (C = A.c_InvalidWindows ∧ n = "windows" ∧ f = "position") ∨ (C = A.c_InvalidVersion ∧ n = "version" ∧ f = "value") ∨ (C = A.c_InvalidText ∧ n = "text" ∧ f = "line")
def told1 (n : Str) (d : PyData) : PyData := .list [.str n, d]
/-- what _law_told makes of a call -/
def TTold (K : PySem.W.Frag) (A : Ad) : (XK → Hp → VK → Prop) → Hp → VK → Prop := fun tl H Q => ∀ (E' : XK) (Q' : VK),
  (∀ (C dd : Addr) (n f : Str) (v : V) (pd : PyData) (H1 : Hp), Word16 A C n f → H1 dd = some (.xd [(f, v)]) → DaS K H1 v pd → Shw (told1 n pd) →
    (∀ H2, Same H1 H2 → Q (.str (told1 n pd).shown) H2) → E' (.ref C) (some dd) H1) →
  (∀ (v : V) (pd : PyData) (H1 : Hp), DaS K H1 v pd → Shw (told1 "told" pd) → (∀ H2, Same H1 H2 → Q (.str (told1 "told" pd).shown) H2) → Q' v H1) → tl E' H Q'
theorem da_told {H : Hp} {p : Addr} {n : Str} {v : V} {d : PyData} (z : p ≠ sysModules) (e : H p = some (.lst [.str n, v])) (h : DaS K H v d) : DaS K H (.ref p) (told1 n d) := .lst (SqL.of e) (fun _ => z) (.cons (.str _) (.cons h .nil))
theorem gives_l_told {X : Cx} {A : Ad} (T : Txt X.K X.mg A) : ∀ q : Str, GivesG X ["_law_call", "_law_told_here", "e"] "_law_told" (defScope s_l_told) A.f_l_told (defBody s_l_told) q 8 (TTold X.K A) := by
  intro q cdv a f c' s H Q tl at0 hr act hc h
  have ea : a = "_law_call" := by cases at0; rfl
  subst ea
  refine ⟨_, (pss_cons (ps_set (i := 1) sc_l_told.nd rfl (.inl rfl) pe_non)
(pss_cons (ps_tryC rfl rfl L2.takes0 (fun W1 pn1 xe1 tk1 po1 => (pss_one (ps_set (i := 1) sc_l_told.nd rfl (.inl rfl) (pe_lstN (pa_cons pe_str (pa_cons (act W1 pn1 xe1 _ _ tk1) pa_nil))))))
(.named (i := 2) sc_l_told.nd rfl rfl ⟨rfl, by decide, .inl T.gX_InvalidWindow⟩
(fun a1 oe1 cls1 d1 pn1 hz1 hf1 => (pss_one (ps_set (i := 1) sc_l_told.nd rfl (.inl rfl) (pe_lstN (pa_cons pe_str (pa_cons (pe_xfN (n := "value") hz1 hf1 (pv 2)) pa_nil)))))) (.named (i := 2) sc_l_told.nd rfl rfl ⟨rfl, by decide, .inl T.gX_InvalidWindows⟩
(fun a1 oe1 cls1 d1 pn1 hz1 hf1 => (pss_one (ps_set (i := 1) sc_l_told.nd rfl (.inl rfl) (pe_lstN (pa_cons pe_str (pa_cons (pe_xfN (n := "position") hz1 hf1 (pv 2)) pa_nil)))))) (.named (i := 2) sc_l_told.nd rfl rfl ⟨rfl, by decide, .inl T.gX_InvalidVersion⟩
(fun a1 oe1 cls1 d1 pn1 hz1 hf1 => (pss_one (ps_set (i := 1) sc_l_told.nd rfl (.inl rfl) (pe_lstN (pa_cons pe_str (pa_cons (pe_xfN (n := "value") hz1 hf1 (pv 2)) pa_nil)))))) (.named (i := 2) sc_l_told.nd rfl rfl ⟨rfl, by decide, .inl T.gX_InvalidText⟩
(fun a1 oe1 cls1 d1 pn1 hz1 hf1 => (pss_one (ps_set (i := 1) sc_l_told.nd rfl (.inl rfl) (pe_lstN (pa_cons pe_str (pa_cons (pe_xfN (n := "line") hz1 hf1 (pv 2)) pa_nil)))))) (.bare ⟨rfl, by decide, .inl T.gX_GroupError⟩
(fun a1 oe1 cls1 d1 pn1 hz1 hf1 => (pss_one (ps_set (i := 1) sc_l_told.nd rfl (.inl rfl) (pe_lstN (pa_cons pe_str pa_nil))))) .nil))))))
(pss_one (ps_ret (pe_callB (call_reprN (hr.mono (by decide))) (by rfl) T.m_repr (by decide +kernel) (pa_cons (pv 1) pa_nil)))))), ?_⟩
  repeat (walk_at "st")
  refine i_act rfl (by walk_at "hg") ?_
  refine h _ _ (fun C dd n f v pd H1 hw e hd hs q => ?_) fun v pd H1 hd hs q => ?_
  · rcases hw with ⟨rfl, rfl, rfl⟩ | ⟨rfl, rfl, rfl⟩ | ⟨rfl, rfl, rfl⟩ | ⟨rfl, rfl, rfl⟩
    · refine i_cN (T.EX_InvalidWindow.exm T.EX_InvalidWindow T.su_InvalidWindow_InvalidWindow) fun x hx => ?_
      repeat (walk_at "st")
      refine i_xfV T.EX_InvalidWindow.xf T.nf_InvalidWindow_value rfl (by walk_at "hg") rfl ?_
      repeat (walk_at "st")
      refine i_newN fun p2 G2 n2 z2 s2 e2 => ?_
      have da2 := da_told z2 e2 (hd.same s2)
      dsimp only [endsAs]
      repeat (walk_at "st")
      exact q _ s2
    · refine i_cX (T.EX_InvalidWindows.exm T.EX_InvalidWindow T.su_InvalidWindows_InvalidWindow) ?_
      refine i_cN (T.EX_InvalidWindows.exm T.EX_InvalidWindows T.su_InvalidWindows_InvalidWindows) fun x hx => ?_
      repeat (walk_at "st")
      refine i_xfV T.EX_InvalidWindows.xf T.nf_InvalidWindows_position rfl (by walk_at "hg") rfl ?_
      repeat (walk_at "st")
      refine i_newN fun p2 G2 n2 z2 s2 e2 => ?_
      have da2 := da_told z2 e2 (hd.same s2)
      dsimp only [endsAs]
      repeat (walk_at "st")
      exact q _ s2
    · refine i_cX (T.EX_InvalidVersion.exm T.EX_InvalidWindow T.su_InvalidVersion_InvalidWindow) ?_
      refine i_cX (T.EX_InvalidVersion.exm T.EX_InvalidWindows T.su_InvalidVersion_InvalidWindows) ?_
      refine i_cN (T.EX_InvalidVersion.exm T.EX_InvalidVersion T.su_InvalidVersion_InvalidVersion) fun x hx => ?_
      repeat (walk_at "st")
      refine i_xfV T.EX_InvalidVersion.xf T.nf_InvalidVersion_value rfl (by walk_at "hg") rfl ?_
      repeat (walk_at "st")
      refine i_newN fun p2 G2 n2 z2 s2 e2 => ?_
      have da2 := da_told z2 e2 (hd.same s2)
      dsimp only [endsAs]
      repeat (walk_at "st")
      exact q _ s2
    · refine i_cX (T.EX_InvalidText.exm T.EX_InvalidWindow T.su_InvalidText_InvalidWindow) ?_
      refine i_cX (T.EX_InvalidText.exm T.EX_InvalidWindows T.su_InvalidText_InvalidWindows) ?_
      refine i_cX (T.EX_InvalidText.exm T.EX_InvalidVersion T.su_InvalidText_InvalidVersion) ?_
      refine i_cN (T.EX_InvalidText.exm T.EX_InvalidText T.su_InvalidText_InvalidText) fun x hx => ?_
      repeat (walk_at "st")
      refine i_xfV T.EX_InvalidText.xf T.nf_InvalidText_line rfl (by walk_at "hg") rfl ?_
      repeat (walk_at "st")
      refine i_newN fun p2 G2 n2 z2 s2 e2 => ?_
      have da2 := da_told z2 e2 (hd.same s2)
      dsimp only [endsAs]
      repeat (walk_at "st")
      exact q _ s2
  · repeat (walk_at "st")
    refine i_newN fun p2 G2 n2 z2 s2 e2 => ?_
    have da2 := da_told z2 e2 (hd.same s2)
    repeat (walk_at "st")
    exact q _ s2
end
end KX

namespace KX
open PySem PySem.Spec PyProof.Rows L2

local macro_rules | `(tactic| walk_at "kp") => `(tactic| first
  | with_reducible exact Kp.refl
  | with_reducible exact Kp.thenS (by assumption) (by walk_at "kp")
  | with_reducible exact Kp.thenO (by assumption) (by walk_at "ne") (by walk_at "kp")
  | fail)
local macro_rules | `(tactic| walk_at "hq") => `(tactic| first
  | assumption
  | with_reducible exact Kp.get (by assumption) (by walk_at "kp")
  | fail)
local macro_rules | `(tactic| walk_at "hg") => `(tactic| first
  | walk_at "hq"
  | exact upd_same
  | with_reducible exact (upd_ne (by walk_at "ne")).trans (by walk_at "hg")
  | with_reducible exact Same.get (by assumption) (by walk_at "hg")
  | with_reducible exact Off.get (by assumption) (by walk_at "ne") (by walk_at "hg")
  | fail)
local macro_rules | `(tactic| walk_at "ne") => `(tactic| first
  | assumption
  | (apply Ne.symm; assumption)
  | exact Rok.ne' (by assumption) (by walk_at "rok")
  | exact (Rok.ne' (by assumption) (by walk_at "rok")).symm
  | exact ne_some (by assumption) (by walk_at "hg")
  | exact (ne_some (by assumption) (by walk_at "hg")).symm
  | fail)
local macro_rules | `(tactic| walk_at "rok") => `(tactic| first
  | assumption
  | with_reducible exact Rok.kp (by assumption) (by walk_at "kp")
  | with_reducible exact Rok.same (by assumption) (by walk_at "rok")
  | fail)
local macro_rules | `(tactic| walk_at "sq") => `(tactic| first
  | assumption
  | exact Same.seq (by assumption) (by assumption)
  | (with_reducible show SqL _ _ _ _; with_reducible exact SqL.of (by walk_at "hg"))
  | (with_reducible show SqT _ _ _ _; with_reducible exact SqT.of (by walk_at "hg"))
  | fail)
local macro_rules | `(tactic| walk_at "dac") => `(tactic| first
  | assumption
  | exact DaF.same (by assumption) (by walk_at "dac")
  | fail)
local macro_rules | `(tactic| walk_at "da") => `(tactic| first
  | exact (DaF.non : DaS _ _ _ _)
  | exact (DaF.bl _ : DaS _ _ _ _)
  | exact (DaF.int _ : DaS _ _ _ _)
  | exact (DaF.str _ : DaS _ _ _ _)
  | exact DaF.non
  | exact DaF.bl _
  | exact DaF.int _
  | exact DaF.str _
  | walk_at "dac"
  | with_reducible exact DaF.lst (SqL.of (by walk_at "hq")) (fun _ => by assumption) (by walk_at "das")
  | with_reducible exact Da.lst (SqL.of (by walk_at "hq")) (by walk_at "das")
  | with_reducible exact DaF.tup (SqT.of (by walk_at "hq")) (by walk_at "das")
  | with_reducible exact DaF.dic (Rd.of (by walk_at "hq")) (by walk_at "dak")
  | fail)
local macro_rules | `(tactic| walk_at "das") => `(tactic| first
  | assumption
  | exact DaAllF.nil
  | exact DaAllF.cons (by walk_at "da") (by walk_at "das")
  | fail)
local macro_rules | `(tactic| walk_at "dak") => `(tactic| first
  | assumption
  | exact DaKvF.nil
  | exact DaKvF.cons (by walk_at "da") (by walk_at "dak")
  | fail)
local macro_rules | `(tactic| walk_at "shw") => `(tactic| first
  | assumption
  | exact shw_b2 _ _
  | exact ⟨by decide +kernel, by decide +kernel, by decide +kernel⟩
  | fail)
local macro_rules | `(tactic| walk_at "nod") => `(tactic| first
  | exact .inl rfl
  | exact .inr rfl
  | assumption
  | exact .inr (by assumption)
  | fail)
local macro_rules | `(tactic| walk_at "okd") => `(tactic| first
  | assumption
  | exact okd_of (by decide +kernel)
  | fail)
local macro_rules | `(tactic| walk_at "off") => `(tactic| first
  | assumption
  | exact Off.refl _ _
  | exact Same.refl _
  | with_reducible exact Same.thenS (by assumption) (by walk_at "off")
  | with_reducible exact Off.thenS (by assumption) (by walk_at "off")
  | with_reducible exact Off.thenO (by assumption) (by walk_at "off")
  | with_reducible exact Same.thenF (by assumption) (by assumption) (by walk_at "off") (by walk_at "off")
  | with_reducible exact Off.thenF (by assumption) (by assumption) (by walk_at "off") (by walk_at "off")
  | fail)
local macro_rules | `(tactic| walk_at "side") => `(tactic| first
  | assumption
  | omega
  | decide
  | (simp only [List.length_append, List.length_cons, List.length_nil]; decide)
  | exact ⟨by omega, by omega⟩
  | exact ⟨by omega, PyProof.noPylong_of_log2 (by first | assumption | decide)⟩
  | exact .inl ⟨by omega, by omega⟩
  | exact .inr ⟨by omega, by omega⟩
  | exact ⟨by decide, by decide, by decide⟩
  | exact ⟨by decide, by decide, by omega⟩
  | fail)
local macro_rules | `(tactic| walk_at "st") => `(tactic| first
  | with_reducible refine i_seq ?_
  | with_reducible refine i_bi ?_
  | with_reducible refine i_raise ?_
  | with_reducible refine i_callX ?_
  | with_reducible refine i_tryN ?_
  | with_reducible refine i_isNon ?_
  | with_reducible refine i_isNotNon ?_
  | ((with_reducible refine' i_split ?h ?z ?_); (case h => rfl); (case z => walk_at "side"))
  | with_reducible refine i_find ?_
  | ((with_reducible refine i_strI ?h ?_); (case h => walk_at "side"))
  | with_reducible refine i_fmt ?_
  | ((with_reducible refine i_fmS ?h ?_); (case h => walk_at "side"))
  | ((with_reducible refine i_fmI ?h ?_); (case h => walk_at "side"))
  | with_reducible refine i_jn ?_
  | with_reducible refine i_js0 ?_
  | with_reducible refine i_js1 ?_
  | ((with_reducible refine i_jsR ?h ?_); (case h => walk_at "side"))
  | with_reducible refine i_revS ?_
  | ((with_reducible refine i_exrev ?h ?_); (case h => walk_at "side"))
  | with_reducible refine i_revL ?_
  | ((with_reducible refine' i_exrevL ?h ?_); (case h => walk_at "sq"))
  | with_reducible refine i_par3 ?_
  | with_reducible refine i_ex3 ?_
  | with_reducible refine i_stB ?_
  | with_reducible refine i_mk0 ?_
  | with_reducible refine i_asg ?_
  | with_reducible refine i_c ?_
  | ((with_reducible refine' i_var ?h ?_); (case h => rfl))
  | with_reducible refine i_op ?_
  | with_reducible refine i_cons ?_
  | with_reducible refine i_nil ?_
  | ((with_reducible refine' i_gName ?h ?_); (case h => rfl))
  | with_reducible refine i_rI0 ?_
  | ((with_reducible refine i_rI ?h ?_); (case h => walk_at "side"))
  | with_reducible refine i_test ?_
  | with_reducible refine i_exbl ?_
  | with_reducible refine i_exint ?_
  | with_reducible refine i_exs ?_
  | with_reducible refine i_ret ?_
  | with_reducible refine i_next ?_
  | with_reducible refine i_ifS ?_
  | ((with_reducible refine' i_rIxL ?h ?e ?_); (case h => walk_at "sq"); (case e => first | assumption | rfl))
  | ((with_reducible refine' i_rIxT ?h ?e ?_); (case h => walk_at "sq"); (case e => first | assumption | rfl))
  | ((with_reducible refine' i_rIxS ?h ?e ?_); (case h => walk_at "side"); (case e => first | assumption | rfl))
  | with_reducible refine i_un ?_
  | with_reducible refine i_rU ?_
  | ((with_reducible refine i_rEqSame ?h ?_); (case h => rfl))
  | ((with_reducible refine i_rNeSame ?h ?_); (case h => rfl))
  | ((with_reducible refine i_rEq ?h ?_); (case h => rfl))
  | ((with_reducible refine i_rNe ?h ?_); (case h => rfl))
  | with_reducible refine i_tB ?_
  | with_reducible refine i_and ?_
  | with_reducible refine i_or ?_
  | with_reducible refine i_not ?_
  | with_reducible refine i_andV ?_
  | with_reducible refine i_orV ?_
  | with_reducible refine i_notV ?_
  | with_reducible refine i_if ?_
  | with_reducible refine i_chain ?_
  | with_reducible refine i_drop ?_
  | with_reducible refine i_retN ?_
  | with_reducible refine i_par ?_
  | with_reducible refine i_ex2 ?_
  | ((with_reducible refine' i_aug ?h ?_); (case h => rfl))
  | with_reducible refine i_gNil ?_
  | with_reducible refine i_gCons ?_
  | ((with_reducible refine' i_gTup ?h ?e ?_); (case h => walk_at "sq"); (case e => rfl))
  | with_reducible refine i_gSub ?_
  | ((with_reducible refine' i_rSetL ?h ?e ?_); (case h => walk_at "hg"); (case e => first | assumption | rfl))
  | with_reducible refine i_tup ?_
  | with_reducible refine i_lst ?_
  | with_reducible refine i_lstN ?_
  | with_reducible refine i_newDK ?_
  | with_reducible refine i_disp ?_
  | with_reducible refine i_pairs0 ?_
  | with_reducible refine i_pairs1 ?_
  | with_reducible refine i_call ?_
  | with_reducible refine i_cb ?_
  | with_reducible refine i_bm ?_
  | with_reducible refine i_m1 ?_
  | with_reducible refine i_m0 ?_
  | ((with_reducible refine' i_rAppend ?h ?e ?_); (case h => walk_at "hg"); (case e => walk_at "side"))
  | ((with_reducible refine i_rSlS ?h ?_); (case h => walk_at "side"))
  | ((with_reducible refine' i_rSlL ?h ?_); (case h => walk_at "sq"))
  | with_reducible refine i_sl ?_
  | with_reducible refine i_noPart ?_
  | with_reducible refine i_part ?_
  | with_reducible refine i_rng1 ?_
  | with_reducible refine i_iList ?_
  | with_reducible refine i_iStr ?_
  | with_reducible refine i_iEnum ?_
  | with_reducible refine i_iZip ?_
  | with_reducible refine i_ez ?_
  | ((with_reducible refine' i_exen ?h ?_); (case h => walk_at "sq"))
  | ((with_reducible refine' i_exz ?h ?k ?_); (case h => walk_at "sq"); (case k => walk_at "sq"))
  | ((with_reducible refine' i_listN ?h ?_); (case h => walk_at "sq"))
  | with_reducible refine i_intB ?_
  | ((with_reducible refine' i_listTN ?h ?_); (case h => walk_at "sq"))
  | with_reducible refine i_revT ?_
  | ((with_reducible refine' i_exrevT ?h ?_); (case h => walk_at "sq"))
  | ((with_reducible refine' i_catA ?h ?k ?a ?b ?z ?_); (case h => walk_at "sq"); (case k => walk_at "sq"); (case a => simp); (case b => simp); (case z => walk_at "side"))
  | ((with_reducible refine' i_slTA ?h ?k ?_); (case h => walk_at "sq"); (case k => simp only [List.length_cons, List.length_nil]; decide))
  | ((with_reducible refine' i_countF ?h ?k ?a ?_); (case h => walk_at "sq"); (case k => rfl); (case a => rfl))
  | with_reducible refine i_iTup ?_
  | ((with_reducible refine' i_exlT ?h ?_); (case h => walk_at "sq"))
  | ((with_reducible refine' i_rCatN ?h ?e ?z ?_); (case h => walk_at "hg"); (case e => walk_at "hg"); (case z => walk_at "side"))
  | with_reducible refine i_tryC ?_
  | ((with_reducible refine' i_tupL ?h ?_); (case h => walk_at "sq"))
  | ((with_reducible refine' i_neNil ?h ?k ?_); (case h => walk_at "sq"); (case k => walk_at "sq"))
  | ((with_reducible refine' i_eqNil ?h ?k ?_); (case h => walk_at "sq"); (case k => walk_at "sq"))
  | ((with_reducible refine' i_reprE ?h ?e ?_); (case h => walk_at "da"); (case e => walk_at "shw"))
  | ((with_reducible refine' i_tyL ?h ?_); (case h => walk_at "sq"))
  | with_reducible refine i_isBl ?_
  | ((with_reducible refine i_callW ?_))
  | ((with_reducible refine i_exrng ?h1 ?h2 ?_); (case h1 => walk_at "side"); (case h2 => walk_at "side"))
  | ((with_reducible refine' i_exl ?h ?_); (case h => walk_at "sq"))
  | with_reducible refine i_for ?_
  | with_reducible refine i_lc ?_
  | with_reducible refine i_yes ?_
  | with_reducible refine i_iteT ?_
  | with_reducible refine i_iteF ?_
  | ((with_reducible refine i_divmod ?h ?_); (case h => walk_at "side"))
  | ((with_reducible refine' i_isi ?h ?e ?_); (case h => walk_at "da"); (case e => decide))
  | ((with_reducible refine i_lenS ?h ?_); (case h => walk_at "side"))
  | ((with_reducible refine' i_lenL ?h ?_); (case h => walk_at "sq"))
  | ((with_reducible refine' i_lenT ?h ?_); (case h => walk_at "sq"))
  | ((with_reducible refine' i_repr ?h ?n ?e ?_); (case h => walk_at "da"); (case n => walk_at "nod"); (case e => walk_at "shw"))
  | ((with_reducible refine' i_rCat ?h ?e ?z ?_); (case h => walk_at "hg"); (case e => walk_at "hg"); (case z => walk_at "side"))
  | ((with_reducible refine i_rCatS ?h ?_); (case h => walk_at "side"))
  | with_reducible refine i_exstr ?_
  | ((with_reducible refine' i_join ?h ?z ?_); (case h => walk_at "sq"); (case z => walk_at "side"))
  | with_reducible refine i_abs ?_
  | with_reducible refine i_max ?_
  | with_reducible refine i_min ?_
  | ((with_reducible refine' i_rAll ?h ?_); (case h => walk_at "sq"))
  | ((with_reducible refine' i_lcEl ?h ?e ?_); (case h => walk_at "hg"); (case e => walk_at "side"))
  | with_reducible refine ⟨_, _, rfl, rfl, ?_⟩
  | with_reducible refine ⟨_, _, rfl, ?_⟩
  | with_reducible refine ⟨_, rfl, ?_⟩
  | with_reducible refine And.intro rfl ?_
  | ((with_reducible refine And.intro ?h ?_); (case h => walk_at "side"))
  | fail)

section
variable {P : Program} {w : World} {K : PySem.W.Frag} {mg : Str → Option Value} {base : Heap} {A : Ad}
theorem rangeV_item {lo : Int} {n i : Nat} {x : V} (h : (rangeV lo n)[i]? = some x) : ∃ k : Int, x = .int (lo + k) ∧ 0 ≤ k ∧ k < n := by
  have hi : i < n := by
    have := (List.getElem?_eq_some_iff.mp h).1
    rwa [rangeV_len] at this
  rw [rangeV_get hi] at h
  cases h
  exact ⟨i, rfl, by omega, by omega⟩
/-- all but the tables and what stands at r is as it was -/
def XOff (r : Addr) (H H' : Hp) : Prop := ∀ b o, b ≠ r → H b = some o → noTbl o = true → H' b = some o
theorem XOff.thenO {r : Addr} {H G G' : Hp} (o : Off r G G') (x : XOff r H G) : XOff r H G' := fun b u n h k => o b u n (x b u n h k)
theorem XOff.thenX {r : Addr} {H G G' : Hp} (y : LamX.ExtN G G') (x : XOff r H G) : XOff r H G' := fun b u n h k => extN_get y (x b u n h k) k
theorem XOff.trans {r : Addr} {H G G' : Hp} (x : XOff r H G) (y : XOff r G G') : XOff r H G' := fun b u n h k => y b u n (x b u n h k) k
theorem XOff.ofO {r : Addr} {H G : Hp} (o : Off r H G) : XOff r H G := fun b u n h _ => o b u n h
theorem XOff.ext {r : Addr} {H G : Hp} (x : XOff r H G) (n : H r = none) : LamX.ExtN H G := fun b u h k => by
  refine x b u (ne_of_none h n) h ?_
  cases u with
  | tbl ps => exact (k ps rfl).elim
  | _ => rfl
theorem tabs_rng {T : List (Addr × Str)} {G G' : Hp} {r : Addr} (t : LamX.Tabs T G) (h : Rok G r) (o : Off r G G') : LamX.Tabs T G' := by
  obtain ⟨a, b, e, _⟩ := h
  exact tabs_off t e o
theorem Same.off {r : Addr} {H H' : Hp} (s : Same H H') : Off r H H' := Off.of_same s
theorem wo_dat {K : PySem.W.Frag} {r : Addr} {H : Hp} {b : Bool} {v : V} {d : PyData} (h : DaF b K (wo r H) v d) : DaF b K H v d := h.same wo_same
theorem wo_at {r p : Addr} {H : Hp} {o : HO} (n : p ≠ r) (h : H p = some o) : wo r H p = some o := (wo_get n).trans h
theorem winB_none {d : PyData} (h : winB d = false) : winP d = none := by
  unfold winB at h
  cases e : winP d with
  | none => rfl
  | some w => rw [e] at h; cases h

def sp_right (A : Ad) : Sp := fun vs H Q _ => ∃ r, vs = [.ref r] ∧ Rok H r ∧ LamX.Tabs (TT A) H ∧ ∀ H', XOff r H H' → Rok H' r → LamX.Tabs (TT A) H' → Q (.bl true) H'
def outC (d1 d2 : PyData) : PyData := match winP d1 with
  | none => told1 "window" d1
  | some w => if verD d2 = true then told1 "told" (.bool (match d2 with | .int n => contW w n | _ => false)) else told1 "version" d2
def outR (d1 d2 : PyData) : PyData := match winP d1 with
  | none => told1 "window" d1
  | some w => match winP d2 with
    | none => told1 "window" d2
    | some u => told1 "told" (.bool (risesW w u))
def numL : List PyData := [.int 0, .int 1, .int 2, .int 3, .int (-1), .bool true, .none, .str "1", .tuple [], .list [], .int (10 ^ Int.toNat 59)]
theorem shw_told {n : Str} {d : PyData} (hn : okS n 8) (h : Shc d 100 3) : Shw (told1 n d) := (Sh.lst (ds := [.str n, d]) (n := 200) (k := 3) fun x hx => by
  simp only [List.mem_cons, List.not_mem_nil, or_false] at hx
  rcases hx with rfl | rfl
  · exact (Sh.str hn).mono (by omega) (by omega)
  · exact h.sh.mono (by omega) (by omega)).shw (by simp only [List.length_cons, List.length_nil]; omega) (by omega)
theorem okS_told : okS (Str.ofString "told") 8 := okS_lit (by decide +kernel)
theorem okS_window : okS (Str.ofString "window") 8 := okS_lit (by decide +kernel)
theorem okS_windows : okS (Str.ofString "windows") 8 := okS_lit (by decide +kernel)
theorem okS_version : okS (Str.ofString "version") 8 := okS_lit (by decide +kernel)
theorem okS_text : okS (Str.ofString "text") 8 := okS_lit (by decide +kernel)
theorem shc_bl {b : Bool} : Shc (.bool b) 100 3 := Shc.bl.mono (by omega) (by omega)
theorem outC_shw {d1 d2 : PyData} (h1 : Shc d1 100 3) (h2 : Shc d2 100 3) : Shw (outC d1 d2) := by
  unfold outC
  split
  · exact shw_told okS_window h1
  · split
    · exact shw_told okS_told shc_bl
    · exact shw_told okS_version h2
theorem outR_shw {d1 d2 : PyData} (h1 : Shc d1 100 3) (h2 : Shc d2 100 3) : Shw (outR d1 d2) := by
  unfold outR
  split
  · exact shw_told okS_window h1
  · split
    · exact shw_told okS_window h2
    · exact shw_told okS_told shc_bl
/-- what the law takes for due: None, or what is told -/
def DueV (K : PySem.W.Frag) (H : Hp) (y : V) (o : PyData) : Prop := (y = .non ∧ ∃ d, o = told1 "told" d) ∨ (∃ p, y = .ref p ∧ DaS K H y o)
theorem DueV.extN {H H' : Hp} {y : V} {o : PyData} (h : DueV K H y o) (x : LamX.ExtN H H') : DueV K H' y o := h.imp id fun ⟨p, e, d⟩ => ⟨p, e, d.extN x⟩
theorem cut_told (d : PyData) : cutS (told1 "told" d).shown (some 2) (some 6) = Str.ofString "told" := by
  refine TL.ext_tl ?_
  have e : TL.tl (cutS (told1 "told" d).shown (some 2) (some 6)) = ((TL.tl (told1 "told" d).shown).drop (HT.sIx (told1 "told" d).shown.length 0 (some 2))).take (HT.sIx (told1 "told" d).shown.length (told1 "told" d).shown.length (some 6) - HT.sIx (told1 "told" d).shown.length 0 (some 2)) := rfl
  have es : (told1 "told" d).shown = Str.ofString "['told', " ++ (d.shown ++ Str.ofString "]") := by
    unfold told1
    rw [PyData.shown_list]
    have e1 : PyData.shownAll [PyData.str "told", d] = [(PyData.str "told").shown, d.shown] := by rw [PyData.shownAll_cons, PyData.shownAll_cons, PyData.shownAll_nil]
    rw [e1]
    have e2 : Str.join (", " : Str) [(PyData.str "told").shown, d.shown] = (PyData.str "told").shown ++ (", " : Str) ++ d.shown := rfl
    rw [e2]
    have e3 : (PyData.str "told").shown = Str.ofString "'told'" := by decide +kernel
    rw [e3]
    refine TL.ext_tl ?_
    simp only [tl_app]
    have e4 : TL.tl ("[" : Str) ++ (TL.tl (Str.ofString "'told'") ++ TL.tl (", " : Str)) = TL.tl (Str.ofString "['told', ") := by decide +kernel
    rw [← e4]
    simp
  have el : 9 ≤ (told1 "told" d).shown.length := by
    rw [es, Str.length_append]
    have : (Str.ofString "['told', ").length = 9 := by decide +kernel
    omega
  have i1 : HT.sIx (told1 "told" d).shown.length 0 (some 2) = 2 := by
    have := HT.sIx_nat (told1 "told" d).shown.length 0 2
    exact this.trans (by omega)
  have i2 : HT.sIx (told1 "told" d).shown.length (told1 "told" d).shown.length (some 6) = 6 := by
    have := HT.sIx_nat (told1 "told" d).shown.length (told1 "told" d).shown.length 6
    exact this.trans (by omega)
  rw [e, i1, i2, es, tl_app]
  have ea : (TL.tl (Str.ofString "['told', ")).length = 9 := by decide +kernel
  rw [List.drop_append_of_le_length (by omega), List.take_append_of_le_length (by rw [List.length_drop]; omega)]
  decide +kernel
theorem num_all : (numL.all fun d => shcB d 100 3) = true := by decide +kernel
theorem told_contains {σ : L2.St} {H : Hp} {R : VK} {i j : Nat} {v1 v2 : V} {d1 d2 : PyData} (hi : σ[i]? = some (some v1)) (hj : σ[j]? = some (some v2)) (h1 : DaS K H v1 d1) (h2 : DaS K H v2 d2) (w1 : Shc d1 100 3) (w2 : Shc d2 100 3) (t : LamX.Tabs (TT A) H)
    (q : ∀ G, LamX.ExtN H G → LamX.Tabs (TT A) G → R (.str (outC d1 d2).shown) G) : tLamG (TT A) (TTold K A) (fun E => tCall (sp_cont K A.c_InvalidWindow A.c_InvalidVersion) [] E (tCons (tVar i) (tCons (tVar j) tNil))) σ H R := by
  refine i_lamG t fun G1 x1 t1 E' Q' hx hq => ?_
  refine i_call (i_cons (i_var hi (i_cons (i_var hj (i_nil ?_)))))
  have k1 : DaS K G1 v1 d1 := h1.extN x1
  have k2 : DaS K G1 v2 d2 := h2.extN x1
  refine ⟨_, _, _, _, rfl, k1.da, k2.da, fun w n hw hn n0 G3 s3 => hq _ (.bool (contW w n)) _ (.bl _) (shw_told okS_told shc_bl) fun G4 s4 => ?_, fun e c G3 hc s3 ec => hx _ _ _ _ _ _ _ (.inl ⟨rfl, rfl, rfl⟩) ec (k1.same s3) (shw_told okS_window w1) fun G4 s4 => ?_, fun e1 e2 c G3 hc s3 ec => hx _ _ _ _ _ _ _ (.inr (.inr (.inl ⟨rfl, rfl, rfl⟩))) ec (k2.same s3) (shw_told okS_version w2) fun G4 s4 => ?_⟩
  · have e : outC d1 d2 = told1 "told" (.bool (contW w n)) := by
      subst hn
      unfold outC
      rw [hw]
      dsimp only
      rw [show verD (.int n) = true from decide_eq_true n0]
      rfl
    have q' := q G4 (extN_thenS (s3.trans s4) x1) (tabs_same (s3.trans s4) t1)
    rw [e] at q'
    exact q'
  · have e' : outC d1 d2 = told1 "window" d1 := by
      unfold outC
      rw [winB_none e]
    have q' := q G4 (extN_thenS (s3.trans s4) x1) (tabs_same (s3.trans s4) t1)
    rw [e'] at q'
    exact q'
  · have e' : outC d1 d2 = told1 "version" d2 := by
      obtain ⟨w, hw⟩ := Option.isSome_iff_exists.mp (show (winP d1).isSome = true from e1)
      unfold outC
      rw [hw]
      dsimp only
      rw [e2]
      rfl
    have q' := q G4 (extN_thenS (s3.trans s4) x1) (tabs_same (s3.trans s4) t1)
    rw [e'] at q'
    exact q'
theorem told_rises {σ : L2.St} {H : Hp} {R : VK} {i j : Nat} {v1 v2 : V} {d1 d2 : PyData} (hi : σ[i]? = some (some v1)) (hj : σ[j]? = some (some v2)) (h1 : DaS K H v1 d1) (h2 : DaS K H v2 d2) (w1 : Shc d1 100 3) (w2 : Shc d2 100 3) (t : LamX.Tabs (TT A) H)
    (q : ∀ G, LamX.ExtN H G → LamX.Tabs (TT A) G → R (.str (outR d1 d2).shown) G) : tLamG (TT A) (TTold K A) (fun E => tCall (sp_rises K A.c_InvalidWindow) [] E (tCons (tVar i) (tCons (tVar j) tNil))) σ H R := by
  refine i_lamG t fun G1 x1 t1 E' Q' hx hq => ?_
  refine i_call (i_cons (i_var hi (i_cons (i_var hj (i_nil ?_)))))
  have k1 : DaS K G1 v1 d1 := h1.extN x1
  have k2 : DaS K G1 v2 d2 := h2.extN x1
  refine ⟨_, _, _, _, rfl, k1.da, k2.da, fun w u hw hu G3 s3 => hq _ (.bool (risesW w u)) _ (.bl _) (shw_told okS_told shc_bl) fun G4 s4 => ?_, fun e c G3 hc s3 ec => hx _ _ _ _ _ _ _ (.inl ⟨rfl, rfl, rfl⟩) ec (k1.same s3) (shw_told okS_window w1) fun G4 s4 => ?_, fun e1 e2 c G3 hc s3 ec => hx _ _ _ _ _ _ _ (.inl ⟨rfl, rfl, rfl⟩) ec (k2.same s3) (shw_told okS_window w2) fun G4 s4 => ?_⟩
  · have e : outR d1 d2 = told1 "told" (.bool (risesW w u)) := by
      unfold outR
      rw [hw, hu]
    have q' := q G4 (extN_thenS (s3.trans s4) x1) (tabs_same (s3.trans s4) t1)
    rw [e] at q'
    exact q'
  · have e' : outR d1 d2 = told1 "window" d1 := by
      unfold outR
      rw [winB_none e]
    have q' := q G4 (extN_thenS (s3.trans s4) x1) (tabs_same (s3.trans s4) t1)
    rw [e'] at q'
    exact q'
  · have e' : outR d1 d2 = told1 "window" d2 := by
      obtain ⟨w, hw⟩ := Option.isSome_iff_exists.mp (show (winP d1).isSome = true from e1)
      unfold outR
      rw [hw, winB_none e2]
    have q' := q G4 (extN_thenS (s3.trans s4) x1) (tabs_same (s3.trans s4) t1)
    rw [e'] at q'
    exact q'
theorem told_format {σ : L2.St} {H : Hp} {R : VK} {i : Nat} {v1 : V} {d1 : PyData} (hi : σ[i]? = some (some v1)) (h1 : DaS K H v1 d1) (nw : winB d1 = false) (w1 : Shc d1 100 3) (t : LamX.Tabs (TT A) H)
    (q : ∀ G, LamX.ExtN H G → LamX.Tabs (TT A) G → R (.str (told1 "window" d1).shown) G) : tLamG (TT A) (TTold K A) (fun E => tCall (sp_fmt K A.c_InvalidWindow) [] E (tCons (tVar i) tNil)) σ H R := by
  refine i_lamG t fun G1 x1 t1 E' Q' hx hq => ?_
  refine i_call (i_cons (i_var hi (i_nil ?_)))
  have k1 : DaS K G1 v1 d1 := h1.extN x1
  refine ⟨_, _, rfl, k1.da, fun w hw => (by unfold winB at nw; rw [hw] at nw; cases nw), fun e c G3 hc s3 ec => hx _ _ _ _ _ _ _ (.inl ⟨rfl, rfl, rfl⟩) ec (k1.same s3) (shw_told okS_window w1) fun G4 s4 => q G4 (extN_thenS (s3.trans s4) x1) (tabs_same (s3.trans s4) t1)⟩
end
end KX

namespace KX
open PySem PySem.Spec PyProof.Rows L2

local macro_rules | `(tactic| walk_at "kp") => `(tactic| first
  | with_reducible exact Kp.refl
  | with_reducible exact Kp.thenS (by assumption) (by walk_at "kp")
  | with_reducible exact Kp.thenO (by assumption) (by walk_at "ne") (by walk_at "kp")
  | fail)
local macro_rules | `(tactic| walk_at "hq") => `(tactic| first
  | assumption
  | with_reducible exact Kp.get (by assumption) (by walk_at "kp")
  | fail)
local macro_rules | `(tactic| walk_at "hg") => `(tactic| first
  | walk_at "hq"
  | exact upd_same
  | with_reducible exact (upd_ne (by walk_at "ne")).trans (by walk_at "hg")
  | with_reducible exact Same.get (by assumption) (by walk_at "hg")
  | with_reducible exact Off.get (by assumption) (by walk_at "ne") (by walk_at "hg")
  | fail)
local macro_rules | `(tactic| walk_at "ne") => `(tactic| first
  | assumption
  | (apply Ne.symm; assumption)
  | exact Rok.ne' (by assumption) (by walk_at "rok")
  | exact (Rok.ne' (by assumption) (by walk_at "rok")).symm
  | exact ne_some (by assumption) (by walk_at "hg")
  | exact (ne_some (by assumption) (by walk_at "hg")).symm
  | fail)
local macro_rules | `(tactic| walk_at "rok") => `(tactic| first
  | assumption
  | with_reducible exact Rok.kp (by assumption) (by walk_at "kp")
  | with_reducible exact Rok.same (by assumption) (by walk_at "rok")
  | fail)
local macro_rules | `(tactic| walk_at "sq") => `(tactic| first
  | assumption
  | exact Same.seq (by assumption) (by assumption)
  | (with_reducible show SqL _ _ _ _; with_reducible exact SqL.of (by walk_at "hg"))
  | (with_reducible show SqT _ _ _ _; with_reducible exact SqT.of (by walk_at "hg"))
  | fail)
local macro_rules | `(tactic| walk_at "dac") => `(tactic| first
  | assumption
  | exact DaF.same (by assumption) (by walk_at "dac")
  | fail)
local macro_rules | `(tactic| walk_at "da") => `(tactic| first
  | exact (DaF.non : DaS _ _ _ _)
  | exact (DaF.bl _ : DaS _ _ _ _)
  | exact (DaF.int _ : DaS _ _ _ _)
  | exact (DaF.str _ : DaS _ _ _ _)
  | exact DaF.non
  | exact DaF.bl _
  | exact DaF.int _
  | exact DaF.str _
  | walk_at "dac"
  | with_reducible exact DaF.lst (SqL.of (by walk_at "hq")) (fun _ => by assumption) (by walk_at "das")
  | with_reducible exact Da.lst (SqL.of (by walk_at "hq")) (by walk_at "das")
  | with_reducible exact DaF.tup (SqT.of (by walk_at "hq")) (by walk_at "das")
  | with_reducible exact DaF.dic (Rd.of (by walk_at "hq")) (by walk_at "dak")
  | fail)
local macro_rules | `(tactic| walk_at "das") => `(tactic| first
  | assumption
  | exact DaAllF.nil
  | exact DaAllF.cons (by walk_at "da") (by walk_at "das")
  | fail)
local macro_rules | `(tactic| walk_at "dak") => `(tactic| first
  | assumption
  | exact DaKvF.nil
  | exact DaKvF.cons (by walk_at "da") (by walk_at "dak")
  | fail)
local macro_rules | `(tactic| walk_at "shw") => `(tactic| first
  | assumption
  | exact shw_b2 _ _
  | exact ⟨by decide +kernel, by decide +kernel, by decide +kernel⟩
  | fail)
local macro_rules | `(tactic| walk_at "nod") => `(tactic| first
  | exact .inl rfl
  | exact .inr rfl
  | assumption
  | exact .inr (by assumption)
  | fail)
local macro_rules | `(tactic| walk_at "okd") => `(tactic| first
  | assumption
  | exact okd_of (by decide +kernel)
  | fail)
local macro_rules | `(tactic| walk_at "off") => `(tactic| first
  | assumption
  | exact Off.refl _ _
  | exact Same.refl _
  | with_reducible exact Same.thenS (by assumption) (by walk_at "off")
  | with_reducible exact Off.thenS (by assumption) (by walk_at "off")
  | with_reducible exact Off.thenO (by assumption) (by walk_at "off")
  | with_reducible exact Same.thenF (by assumption) (by assumption) (by walk_at "off") (by walk_at "off")
  | with_reducible exact Off.thenF (by assumption) (by assumption) (by walk_at "off") (by walk_at "off")
  | fail)
local macro_rules | `(tactic| walk_at "side") => `(tactic| first
  | assumption
  | omega
  | decide
  | (simp only [List.length_append, List.length_cons, List.length_nil]; decide)
  | exact ⟨by omega, by omega⟩
  | exact ⟨by omega, PyProof.noPylong_of_log2 (by first | assumption | decide)⟩
  | exact .inl ⟨by omega, by omega⟩
  | exact .inr ⟨by omega, by omega⟩
  | exact ⟨by decide, by decide, by decide⟩
  | exact ⟨by decide, by decide, by omega⟩
  | fail)
local macro_rules | `(tactic| walk_at "st") => `(tactic| first
  | with_reducible refine i_seq ?_
  | with_reducible refine i_bi ?_
  | with_reducible refine i_raise ?_
  | with_reducible refine i_callX ?_
  | with_reducible refine i_tryN ?_
  | with_reducible refine i_isNon ?_
  | with_reducible refine i_isNotNon ?_
  | ((with_reducible refine' i_split ?h ?z ?_); (case h => rfl); (case z => walk_at "side"))
  | with_reducible refine i_find ?_
  | ((with_reducible refine i_strI ?h ?_); (case h => walk_at "side"))
  | with_reducible refine i_fmt ?_
  | ((with_reducible refine i_fmS ?h ?_); (case h => walk_at "side"))
  | ((with_reducible refine i_fmI ?h ?_); (case h => walk_at "side"))
  | with_reducible refine i_jn ?_
  | with_reducible refine i_js0 ?_
  | with_reducible refine i_js1 ?_
  | ((with_reducible refine i_jsR ?h ?_); (case h => walk_at "side"))
  | with_reducible refine i_revS ?_
  | ((with_reducible refine i_exrev ?h ?_); (case h => walk_at "side"))
  | with_reducible refine i_revL ?_
  | ((with_reducible refine' i_exrevL ?h ?_); (case h => walk_at "sq"))
  | with_reducible refine i_par3 ?_
  | with_reducible refine i_ex3 ?_
  | with_reducible refine i_stB ?_
  | with_reducible refine i_mk0 ?_
  | with_reducible refine i_asg ?_
  | with_reducible refine i_c ?_
  | ((with_reducible refine' i_var ?h ?_); (case h => rfl))
  | with_reducible refine i_op ?_
  | with_reducible refine i_cons ?_
  | with_reducible refine i_nil ?_
  | ((with_reducible refine' i_gName ?h ?_); (case h => rfl))
  | with_reducible refine i_rI0 ?_
  | ((with_reducible refine i_rI ?h ?_); (case h => walk_at "side"))
  | with_reducible refine i_test ?_
  | with_reducible refine i_exbl ?_
  | with_reducible refine i_exint ?_
  | with_reducible refine i_exs ?_
  | with_reducible refine i_ret ?_
  | with_reducible refine i_next ?_
  | with_reducible refine i_ifS ?_
  | ((with_reducible refine' i_rIxL ?h ?e ?_); (case h => walk_at "sq"); (case e => first | assumption | rfl))
  | ((with_reducible refine' i_rIxT ?h ?e ?_); (case h => walk_at "sq"); (case e => first | assumption | rfl))
  | ((with_reducible refine' i_rIxS ?h ?e ?_); (case h => walk_at "side"); (case e => first | assumption | rfl))
  | with_reducible refine i_un ?_
  | with_reducible refine i_rU ?_
  | ((with_reducible refine i_rEqSame ?h ?_); (case h => rfl))
  | ((with_reducible refine i_rNeSame ?h ?_); (case h => rfl))
  | ((with_reducible refine i_rEq ?h ?_); (case h => rfl))
  | ((with_reducible refine i_rNe ?h ?_); (case h => rfl))
  | with_reducible refine i_tB ?_
  | with_reducible refine i_and ?_
  | with_reducible refine i_or ?_
  | with_reducible refine i_not ?_
  | with_reducible refine i_andV ?_
  | with_reducible refine i_orV ?_
  | with_reducible refine i_notV ?_
  | with_reducible refine i_if ?_
  | with_reducible refine i_chain ?_
  | with_reducible refine i_drop ?_
  | with_reducible refine i_retN ?_
  | with_reducible refine i_par ?_
  | with_reducible refine i_ex2 ?_
  | ((with_reducible refine' i_aug ?h ?_); (case h => rfl))
  | with_reducible refine i_gNil ?_
  | with_reducible refine i_gCons ?_
  | ((with_reducible refine' i_gTup ?h ?e ?_); (case h => walk_at "sq"); (case e => rfl))
  | with_reducible refine i_gSub ?_
  | ((with_reducible refine' i_rSetL ?h ?e ?_); (case h => walk_at "hg"); (case e => first | assumption | rfl))
  | with_reducible refine i_tup ?_
  | with_reducible refine i_lst ?_
  | with_reducible refine i_lstN ?_
  | with_reducible refine i_newDK ?_
  | with_reducible refine i_disp ?_
  | with_reducible refine i_pairs0 ?_
  | with_reducible refine i_pairs1 ?_
  | with_reducible refine i_call ?_
  | with_reducible refine i_cb ?_
  | with_reducible refine i_bm ?_
  | with_reducible refine i_m1 ?_
  | with_reducible refine i_m0 ?_
  | ((with_reducible refine' i_rAppend ?h ?e ?_); (case h => walk_at "hg"); (case e => walk_at "side"))
  | ((with_reducible refine i_rSlS ?h ?_); (case h => walk_at "side"))
  | ((with_reducible refine' i_rSlL ?h ?_); (case h => walk_at "sq"))
  | with_reducible refine i_sl ?_
  | with_reducible refine i_noPart ?_
  | with_reducible refine i_part ?_
  | with_reducible refine i_rng1 ?_
  | with_reducible refine i_iList ?_
  | with_reducible refine i_iStr ?_
  | with_reducible refine i_iEnum ?_
  | with_reducible refine i_iZip ?_
  | with_reducible refine i_ez ?_
  | ((with_reducible refine' i_exen ?h ?_); (case h => walk_at "sq"))
  | ((with_reducible refine' i_exz ?h ?k ?_); (case h => walk_at "sq"); (case k => walk_at "sq"))
  | ((with_reducible refine' i_listN ?h ?_); (case h => walk_at "sq"))
  | with_reducible refine i_intB ?_
  | ((with_reducible refine' i_listTN ?h ?_); (case h => walk_at "sq"))
  | with_reducible refine i_revT ?_
  | ((with_reducible refine' i_exrevT ?h ?_); (case h => walk_at "sq"))
  | ((with_reducible refine' i_catA ?h ?k ?a ?b ?z ?_); (case h => walk_at "sq"); (case k => walk_at "sq"); (case a => simp); (case b => simp); (case z => walk_at "side"))
  | ((with_reducible refine' i_slTA ?h ?k ?_); (case h => walk_at "sq"); (case k => simp only [List.length_cons, List.length_nil]; decide))
  | ((with_reducible refine' i_countF ?h ?k ?a ?_); (case h => walk_at "sq"); (case k => rfl); (case a => rfl))
  | with_reducible refine i_iTup ?_
  | ((with_reducible refine' i_exlT ?h ?_); (case h => walk_at "sq"))
  | ((with_reducible refine' i_rCatN ?h ?e ?z ?_); (case h => walk_at "hg"); (case e => walk_at "hg"); (case z => walk_at "side"))
  | with_reducible refine i_tryC ?_
  | ((with_reducible refine' i_tupL ?h ?_); (case h => walk_at "sq"))
  | ((with_reducible refine' i_neNil ?h ?k ?_); (case h => walk_at "sq"); (case k => walk_at "sq"))
  | ((with_reducible refine' i_eqNil ?h ?k ?_); (case h => walk_at "sq"); (case k => walk_at "sq"))
  | ((with_reducible refine' i_reprE ?h ?e ?_); (case h => walk_at "da"); (case e => walk_at "shw"))
  | ((with_reducible refine' i_tyL ?h ?_); (case h => walk_at "sq"))
  | with_reducible refine i_isBl ?_
  | ((with_reducible refine i_callW ?_))
  | ((with_reducible refine i_exrng ?h1 ?h2 ?_); (case h1 => walk_at "side"); (case h2 => walk_at "side"))
  | ((with_reducible refine' i_exl ?h ?_); (case h => walk_at "sq"))
  | with_reducible refine i_for ?_
  | with_reducible refine i_lc ?_
  | with_reducible refine i_yes ?_
  | with_reducible refine i_iteT ?_
  | with_reducible refine i_iteF ?_
  | ((with_reducible refine i_divmod ?h ?_); (case h => walk_at "side"))
  | ((with_reducible refine' i_isi ?h ?e ?_); (case h => walk_at "da"); (case e => decide))
  | ((with_reducible refine i_lenS ?h ?_); (case h => walk_at "side"))
  | ((with_reducible refine' i_lenL ?h ?_); (case h => walk_at "sq"))
  | ((with_reducible refine' i_lenT ?h ?_); (case h => walk_at "sq"))
  | ((with_reducible refine' i_repr ?h ?n ?e ?_); (case h => walk_at "da"); (case n => walk_at "nod"); (case e => walk_at "shw"))
  | ((with_reducible refine' i_rCat ?h ?e ?z ?_); (case h => walk_at "hg"); (case e => walk_at "hg"); (case z => walk_at "side"))
  | ((with_reducible refine i_rCatS ?h ?_); (case h => walk_at "side"))
  | with_reducible refine i_exstr ?_
  | ((with_reducible refine' i_join ?h ?z ?_); (case h => walk_at "sq"); (case z => walk_at "side"))
  | with_reducible refine i_abs ?_
  | with_reducible refine i_max ?_
  | with_reducible refine i_min ?_
  | ((with_reducible refine' i_rAll ?h ?_); (case h => walk_at "sq"))
  | ((with_reducible refine' i_lcEl ?h ?e ?_); (case h => walk_at "hg"); (case e => walk_at "side"))
  | with_reducible refine ⟨_, _, rfl, rfl, ?_⟩
  | with_reducible refine ⟨_, _, rfl, ?_⟩
  | with_reducible refine ⟨_, rfl, ?_⟩
  | with_reducible refine And.intro rfl ?_
  | ((with_reducible refine And.intro ?h ?_); (case h => walk_at "side"))
  | fail)

section
variable {P : Program} {w : World} {K : PySem.W.Frag} {mg : Str → Option Value} {base : Heap} {A : Ad}
theorem outC_due {d1 d2 : PyData} (h1 : winB d1 = true) (h2 : verD d2 = true) : ∃ d, outC d1 d2 = told1 "told" d := by
  obtain ⟨w, hw⟩ := Option.isSome_iff_exists.mp (show (winP d1).isSome = true from h1)
  unfold outC
  rw [hw]
  dsimp only
  rw [if_pos h2]
  exact ⟨_, rfl⟩
theorem outR_due {d1 d2 : PyData} (h1 : winB d1 = true) (h2 : winB d2 = true) : ∃ d, outR d1 d2 = told1 "told" d := by
  obtain ⟨w, hw⟩ := Option.isSome_iff_exists.mp (show (winP d1).isSome = true from h1)
  obtain ⟨u, hu⟩ := Option.isSome_iff_exists.mp (show (winP d2).isSome = true from h2)
  unfold outR
  rw [hw, hu]
  exact ⟨_, rfl⟩
theorem i_check {σ : L2.St} {H : Hp} {i j : Nat} {y : V} {o : PyData} {D : Ends} (hi : σ[i]? = some (some y)) (hj : σ[j]? = some (some (.str o.shown))) (due : DueV K H y o) (w : Shw o) (q : D.nx σ H) :
    tIfS (tOr (tAnd (tTest (tOp rIsNotN (tVar i) (tC .non))) (tTest (tOp rNe (tVar j) (tCB (rRepr K) (tCons (tVar i) tNil))))) (tAnd (tTest (tOp rIsN (tVar i) (tC .non))) (tTest (tOp rNe (tSl rSlS (tVar j) (tPart (tC (V.int 2))) (tPart (tC (V.int 6)))) (tC (V.str (Str.ofString "told"))))))) (tRet (tC (V.bl false))) tNext D σ H := by
  obtain ⟨f, Q, g, k⟩ := D
  rcases due with ⟨rfl, d, rfl⟩ | ⟨p, rfl, hd⟩
  · have hz : (told1 "told" d).shown.length ≤ sizeLine := w.sz
    refine i_ifS (i_or (i_and (i_test (i_op (i_var hi (i_c ?_))))))
    repeat (walk_at "st")
    refine i_ff (by rfl) ?_
    repeat (walk_at "st")
    refine i_var hi ?_
    repeat (walk_at "st")
    refine i_tt (by decide) ?_
    repeat (walk_at "st")
    refine i_var hj ?_
    repeat (walk_at "st")
    rw [cut_told]
    repeat (walk_at "st")
    exact q
  · refine i_ifS (i_or (i_and (i_test (i_op (i_var hi (i_c ?_))))))
    repeat (walk_at "st")
    refine i_tt (by rfl) ?_
    repeat (walk_at "st")
    refine i_var hj ?_
    repeat (walk_at "st")
    refine i_var hi ?_
    repeat (walk_at "st")
    refine i_var hi ?_
    repeat (walk_at "st")
    refine i_ff (by rfl) ?_
    repeat (walk_at "st")
    exact q
theorem ok_l_singles_right (T : Txt K mg A) (TB : TBs base mg A) (G_is_window : FnOk P w K mg base CX0 3 A.f_is_window A.d_is_window ["value"] (sp_dat K winB)) (G_contains : FnOk P w K mg base (L2.CX P w) 5 A.f_contains A.d_contains ["window", "version"] (sp_cont K A.c_InvalidWindow A.c_InvalidVersion)) (G_rises : FnOk P w K mg base (L2.CX P w) 5 A.f_rises A.d_rises ["first", "second"] (sp_rises K A.c_InvalidWindow)) (G_format_window : FnOk P w K mg base (L2.CX P w) 5 A.f_format_window A.d_format_window ["window"] (sp_fmt K A.c_InvalidWindow))
    (G_l_choice : Fg P w K mg base CX0 2 A.f_l_choice A.d_l_choice ["_law_rng_here", "_law_options"] sp_l_choice) (G_l_odd : Fg P w K mg base CX0 3 A.f_l_odd A.d_l_odd ["_law_rng_here"] (sp_l_odd K)) (G_l_is_count : Fg P w K mg base CX0 1 A.f_l_is_count A.d_l_is_count ["_law_one"] (sp_dat K verD)) (G_l_is_window : Fg P w K mg base CX0 3 A.f_l_is_window A.d_l_is_window ["_law_one"] (sp_dat K winB)) : Fg P w K mg base CX0 10 A.f_l_singles_right A.d_l_singles_right ["_law_rng_here"] (sp_right A) := by
  refine ok_gC T.C_l_singles_right sc_l_singles_right (fun vs H Q E h => ?_) (fun Ar outer s H vs Q E hr h => ?_)
  · obtain ⟨_, rfl, _⟩ := h; rfl
  · obtain ⟨r, rfl, hR, tabs, q⟩ := h
    refine ⟨_, (pss_cons (ps_asg (pe_tup (pa_cons (pe_call G_l_odd (hr.mono (by decide)) (by rfl) T.g_l_odd T.F_l_odd.kp T.b_l_odd .nil pass0 (pa_cons (pv 0) pa_nil)) (pa_cons (pe_call G_l_odd (hr.mono (by decide)) (by rfl) T.g_l_odd T.F_l_odd.kp T.b_l_odd .nil pass0 (pa_cons (pv 0) pa_nil)) pa_nil))) (pg_tup rfl (pgs_cons (pg_name (i := 5) sc_l_singles_right.nd rfl (.inr rfl)) (pgs_cons (pg_name (i := 6) sc_l_singles_right.nd rfl (.inr rfl)) pgs_nil))))
(pss_cons (ps_set (i := 4) sc_l_singles_right.nd rfl (.inr rfl) (pe_call G_l_choice (hr.mono (by decide)) (by rfl) T.g_l_choice T.F_l_choice.kp T.b_l_choice .nil pass0 (pa_cons (pv 0) (pa_cons (pe_litL (LitAll.cons Lit.int (LitAll.cons Lit.int (LitAll.cons Lit.int (LitAll.cons Lit.int (LitAll.cons Lit.neg (LitAll.cons Lit.bl (LitAll.cons Lit.non (LitAll.cons Lit.str (LitAll.cons (Lit.tup LitAll.nil (by decide)) (LitAll.cons (Lit.lst LitAll.nil (by decide)) (LitAll.cons (Lit.pow Lit.int Lit.int (by decide) (by decide) (by decide)) LitAll.nil))))))))))) (by decide)) pa_nil))))
(pss_cons (ps_set (i := 1) sc_l_singles_right.nd rfl (.inl rfl) (pe_lstN (pa_cons (pe_call G_l_is_window (hr.mono (by decide)) (by rfl) T.g_l_is_window T.F_l_is_window.kp T.b_l_is_window .nil pass0 (pa_cons (pv 5) pa_nil)) (pa_cons (pe_call G_l_is_window (hr.mono (by decide)) (by rfl) T.g_l_is_window T.F_l_is_window.kp T.b_l_is_window .nil pass0 (pa_cons (pv 6) pa_nil)) pa_nil))))
(pss_cons (ps_if (pt_cmpR op_ne (pe_callB (call_reprN (hr.mono (by decide))) (by rfl) T.m_repr (by decide +kernel) (pa_cons (pe_lstN (pa_cons (L2.pe_call G_is_window (hr.room.mono (by decide)) (by rfl) T.g_is_window T.F_is_window.kp T.b_is_window .nil pass0 (pa_cons (pv 5) pa_nil)) (pa_cons (pe_callW G_is_window (hr.room.mono (by decide)) (by rfl) T.g_is_window T.F_is_window.kp T.kb_is_window_value pass0 (pk_cons (pv 6) pk_nil)) pa_nil))) pa_nil)) (pe_callB (call_reprN (hr.mono (by decide))) (by rfl) T.m_repr (by decide +kernel) (pa_cons (pv 1) pa_nil)) (nomark _))
(pss_one (ps_ret pe_bl))
pss_nil)
(C8.pss_cut (ps_set (i := 2) sc_l_singles_right.nd rfl (.inl rfl) (pe_ifExp (pt_not (pt_val (pe_ix ix_list (pv 1) pe_int (fun _ _ => rfl)))) (pe_lstN (pa_cons pe_str (pa_cons (pv 5) pa_nil))) (pe_ifExp (pt_not (pt_val (pe_call G_l_is_count (hr.mono (by decide)) (by rfl) T.g_l_is_count T.F_l_is_count.kp T.b_l_is_count .nil pass0 (pa_cons (pv 4) pa_nil)))) (pe_lstN (pa_cons pe_str (pa_cons (pv 4) pa_nil))) pe_non)))
(pss_cons (ps_set (i := 3) sc_l_singles_right.nd rfl (.inl rfl) (pe_lamG (T := TT A) T.F_l_told (by rfl) T.g_l_told T.b_l_told sc_l_told rfl (.inl rfl) (gives_l_told T _) TB.p_l_singles_right rfl (.head _) (one_l_singles_right T) (hr.mono (by decide)) (LamX.lamS_by (show LamX.lamSB (defScope s_l_singles_right) _ = true by decide +kernel)) rfl (fun _ _ _ _ _ => rfl) (fun _ _ _ _ _ _ _ hr => (L2.pe_call G_contains (hr.room.mono (by decide)) (by rfl) T.g_contains T.F_contains.kp T.b_contains .nil passLam (pa_cons (pv 5) (pa_cons (pv 4) pa_nil))))))
(C8.pss_cut (ps_if (PW.pt (pw_or (PW.pt (pw_and (pt_cmpR op_notNN (pv 2) pe_non (nomark _)) (pw_and1 (pt_cmpR op_ne (pv 3) (pe_callB (call_reprN (hr.mono (by decide))) (by rfl) T.m_repr (by decide +kernel) (pa_cons (pv 2) pa_nil)) (nomark _))))) (pw_or1 (PW.pt (pw_and (pt_cmpR op_isNN (pv 2) pe_non (nomark _)) (pw_and1 (pt_cmpR op_ne (pe_slice sl_str (pv 3) (po_some pe_int) (po_some pe_int)) pe_str (nomark _))))))))
(pss_one (ps_ret pe_bl))
pss_nil)
(pss_cons (ps_set (i := 3) sc_l_singles_right.nd rfl (.inl rfl) (pe_lamG (T := TT A) T.F_l_told (by rfl) T.g_l_told T.b_l_told sc_l_told rfl (.inl rfl) (gives_l_told T _) TB.p_l_singles_right rfl (.head _) (one_l_singles_right T) (hr.mono (by decide)) (LamX.lamS_by (show LamX.lamSB (defScope s_l_singles_right) _ = true by decide +kernel)) rfl (fun _ _ _ _ _ => rfl) (fun _ _ _ _ _ _ _ hr => (L2.pe_call G_rises (hr.room.mono (by decide)) (by rfl) T.g_rises T.F_rises.kp T.b_rises .nil passLam (pa_cons (pv 5) (pa_cons (pv 6) pa_nil))))))
(C8.pss_cut (ps_set (i := 2) sc_l_singles_right.nd rfl (.inl rfl) (pe_ifExp (pt_cmpR op_notIn_seq pe_bl (pv 1) (by rfl)) pe_non (pe_lstN (pa_cons pe_str (pa_cons (pe_ix ix_list (pe_lstN (pa_cons (pv 5) (pa_cons (pv 6) pa_nil))) (pe_bm PySem.F.plainAttrs_list PySem.F.slot_list_index PySem.F.type_list_index mt_index (pv 1) (pa_cons pe_bl pa_nil)) (fun _ _ => rfl)) pa_nil)))))
(C8.pss_cut (ps_if (PW.pt (pw_or (PW.pt (pw_and (pt_cmpR op_notNN (pv 2) pe_non (nomark _)) (pw_and1 (pt_cmpR op_ne (pv 3) (pe_callB (call_reprN (hr.mono (by decide))) (by rfl) T.m_repr (by decide +kernel) (pa_cons (pv 2) pa_nil)) (nomark _))))) (pw_or1 (PW.pt (pw_and (pt_cmpR op_isNN (pv 2) pe_non (nomark _)) (pw_and1 (pt_cmpR op_ne (pe_slice sl_str (pv 3) (po_some pe_int) (po_some pe_int)) pe_str (nomark _))))))))
(pss_one (ps_ret pe_bl))
pss_nil)
(pss_one (ps_ret (pe_or (pe_ix ix_list (pv 1) pe_int (fun _ _ => rfl)) (pe_one (pe_cmpR op_eq (pe_lamG (T := TT A) T.F_l_told (by rfl) T.g_l_told T.b_l_told sc_l_told rfl (.inl rfl) (gives_l_told T _) TB.p_l_singles_right rfl (.head _) (one_l_singles_right T) (hr.mono (by decide)) (LamX.lamS_by (show LamX.lamSB (defScope s_l_singles_right) _ = true by decide +kernel)) rfl (fun _ _ _ _ _ => rfl) (fun _ _ _ _ _ _ _ hr => (L2.pe_call G_format_window (hr.room.mono (by decide)) (by rfl) T.g_format_window T.F_format_window.kp T.b_format_window .nil passLam (pa_cons (pv 5) pa_nil)))) (pe_callB (call_reprN (hr.mono (by decide))) (by rfl) T.m_repr (by decide +kernel) (pa_cons (pe_lstN (pa_cons pe_str (pa_cons (pv 5) pa_nil))) pa_nil)) (nomark _)))))))))))))))), ?_⟩
    repeat (walk_at "st")
    refine ⟨r, rfl, hR, fun v1 d1 G1 hp1 ok1 r1 o1 => ?_⟩
    have hd1 : DaS K (wo r G1) v1 d1 := hp1.same (newP_wo (show H r = some _ from Classical.choose_spec (Classical.choose_spec hR) |>.1))
    repeat (walk_at "st")
    refine ⟨r, rfl, r1, fun v2 d2 G2 hp2 ok2 r2 o2 => ?_⟩
    have hd2 : DaS K (wo r G2) v2 d2 := hp2.same (newP_wo (show G1 r = some _ from Classical.choose_spec (Classical.choose_spec r1) |>.1))
    clear hp1 hp2
    repeat (walk_at "st")
    refine i_new fun p3 G3 n3 s3 e3 => ?_
    repeat (walk_at "st")
    refine i_litL fun p4 xs4 G4 n4 z4 s4 e4 d4 => ?_
    have l4 : xs4.length = 11 := d4.len
    repeat (walk_at "st")
    obtain ⟨ra, rb, hr3, hb3⟩ := r2.same s3
    refine ⟨r, r2.same (s3.trans s4), .inl ⟨_, _, rfl, e4, (Rok.same s3 r2).ne n4, by omega, by omega, fun v5 G5 hv5 r5 o5 => ?_⟩⟩
    obtain ⟨dn, hdn, kn⟩ := d4.mem v5 hv5
    have hn : DaS K G5 v5 dn := wo_dat (kn.same ((newP_wo hr3).trans o5.wo))
    have bn : Shc dn 100 3 := shc_all num_all hdn
    have o25 : Off r G2 G5 := fun b o n h => o5 b o n (s4 _ _ (s3 _ _ h))
    have h1 : DaS K G5 v1 d1 := wo_dat (hd1.same (Off.wo (o2.trans o25)))
    have h2 : DaS K G5 v2 d2 := wo_dat (hd2.same (Off.wo o25))
    have off5 : Off r H G5 := o1.trans (o2.trans o25)
    have t5 : LamX.Tabs (TT A) G5 := tabs_rng tabs hR off5
    clear hd1 hd2 d4 kn o25 o5 s3 s4 o1 o2 hr3 r1 r2
    obtain ⟨b1, _⟩ := ok1
    obtain ⟨b2, _⟩ := ok2
    repeat (walk_at "st")
    refine ⟨_, _, rfl, h1.da, fun G6 s6 => ?_⟩
    repeat (walk_at "st")
    refine ⟨_, _, rfl, h2.da.same s6, fun G7 s7 => ?_⟩
    repeat (walk_at "st")
    refine i_newN fun p8 G8 n8 z8 s8 e8 => ?_
    repeat (walk_at "st")
    refine ⟨_, _, rfl, h1.da.same (s6.trans (s7.trans s8)), fun G9 s9 => ?_⟩
    repeat (walk_at "st")
    refine ⟨_, _, rfl, h2.da.same (s6.trans (s7.trans (s8.trans s9))), fun G10 s10 => ?_⟩
    repeat (walk_at "st")
    refine i_newN fun p11 G11 n11 z11 s11 e11 => ?_
    repeat (walk_at "st")
    have s511 : Same G5 G11 := s6.trans (s7.trans (s8.trans (s9.trans (s10.trans s11))))
    have h1 := h1.same s511
    have h2 := h2.same s511
    have hn := hn.same s511
    have e8' : G11 p8 = _ := s11 _ _ (s10 _ _ (s9 _ _ e8))
    have r11 := r5.same s511
    have t11 := tabs_same s511 t5
    have x11 : XOff r H G11 := XOff.ofO (off5.trans (.of_same s511))
    clear s6 s7 s8 s9 s10 s11 s511 e8 n8 n11 e11 r5 t5 off5
    refine i_cut (fun σ' G' => ∃ y, σ' = [some (.ref r), some (.ref p8), some y, none, some v5, some v1, some v2] ∧ Same G11 G' ∧ DueV K G' y (outC d1 dn)) ?_ ?_
    · repeat (walk_at "st")
      refine i_ite (fun e => ?_) (fun e => ?_)
      · have e' : winB d1 = false := by simpa using e
        repeat (walk_at "st")
        refine i_newN fun p12 G12 n12 z12 s12 e12 => ?_
        repeat (walk_at "st")
        refine Or.inr ⟨_, rfl, ?_⟩
        have eo : outC d1 dn = told1 "window" d1 := by
          unfold outC
          rw [winB_none e']
        rw [eo]
        exact da_told z12 e12 (h1.same s12)
      · have e' : winB d1 = true := by simpa using e
        obtain ⟨w, hw⟩ := Option.isSome_iff_exists.mp (show (winP d1).isSome = true from e')
        repeat (walk_at "st")
        refine ⟨_, _, rfl, hn.da, fun G12 s12 => ?_⟩
        repeat (walk_at "st")
        refine i_ite (fun e2 => ?_) (fun e2 => ?_)
        · have e2' : verD dn = false := by simpa using e2
          repeat (walk_at "st")
          refine i_newN fun p13 G13 n13 z13 s13 e13 => ?_
          repeat (walk_at "st")
          refine ⟨s12.trans s13, Or.inr ⟨_, rfl, ?_⟩⟩
          have eo : outC d1 dn = told1 "version" dn := by
            unfold outC
            rw [hw, e2']
            rfl
          rw [eo]
          exact da_told z13 e13 (hn.same (s12.trans s13))
        · have e2' : verD dn = true := by simpa using e2
          repeat (walk_at "st")
          exact Or.inl ⟨rfl, outC_due e' e2'⟩
    rintro σ12 G12 ⟨y, rfl, s12, due⟩
    repeat (walk_at "st")
    refine told_contains rfl rfl (h1.same s12) (hn.same s12) b1 bn (tabs_same s12 t11) fun G13 x13 t13 => ?_
    repeat (walk_at "st")
    refine i_cut (fun σ' G' => σ' = [some (.ref r), some (.ref p8), some y, some (.str (outC d1 dn).shown), some v5, some v1, some v2] ∧ G' = G13) (i_check (K := K) rfl rfl (due.extN x13) (outC_shw b1 bn) ⟨rfl, rfl⟩) ?_
    rintro σ13 G13' ⟨rfl, rfl⟩
    have x1113 : LamX.ExtN G11 G13' := extN_thenE x13 (extN_ofS s12)
    have h1 := h1.extN x1113
    have h2 := h2.extN x1113
    have e13 : G13' p8 = _ := extN_get x1113 e8'
    have r13 := r11.extN x1113
    have xo13 := x11.thenX x1113
    clear due s12 x13 x1113 t11 x11 r11 e8' hn
    repeat (walk_at "st")
    refine told_rises rfl rfl h1 h2 b1 b2 t13 fun G14 x14 t14 => ?_
    have h1 := h1.extN x14
    have h2 := h2.extN x14
    have e14 : G14 p8 = _ := extN_get x14 e13
    have r14 := r13.extN x14
    have xo14 := xo13.thenX x14
    clear x14 e13 r13 xo13 t13
    repeat (walk_at "st")
    refine i_cut (fun σ' G' => ∃ y, σ' = [some (.ref r), some (.ref p8), some y, some (.str (outR d1 d2).shown), some v5, some v1, some v2] ∧ Same G14 G' ∧ DueV K G' y (outR d1 d2)) ?_ ?_
    · repeat (walk_at "st")
      refine i_rNinL (xs := [winB d1, winB d2].map V.bl) (SqL.of e14) rfl (flat_bools _) ?_
      rw [inV_bool]
      repeat (walk_at "st")
      cases c1 : winB d1 with
      | false =>
        refine i_ff (by rw [List.contains_cons]; rfl) ?_
        repeat (walk_at "st")
        refine i_newN fun p15 G15 n15 z15 s15 e15 => ?_
        repeat (walk_at "st")
        refine i_indexB (bs := [winB d1, winB d2]) (SqL.of (s15 _ _ e14)) (by rw [c1]; simp) ?_
        rw [c1]
        repeat (walk_at "st")
        refine i_newN fun p16 G16 n16 z16 s16 e16 => ?_
        repeat (walk_at "st")
        refine ⟨s15.trans s16, Or.inr ⟨_, rfl, ?_⟩⟩
        have eo : outR d1 d2 = told1 "window" d1 := by
          unfold outR
          rw [winB_none c1]
        rw [eo]
        exact da_told z16 e16 (h1.same (s15.trans s16))
      | true =>
        obtain ⟨w, hw⟩ := Option.isSome_iff_exists.mp (show (winP d1).isSome = true from c1)
        cases c2 : winB d2 with
        | false =>
          refine i_ff (by rfl) ?_
          repeat (walk_at "st")
          refine i_newN fun p15 G15 n15 z15 s15 e15 => ?_
          repeat (walk_at "st")
          refine i_indexB (bs := [winB d1, winB d2]) (SqL.of (s15 _ _ e14)) (by rw [c1, c2]; simp) ?_
          rw [c1, c2]
          repeat (walk_at "st")
          refine i_newN fun p16 G16 n16 z16 s16 e16 => ?_
          repeat (walk_at "st")
          refine ⟨s15.trans s16, Or.inr ⟨_, rfl, ?_⟩⟩
          have eo : outR d1 d2 = told1 "window" d2 := by
            unfold outR
            rw [hw, winB_none c2]
          rw [eo]
          exact da_told z16 e16 (h2.same (s15.trans s16))
        | true =>
          obtain ⟨u, hu⟩ := Option.isSome_iff_exists.mp (show (winP d2).isSome = true from c2)
          refine i_tt (by rfl) ?_
          repeat (walk_at "st")
          exact ⟨Same.refl _, Or.inl ⟨rfl, outR_due c1 c2⟩⟩
    rintro σ15 G15 ⟨y2, rfl, s15, due⟩
    refine i_cut (fun σ' G' => σ' = [some (.ref r), some (.ref p8), some y2, some (.str (outR d1 d2).shown), some v5, some v1, some v2] ∧ G' = G15) (i_check (K := K) rfl rfl due (outR_shw b1 b2) ⟨rfl, rfl⟩) ?_
    rintro σ16 G16 ⟨rfl, rfl⟩
    have e16 : G16 p8 = _ := s15 _ _ e14
    repeat (walk_at "st")
    refine i_ite (fun e => ?_) (fun e => ?_)
    · have q' := q G16 (xo14.thenX (extN_ofS s15)) (r14.same s15) (tabs_same s15 t14)
      exact q'
    · refine told_format rfl (h1.same s15) e b1 (tabs_same s15 t14) fun G17 x17 t17 => ?_
      have x1417 : LamX.ExtN G14 G17 := extN_thenE x17 (extN_ofS s15)
      have h17 := h1.extN x1417
      repeat (walk_at "st")
      refine i_newN fun p18 G18 n18 z18 s18 e18 => ?_
      have da18 := da_told z18 e18 (h17.same s18)
      have w18 := shw_told okS_window b1
      repeat (walk_at "st")
      exact q _ ((xo14.thenX x1417).thenX (extN_ofS s18)) ((r14.extN x1417).same s18) (tabs_same s18 t17)
end
end KX

namespace KX
open PySem PySem.Spec PyProof.Rows L2

local macro_rules | `(tactic| walk_at "kp") => `(tactic| first
  | with_reducible exact Kp.refl
  | with_reducible exact Kp.thenS (by assumption) (by walk_at "kp")
  | with_reducible exact Kp.thenO (by assumption) (by walk_at "ne") (by walk_at "kp")
  | fail)
local macro_rules | `(tactic| walk_at "hq") => `(tactic| first
  | assumption
  | with_reducible exact Kp.get (by assumption) (by walk_at "kp")
  | fail)
local macro_rules | `(tactic| walk_at "hg") => `(tactic| first
  | walk_at "hq"
  | exact upd_same
  | with_reducible exact (upd_ne (by walk_at "ne")).trans (by walk_at "hg")
  | with_reducible exact Same.get (by assumption) (by walk_at "hg")
  | with_reducible exact Off.get (by assumption) (by walk_at "ne") (by walk_at "hg")
  | fail)
local macro_rules | `(tactic| walk_at "ne") => `(tactic| first
  | assumption
  | (apply Ne.symm; assumption)
  | exact Rok.ne' (by assumption) (by walk_at "rok")
  | exact (Rok.ne' (by assumption) (by walk_at "rok")).symm
  | exact ne_some (by assumption) (by walk_at "hg")
  | exact (ne_some (by assumption) (by walk_at "hg")).symm
  | fail)
local macro_rules | `(tactic| walk_at "rok") => `(tactic| first
  | assumption
  | with_reducible exact Rok.kp (by assumption) (by walk_at "kp")
  | with_reducible exact Rok.same (by assumption) (by walk_at "rok")
  | fail)
local macro_rules | `(tactic| walk_at "sq") => `(tactic| first
  | assumption
  | exact Same.seq (by assumption) (by assumption)
  | (with_reducible show SqL _ _ _ _; with_reducible exact SqL.of (by walk_at "hg"))
  | (with_reducible show SqT _ _ _ _; with_reducible exact SqT.of (by walk_at "hg"))
  | fail)
local macro_rules | `(tactic| walk_at "dac") => `(tactic| first
  | assumption
  | exact DaF.same (by assumption) (by walk_at "dac")
  | fail)
local macro_rules | `(tactic| walk_at "da") => `(tactic| first
  | exact (DaF.non : DaS _ _ _ _)
  | exact (DaF.bl _ : DaS _ _ _ _)
  | exact (DaF.int _ : DaS _ _ _ _)
  | exact (DaF.str _ : DaS _ _ _ _)
  | exact DaF.non
  | exact DaF.bl _
  | exact DaF.int _
  | exact DaF.str _
  | walk_at "dac"
  | with_reducible exact DaF.lst (SqL.of (by walk_at "hq")) (fun _ => by assumption) (by walk_at "das")
  | with_reducible exact Da.lst (SqL.of (by walk_at "hq")) (by walk_at "das")
  | with_reducible exact DaF.tup (SqT.of (by walk_at "hq")) (by walk_at "das")
  | with_reducible exact DaF.dic (Rd.of (by walk_at "hq")) (by walk_at "dak")
  | fail)
local macro_rules | `(tactic| walk_at "das") => `(tactic| first
  | assumption
  | exact DaAllF.nil
  | exact DaAllF.cons (by walk_at "da") (by walk_at "das")
  | fail)
local macro_rules | `(tactic| walk_at "dak") => `(tactic| first
  | assumption
  | exact DaKvF.nil
  | exact DaKvF.cons (by walk_at "da") (by walk_at "dak")
  | fail)
local macro_rules | `(tactic| walk_at "shw") => `(tactic| first
  | assumption
  | exact shw_b2 _ _
  | exact ⟨by decide +kernel, by decide +kernel, by decide +kernel⟩
  | fail)
local macro_rules | `(tactic| walk_at "nod") => `(tactic| first
  | exact .inl rfl
  | exact .inr rfl
  | assumption
  | exact .inr (by assumption)
  | fail)
local macro_rules | `(tactic| walk_at "okd") => `(tactic| first
  | assumption
  | exact okd_of (by decide +kernel)
  | fail)
local macro_rules | `(tactic| walk_at "off") => `(tactic| first
  | assumption
  | exact Off.refl _ _
  | exact Same.refl _
  | with_reducible exact Same.thenS (by assumption) (by walk_at "off")
  | with_reducible exact Off.thenS (by assumption) (by walk_at "off")
  | with_reducible exact Off.thenO (by assumption) (by walk_at "off")
  | with_reducible exact Same.thenF (by assumption) (by assumption) (by walk_at "off") (by walk_at "off")
  | with_reducible exact Off.thenF (by assumption) (by assumption) (by walk_at "off") (by walk_at "off")
  | fail)
local macro_rules | `(tactic| walk_at "side") => `(tactic| first
  | assumption
  | omega
  | decide
  | (simp only [List.length_append, List.length_cons, List.length_nil]; decide)
  | exact ⟨by omega, by omega⟩
  | exact ⟨by omega, PyProof.noPylong_of_log2 (by first | assumption | decide)⟩
  | exact .inl ⟨by omega, by omega⟩
  | exact .inr ⟨by omega, by omega⟩
  | exact ⟨by decide, by decide, by decide⟩
  | exact ⟨by decide, by decide, by omega⟩
  | fail)
local macro_rules | `(tactic| walk_at "st") => `(tactic| first
  | with_reducible refine i_seq ?_
  | with_reducible refine i_bi ?_
  | with_reducible refine i_raise ?_
  | with_reducible refine i_callX ?_
  | with_reducible refine i_tryN ?_
  | with_reducible refine i_isNon ?_
  | with_reducible refine i_isNotNon ?_
  | ((with_reducible refine' i_split ?h ?z ?_); (case h => rfl); (case z => walk_at "side"))
  | with_reducible refine i_find ?_
  | ((with_reducible refine i_strI ?h ?_); (case h => walk_at "side"))
  | with_reducible refine i_fmt ?_
  | ((with_reducible refine i_fmS ?h ?_); (case h => walk_at "side"))
  | ((with_reducible refine i_fmI ?h ?_); (case h => walk_at "side"))
  | with_reducible refine i_jn ?_
  | with_reducible refine i_js0 ?_
  | with_reducible refine i_js1 ?_
  | ((with_reducible refine i_jsR ?h ?_); (case h => walk_at "side"))
  | with_reducible refine i_revS ?_
  | ((with_reducible refine i_exrev ?h ?_); (case h => walk_at "side"))
  | with_reducible refine i_revL ?_
  | ((with_reducible refine' i_exrevL ?h ?_); (case h => walk_at "sq"))
  | with_reducible refine i_par3 ?_
  | with_reducible refine i_ex3 ?_
  | with_reducible refine i_stB ?_
  | with_reducible refine i_mk0 ?_
  | with_reducible refine i_asg ?_
  | with_reducible refine i_c ?_
  | ((with_reducible refine' i_var ?h ?_); (case h => rfl))
  | with_reducible refine i_op ?_
  | with_reducible refine i_cons ?_
  | with_reducible refine i_nil ?_
  | ((with_reducible refine' i_gName ?h ?_); (case h => rfl))
  | with_reducible refine i_rI0 ?_
  | ((with_reducible refine i_rI ?h ?_); (case h => walk_at "side"))
  | with_reducible refine i_test ?_
  | with_reducible refine i_exbl ?_
  | with_reducible refine i_exint ?_
  | with_reducible refine i_exs ?_
  | with_reducible refine i_ret ?_
  | with_reducible refine i_next ?_
  | with_reducible refine i_ifS ?_
  | ((with_reducible refine' i_rIxL ?h ?e ?_); (case h => walk_at "sq"); (case e => first | assumption | rfl))
  | ((with_reducible refine' i_rIxT ?h ?e ?_); (case h => walk_at "sq"); (case e => first | assumption | rfl))
  | ((with_reducible refine' i_rIxS ?h ?e ?_); (case h => walk_at "side"); (case e => first | assumption | rfl))
  | with_reducible refine i_un ?_
  | with_reducible refine i_rU ?_
  | ((with_reducible refine i_rEqSame ?h ?_); (case h => rfl))
  | ((with_reducible refine i_rNeSame ?h ?_); (case h => rfl))
  | ((with_reducible refine i_rEq ?h ?_); (case h => rfl))
  | ((with_reducible refine i_rNe ?h ?_); (case h => rfl))
  | with_reducible refine i_tB ?_
  | with_reducible refine i_and ?_
  | with_reducible refine i_or ?_
  | with_reducible refine i_not ?_
  | with_reducible refine i_andV ?_
  | with_reducible refine i_orV ?_
  | with_reducible refine i_notV ?_
  | with_reducible refine i_if ?_
  | with_reducible refine i_chain ?_
  | with_reducible refine i_drop ?_
  | with_reducible refine i_retN ?_
  | with_reducible refine i_par ?_
  | with_reducible refine i_ex2 ?_
  | ((with_reducible refine' i_aug ?h ?_); (case h => rfl))
  | with_reducible refine i_gNil ?_
  | with_reducible refine i_gCons ?_
  | ((with_reducible refine' i_gTup ?h ?e ?_); (case h => walk_at "sq"); (case e => rfl))
  | with_reducible refine i_gSub ?_
  | ((with_reducible refine' i_rSetL ?h ?e ?_); (case h => walk_at "hg"); (case e => first | assumption | rfl))
  | with_reducible refine i_tup ?_
  | with_reducible refine i_lst ?_
  | with_reducible refine i_lstN ?_
  | with_reducible refine i_newDK ?_
  | with_reducible refine i_disp ?_
  | with_reducible refine i_pairs0 ?_
  | with_reducible refine i_pairs1 ?_
  | with_reducible refine i_call ?_
  | with_reducible refine i_cb ?_
  | with_reducible refine i_bm ?_
  | with_reducible refine i_m1 ?_
  | with_reducible refine i_m0 ?_
  | ((with_reducible refine' i_rAppend ?h ?e ?_); (case h => walk_at "hg"); (case e => walk_at "side"))
  | ((with_reducible refine i_rSlS ?h ?_); (case h => walk_at "side"))
  | ((with_reducible refine' i_rSlL ?h ?_); (case h => walk_at "sq"))
  | with_reducible refine i_sl ?_
  | with_reducible refine i_noPart ?_
  | with_reducible refine i_part ?_
  | with_reducible refine i_rng1 ?_
  | with_reducible refine i_iList ?_
  | with_reducible refine i_iStr ?_
  | with_reducible refine i_iEnum ?_
  | with_reducible refine i_iZip ?_
  | with_reducible refine i_ez ?_
  | ((with_reducible refine' i_exen ?h ?_); (case h => walk_at "sq"))
  | ((with_reducible refine' i_exz ?h ?k ?_); (case h => walk_at "sq"); (case k => walk_at "sq"))
  | ((with_reducible refine' i_listN ?h ?_); (case h => walk_at "sq"))
  | with_reducible refine i_intB ?_
  | ((with_reducible refine' i_listTN ?h ?_); (case h => walk_at "sq"))
  | with_reducible refine i_revT ?_
  | ((with_reducible refine' i_exrevT ?h ?_); (case h => walk_at "sq"))
  | ((with_reducible refine' i_catA ?h ?k ?a ?b ?z ?_); (case h => walk_at "sq"); (case k => walk_at "sq"); (case a => simp); (case b => simp); (case z => walk_at "side"))
  | ((with_reducible refine' i_slTA ?h ?k ?_); (case h => walk_at "sq"); (case k => simp only [List.length_cons, List.length_nil]; decide))
  | ((with_reducible refine' i_countF ?h ?k ?a ?_); (case h => walk_at "sq"); (case k => rfl); (case a => rfl))
  | with_reducible refine i_iTup ?_
  | ((with_reducible refine' i_exlT ?h ?_); (case h => walk_at "sq"))
  | ((with_reducible refine' i_rCatN ?h ?e ?z ?_); (case h => walk_at "hg"); (case e => walk_at "hg"); (case z => walk_at "side"))
  | with_reducible refine i_tryC ?_
  | ((with_reducible refine' i_tupL ?h ?_); (case h => walk_at "sq"))
  | ((with_reducible refine' i_neNil ?h ?k ?_); (case h => walk_at "sq"); (case k => walk_at "sq"))
  | ((with_reducible refine' i_eqNil ?h ?k ?_); (case h => walk_at "sq"); (case k => walk_at "sq"))
  | ((with_reducible refine' i_reprE ?h ?e ?_); (case h => walk_at "da"); (case e => walk_at "shw"))
  | ((with_reducible refine' i_tyL ?h ?_); (case h => walk_at "sq"))
  | with_reducible refine i_isBl ?_
  | ((with_reducible refine i_callW ?_))
  | ((with_reducible refine i_exrng ?h1 ?h2 ?_); (case h1 => walk_at "side"); (case h2 => walk_at "side"))
  | ((with_reducible refine' i_exl ?h ?_); (case h => walk_at "sq"))
  | with_reducible refine i_for ?_
  | with_reducible refine i_lc ?_
  | with_reducible refine i_yes ?_
  | with_reducible refine i_iteT ?_
  | with_reducible refine i_iteF ?_
  | ((with_reducible refine i_divmod ?h ?_); (case h => walk_at "side"))
  | ((with_reducible refine' i_isi ?h ?e ?_); (case h => walk_at "da"); (case e => decide))
  | ((with_reducible refine i_lenS ?h ?_); (case h => walk_at "side"))
  | ((with_reducible refine' i_lenL ?h ?_); (case h => walk_at "sq"))
  | ((with_reducible refine' i_lenT ?h ?_); (case h => walk_at "sq"))
  | ((with_reducible refine' i_repr ?h ?n ?e ?_); (case h => walk_at "da"); (case n => walk_at "nod"); (case e => walk_at "shw"))
  | ((with_reducible refine' i_rCat ?h ?e ?z ?_); (case h => walk_at "hg"); (case e => walk_at "hg"); (case z => walk_at "side"))
  | ((with_reducible refine i_rCatS ?h ?_); (case h => walk_at "side"))
  | with_reducible refine i_exstr ?_
  | ((with_reducible refine' i_join ?h ?z ?_); (case h => walk_at "sq"); (case z => walk_at "side"))
  | with_reducible refine i_abs ?_
  | with_reducible refine i_max ?_
  | with_reducible refine i_min ?_
  | ((with_reducible refine' i_rAll ?h ?_); (case h => walk_at "sq"))
  | ((with_reducible refine' i_lcEl ?h ?e ?_); (case h => walk_at "hg"); (case e => walk_at "side"))
  | with_reducible refine ⟨_, _, rfl, rfl, ?_⟩
  | with_reducible refine ⟨_, _, rfl, ?_⟩
  | with_reducible refine ⟨_, rfl, ?_⟩
  | with_reducible refine And.intro rfl ?_
  | ((with_reducible refine And.intro ?h ?_); (case h => walk_at "side"))
  | fail)

section
variable {P : Program} {w : World} {K : PySem.W.Frag} {mg : Str → Option Value} {base : Heap} {A : Ad}
def vD : V → PyData
  | .int i => .int i
  | _ => .none
theorem badV_cases {d : PyData} {o : V} (h : badV d = some o) : ∀ K H, DaS K H o (vD o) := by
  intro K H
  cases d with
  | list ds =>
    replace h : (ds.findIdx? fun d => !winB d).map (fun i => V.int (i : Nat)) = some o := h
    rw [Option.map_eq_some_iff] at h
    obtain ⟨i, _, rfl⟩ := h
    exact .int _
  | _ => cases h; exact .non
theorem badV_lt {d : PyData} {i : Int} (h : badV d = some (.int i)) (hl : ∀ ds, d = .list ds → ds.length ≤ 4) : 0 ≤ i ∧ i < 5 := by
  cases d with
  | list ds =>
    replace h : (ds.findIdx? fun d => !winB d).map (fun i => V.int (i : Nat)) = some (.int i) := h
    rw [Option.map_eq_some_iff] at h
    obtain ⟨j, hj, e⟩ := h
    have := hl ds rfl
    have := (List.findIdx?_eq_some_iff_getElem.mp hj).1
    cases e
    omega
  | _ => cases h
def winsD : PyData → List (Int × Option Int)
  | .list ds => ds.filterMap winP
  | _ => []
theorem winsD_of {ws : List (Int × Option Int)} (h : ∀ w ∈ ws, okW w) : winsD (.list (ws.map winD)) = ws := by
  show (ws.map winD).filterMap winP = ws
  induction ws with
  | nil => rfl
  | cons w r ih =>
    rw [List.map_cons, List.filterMap_cons, winP_D (h w (by simp))]
    dsimp only
    rw [ih fun x hx => h x (List.mem_cons_of_mem _ hx)]
/-- what first_falling and least_reaching are told to do -/
def outF (d : PyData) : PyData := match badV d with
  | some o => told1 "windows" (vD o)
  | none => told1 "told" (posD (fallI (winsD d)))
def outL (d dn : PyData) : PyData := match badV d with
  | some o => told1 "windows" (vD o)
  | none => match fallI (winsD d) with
    | some i => told1 "windows" (.int (i : Nat))
    | none => if verD dn = true then told1 "told" (posD (match dn with | .int n => leastI n (winsD d) | _ => none)) else told1 "version" dn
theorem fallAt_lt {i k : Nat} {w : Int × Option Int} {r : List (Int × Option Int)} (h : fallAt i w r = some k) : k < i + r.length := by
  induction r generalizing i w with
  | nil => cases h
  | cons u r ih =>
    unfold fallAt at h
    split at h
    · have := ih h
      simp only [List.length_cons]; omega
    · cases h
      simp only [List.length_cons]; omega
theorem fallI_lt {k : Nat} {ws : List (Int × Option Int)} (h : fallI ws = some k) : k < ws.length := by
  cases ws with
  | nil => cases h
  | cons w r =>
    have := fallAt_lt h
    simp only [List.length_cons]; omega
theorem shc_nat {i : Int} (h0 : 0 ≤ i) (h : i < 10) : Shc (.int i) 100 3 := by
  have k : ((List.range 10).all fun j => shcB (.int (j : Nat)) 100 3) = true := by decide +kernel
  have := List.all_eq_true.mp k i.toNat (List.mem_range.mpr (by omega))
  have e : ((i.toNat : Nat) : Int) = i := by omega
  rw [e] at this
  exact shc_of this
theorem shc_pos {o : Option Nat} (h : ∀ k, o = some k → k < 10) : Shc (posD o) 100 3 := by
  cases o with
  | none => exact Shc.non.mono (by omega) (by omega)
  | some k => exact shc_nat (by omega) (by have := h k rfl; omega)
theorem shc_vD {d : PyData} {o : V} (h : badV d = some o) (hl : ∀ ds, d = .list ds → ds.length ≤ 4) : Shc (vD o) 100 3 := by
  cases o with
  | int i => have := badV_lt h hl; exact shc_nat this.1 (by omega)
  | _ => exact Shc.non.mono (by omega) (by omega)
theorem winsD_len {d : PyData} (hl : ∀ ds, d = .list ds → ds.length ≤ 4) : (winsD d).length ≤ 4 := by
  cases d with
  | list ds => exact Nat.le_trans (List.length_filterMap_le _ _) (hl ds rfl)
  | _ => exact Nat.zero_le _
theorem outF_shw {d : PyData} (hl : ∀ ds, d = .list ds → ds.length ≤ 4) : Shw (outF d) := by
  unfold outF
  split
  · rename_i o ho
    exact shw_told okS_windows (shc_vD ho hl)
  · exact shw_told okS_told (shc_pos fun k hk => by have := fallI_lt hk; have := winsD_len hl; omega)
theorem leastI_lt {n : Int} {ws : List (Int × Option Int)} {k : Nat} (h : leastI n ws = some k) : k < ws.length := (List.findIdx?_eq_some_iff_getElem.mp h).1
theorem outL_shw {d dn : PyData} (hl : ∀ ds, d = .list ds → ds.length ≤ 4) (hn : Shc dn 100 3) : Shw (outL d dn) := by
  unfold outL
  split
  · rename_i o ho
    exact shw_told okS_windows (shc_vD ho hl)
  · split
    · rename_i i hi
      exact shw_told okS_windows (shc_nat (by omega) (by have := fallI_lt hi; have := winsD_len hl; omega))
    · split
      · refine shw_told okS_told (shc_pos fun k hk => ?_)
        split at hk
        · have := leastI_lt hk; have := winsD_len hl; omega
        · cases hk
      · exact shw_told okS_version hn
theorem told_ff {σ : L2.St} {H : Hp} {R : VK} {i : Nat} {v : V} {d : PyData} (hi : σ[i]? = some (some v)) (h1 : Da K H v d) (hl : ∀ ds, d = .list ds → ds.length ≤ 4) (t : LamX.Tabs (TT A) H)
    (q : ∀ G, LamX.ExtN H G → LamX.Tabs (TT A) G → R (.str (outF d).shown) G) : tLamG (TT A) (TTold K A) (fun E => tCall (sp_ff K A.c_InvalidWindows) [] E (tCons (tVar i) tNil)) σ H R := by
  refine i_lamG t fun G1 x1 t1 E' Q' hx hq => ?_
  refine i_call (i_cons (i_var hi (i_nil ?_)))
  have k1 : Da K G1 v d := h1.extN x1
  have w := outF_shw hl
  refine ⟨_, _, rfl, k1, fun ws e okw G3 s3 => ?_, fun o ho c G3 hc s3 ec => ?_⟩
  · subst e
    have e : outF (.list (ws.map winD)) = told1 "told" (posD (fallI ws)) := by
      unfold outF
      rw [badV_wins okw, winsD_of okw]
    rw [e] at w q
    exact hq _ _ _ (da_pos (fallI ws)) w fun G4 s4 => q G4 (extN_thenS (s3.trans s4) x1) (tabs_same (s3.trans s4) t1)
  · have e : outF d = told1 "windows" (vD o) := by
      unfold outF
      rw [ho]
    rw [e] at w q
    exact hx _ _ _ _ _ _ _ (.inr (.inl ⟨rfl, rfl, rfl⟩)) ec (badV_cases ho _ _) w fun G4 s4 => q G4 (extN_thenS (s3.trans s4) x1) (tabs_same (s3.trans s4) t1)
theorem told_least {σ : L2.St} {H : Hp} {R : VK} {i j : Nat} {v vn : V} {d dn : PyData} (hi : σ[i]? = some (some v)) (hj : σ[j]? = some (some vn)) (h1 : Da K H v d) (h2 : DaS K H vn dn) (hl : ∀ ds, d = .list ds → ds.length ≤ 4) (w2 : Shc dn 100 3) (t : LamX.Tabs (TT A) H)
    (q : ∀ G, LamX.ExtN H G → LamX.Tabs (TT A) G → R (.str (outL d dn).shown) G) : tLamG (TT A) (TTold K A) (fun E => tCall (sp_least K A.c_InvalidWindows A.c_InvalidVersion) [] E (tCons (tVar i) (tCons (tVar j) tNil))) σ H R := by
  refine i_lamG t fun G1 x1 t1 E' Q' hx hq => ?_
  refine i_call (i_cons (i_var hi (i_cons (i_var hj (i_nil ?_)))))
  have k1 : Da K G1 v d := h1.extN x1
  have k2 : DaS K G1 vn dn := h2.extN x1
  have w := outL_shw hl w2
  refine ⟨_, _, _, _, rfl, k1, k2.da, fun ws n e okw hf en n0 G3 s3 => ?_, fun o ho c G3 hc s3 ec => ?_, fun ws k e okw hf c G3 hc s3 ec => ?_, fun ws e okw hf hv c G3 hc s3 ec => ?_⟩
  · subst e en
    have e : outL (.list (ws.map winD)) (.int n) = told1 "told" (posD (leastI n ws)) := by
      unfold outL
      rw [badV_wins okw, winsD_of okw]
      dsimp only
      rw [hf]
      dsimp only
      rw [if_pos (show verD (.int n) = true from decide_eq_true n0)]
    rw [e] at w q
    exact hq _ _ _ (da_pos (leastI n ws)) w fun G4 s4 => q G4 (extN_thenS (s3.trans s4) x1) (tabs_same (s3.trans s4) t1)
  · have e : outL d dn = told1 "windows" (vD o) := by
      unfold outL
      rw [ho]
    rw [e] at w q
    exact hx _ _ _ _ _ _ _ (.inr (.inl ⟨rfl, rfl, rfl⟩)) ec (badV_cases ho _ _) w fun G4 s4 => q G4 (extN_thenS (s3.trans s4) x1) (tabs_same (s3.trans s4) t1)
  · subst e
    have e : outL (.list (ws.map winD)) dn = told1 "windows" (.int (k : Nat)) := by
      unfold outL
      rw [badV_wins okw, winsD_of okw]
      dsimp only
      rw [hf]
    rw [e] at w q
    exact hx _ _ _ _ _ _ _ (.inr (.inl ⟨rfl, rfl, rfl⟩)) ec (.int _) w fun G4 s4 => q G4 (extN_thenS (s3.trans s4) x1) (tabs_same (s3.trans s4) t1)
  · subst e
    have e : outL (.list (ws.map winD)) dn = told1 "version" dn := by
      unfold outL
      rw [badV_wins okw, winsD_of okw]
      dsimp only
      rw [hf]
      dsimp only
      rw [if_neg (by rw [hv]; decide)]
    rw [e] at w q
    exact hx _ _ _ _ _ _ _ (.inr (.inr (.inl ⟨rfl, rfl, rfl⟩))) ec (k2.same s3) w fun G4 s4 => q G4 (extN_thenS (s3.trans s4) x1) (tabs_same (s3.trans s4) t1)
end
end KX

namespace KX
open PySem PySem.Spec PyProof.Rows L2

local macro_rules | `(tactic| walk_at "kp") => `(tactic| first
  | with_reducible exact Kp.refl
  | with_reducible exact Kp.thenS (by assumption) (by walk_at "kp")
  | with_reducible exact Kp.thenO (by assumption) (by walk_at "ne") (by walk_at "kp")
  | fail)
local macro_rules | `(tactic| walk_at "hq") => `(tactic| first
  | assumption
  | with_reducible exact Kp.get (by assumption) (by walk_at "kp")
  | fail)
local macro_rules | `(tactic| walk_at "hg") => `(tactic| first
  | walk_at "hq"
  | exact upd_same
  | with_reducible exact (upd_ne (by walk_at "ne")).trans (by walk_at "hg")
  | with_reducible exact Same.get (by assumption) (by walk_at "hg")
  | with_reducible exact Off.get (by assumption) (by walk_at "ne") (by walk_at "hg")
  | fail)
local macro_rules | `(tactic| walk_at "ne") => `(tactic| first
  | assumption
  | (apply Ne.symm; assumption)
  | exact Rok.ne' (by assumption) (by walk_at "rok")
  | exact (Rok.ne' (by assumption) (by walk_at "rok")).symm
  | exact ne_some (by assumption) (by walk_at "hg")
  | exact (ne_some (by assumption) (by walk_at "hg")).symm
  | fail)
local macro_rules | `(tactic| walk_at "rok") => `(tactic| first
  | assumption
  | with_reducible exact Rok.kp (by assumption) (by walk_at "kp")
  | with_reducible exact Rok.same (by assumption) (by walk_at "rok")
  | fail)
local macro_rules | `(tactic| walk_at "sq") => `(tactic| first
  | assumption
  | exact Same.seq (by assumption) (by assumption)
  | (with_reducible show SqL _ _ _ _; with_reducible exact SqL.of (by walk_at "hg"))
  | (with_reducible show SqT _ _ _ _; with_reducible exact SqT.of (by walk_at "hg"))
  | fail)
local macro_rules | `(tactic| walk_at "dac") => `(tactic| first
  | assumption
  | exact DaF.same (by assumption) (by walk_at "dac")
  | fail)
local macro_rules | `(tactic| walk_at "da") => `(tactic| first
  | exact (DaF.non : DaS _ _ _ _)
  | exact (DaF.bl _ : DaS _ _ _ _)
  | exact (DaF.int _ : DaS _ _ _ _)
  | exact (DaF.str _ : DaS _ _ _ _)
  | exact DaF.non
  | exact DaF.bl _
  | exact DaF.int _
  | exact DaF.str _
  | walk_at "dac"
  | with_reducible exact DaF.lst (SqL.of (by walk_at "hq")) (fun _ => by assumption) (by walk_at "das")
  | with_reducible exact Da.lst (SqL.of (by walk_at "hq")) (by walk_at "das")
  | with_reducible exact DaF.tup (SqT.of (by walk_at "hq")) (by walk_at "das")
  | with_reducible exact DaF.dic (Rd.of (by walk_at "hq")) (by walk_at "dak")
  | fail)
local macro_rules | `(tactic| walk_at "das") => `(tactic| first
  | assumption
  | exact DaAllF.nil
  | exact DaAllF.cons (by walk_at "da") (by walk_at "das")
  | fail)
local macro_rules | `(tactic| walk_at "dak") => `(tactic| first
  | assumption
  | exact DaKvF.nil
  | exact DaKvF.cons (by walk_at "da") (by walk_at "dak")
  | fail)
local macro_rules | `(tactic| walk_at "shw") => `(tactic| first
  | assumption
  | exact shw_b2 _ _
  | exact ⟨by decide +kernel, by decide +kernel, by decide +kernel⟩
  | fail)
local macro_rules | `(tactic| walk_at "nod") => `(tactic| first
  | exact .inl rfl
  | exact .inr rfl
  | assumption
  | exact .inr (by assumption)
  | fail)
local macro_rules | `(tactic| walk_at "okd") => `(tactic| first
  | assumption
  | exact okd_of (by decide +kernel)
  | fail)
local macro_rules | `(tactic| walk_at "off") => `(tactic| first
  | assumption
  | exact Off.refl _ _
  | exact Same.refl _
  | with_reducible exact Same.thenS (by assumption) (by walk_at "off")
  | with_reducible exact Off.thenS (by assumption) (by walk_at "off")
  | with_reducible exact Off.thenO (by assumption) (by walk_at "off")
  | with_reducible exact Same.thenF (by assumption) (by assumption) (by walk_at "off") (by walk_at "off")
  | with_reducible exact Off.thenF (by assumption) (by assumption) (by walk_at "off") (by walk_at "off")
  | fail)
local macro_rules | `(tactic| walk_at "side") => `(tactic| first
  | assumption
  | omega
  | decide
  | (simp only [List.length_append, List.length_cons, List.length_nil]; decide)
  | exact ⟨by omega, by omega⟩
  | exact ⟨by omega, PyProof.noPylong_of_log2 (by first | assumption | decide)⟩
  | exact .inl ⟨by omega, by omega⟩
  | exact .inr ⟨by omega, by omega⟩
  | exact ⟨by decide, by decide, by decide⟩
  | exact ⟨by decide, by decide, by omega⟩
  | fail)
local macro_rules | `(tactic| walk_at "st") => `(tactic| first
  | with_reducible refine i_seq ?_
  | with_reducible refine i_bi ?_
  | with_reducible refine i_raise ?_
  | with_reducible refine i_callX ?_
  | with_reducible refine i_tryN ?_
  | with_reducible refine i_isNon ?_
  | with_reducible refine i_isNotNon ?_
  | ((with_reducible refine' i_split ?h ?z ?_); (case h => rfl); (case z => walk_at "side"))
  | with_reducible refine i_find ?_
  | ((with_reducible refine i_strI ?h ?_); (case h => walk_at "side"))
  | with_reducible refine i_fmt ?_
  | ((with_reducible refine i_fmS ?h ?_); (case h => walk_at "side"))
  | ((with_reducible refine i_fmI ?h ?_); (case h => walk_at "side"))
  | with_reducible refine i_jn ?_
  | with_reducible refine i_js0 ?_
  | with_reducible refine i_js1 ?_
  | ((with_reducible refine i_jsR ?h ?_); (case h => walk_at "side"))
  | with_reducible refine i_revS ?_
  | ((with_reducible refine i_exrev ?h ?_); (case h => walk_at "side"))
  | with_reducible refine i_revL ?_
  | ((with_reducible refine' i_exrevL ?h ?_); (case h => walk_at "sq"))
  | with_reducible refine i_par3 ?_
  | with_reducible refine i_ex3 ?_
  | with_reducible refine i_stB ?_
  | with_reducible refine i_mk0 ?_
  | with_reducible refine i_asg ?_
  | with_reducible refine i_c ?_
  | ((with_reducible refine' i_var ?h ?_); (case h => rfl))
  | with_reducible refine i_op ?_
  | with_reducible refine i_cons ?_
  | with_reducible refine i_nil ?_
  | ((with_reducible refine' i_gName ?h ?_); (case h => rfl))
  | with_reducible refine i_rI0 ?_
  | ((with_reducible refine i_rI ?h ?_); (case h => walk_at "side"))
  | with_reducible refine i_test ?_
  | with_reducible refine i_exbl ?_
  | with_reducible refine i_exint ?_
  | with_reducible refine i_exs ?_
  | with_reducible refine i_ret ?_
  | with_reducible refine i_next ?_
  | with_reducible refine i_ifS ?_
  | ((with_reducible refine' i_rIxL ?h ?e ?_); (case h => walk_at "sq"); (case e => first | assumption | rfl))
  | ((with_reducible refine' i_rIxT ?h ?e ?_); (case h => walk_at "sq"); (case e => first | assumption | rfl))
  | ((with_reducible refine' i_rIxS ?h ?e ?_); (case h => walk_at "side"); (case e => first | assumption | rfl))
  | with_reducible refine i_un ?_
  | with_reducible refine i_rU ?_
  | ((with_reducible refine i_rEqSame ?h ?_); (case h => rfl))
  | ((with_reducible refine i_rNeSame ?h ?_); (case h => rfl))
  | ((with_reducible refine i_rEq ?h ?_); (case h => rfl))
  | ((with_reducible refine i_rNe ?h ?_); (case h => rfl))
  | with_reducible refine i_tB ?_
  | with_reducible refine i_and ?_
  | with_reducible refine i_or ?_
  | with_reducible refine i_not ?_
  | with_reducible refine i_andV ?_
  | with_reducible refine i_orV ?_
  | with_reducible refine i_notV ?_
  | with_reducible refine i_if ?_
  | with_reducible refine i_chain ?_
  | with_reducible refine i_drop ?_
  | with_reducible refine i_retN ?_
  | with_reducible refine i_par ?_
  | with_reducible refine i_ex2 ?_
  | ((with_reducible refine' i_aug ?h ?_); (case h => rfl))
  | with_reducible refine i_gNil ?_
  | with_reducible refine i_gCons ?_
  | ((with_reducible refine' i_gTup ?h ?e ?_); (case h => walk_at "sq"); (case e => rfl))
  | with_reducible refine i_gSub ?_
  | ((with_reducible refine' i_rSetL ?h ?e ?_); (case h => walk_at "hg"); (case e => first | assumption | rfl))
  | with_reducible refine i_tup ?_
  | with_reducible refine i_lst ?_
  | with_reducible refine i_lstN ?_
  | with_reducible refine i_newDK ?_
  | with_reducible refine i_disp ?_
  | with_reducible refine i_pairs0 ?_
  | with_reducible refine i_pairs1 ?_
  | with_reducible refine i_call ?_
  | with_reducible refine i_cb ?_
  | with_reducible refine i_bm ?_
  | with_reducible refine i_m1 ?_
  | with_reducible refine i_m0 ?_
  | ((with_reducible refine' i_rAppend ?h ?e ?_); (case h => walk_at "hg"); (case e => walk_at "side"))
  | ((with_reducible refine i_rSlS ?h ?_); (case h => walk_at "side"))
  | ((with_reducible refine' i_rSlL ?h ?_); (case h => walk_at "sq"))
  | with_reducible refine i_sl ?_
  | with_reducible refine i_noPart ?_
  | with_reducible refine i_part ?_
  | with_reducible refine i_rng1 ?_
  | with_reducible refine i_iList ?_
  | with_reducible refine i_iStr ?_
  | with_reducible refine i_iEnum ?_
  | with_reducible refine i_iZip ?_
  | with_reducible refine i_ez ?_
  | ((with_reducible refine' i_exen ?h ?_); (case h => walk_at "sq"))
  | ((with_reducible refine' i_exz ?h ?k ?_); (case h => walk_at "sq"); (case k => walk_at "sq"))
  | ((with_reducible refine' i_listN ?h ?_); (case h => walk_at "sq"))
  | with_reducible refine i_intB ?_
  | ((with_reducible refine' i_listTN ?h ?_); (case h => walk_at "sq"))
  | with_reducible refine i_revT ?_
  | ((with_reducible refine' i_exrevT ?h ?_); (case h => walk_at "sq"))
  | ((with_reducible refine' i_catA ?h ?k ?a ?b ?z ?_); (case h => walk_at "sq"); (case k => walk_at "sq"); (case a => simp); (case b => simp); (case z => walk_at "side"))
  | ((with_reducible refine' i_slTA ?h ?k ?_); (case h => walk_at "sq"); (case k => simp only [List.length_cons, List.length_nil]; decide))
  | ((with_reducible refine' i_countF ?h ?k ?a ?_); (case h => walk_at "sq"); (case k => rfl); (case a => rfl))
  | with_reducible refine i_iTup ?_
  | ((with_reducible refine' i_exlT ?h ?_); (case h => walk_at "sq"))
  | ((with_reducible refine' i_rCatN ?h ?e ?z ?_); (case h => walk_at "hg"); (case e => walk_at "hg"); (case z => walk_at "side"))
  | with_reducible refine i_tryC ?_
  | ((with_reducible refine' i_tupL ?h ?_); (case h => walk_at "sq"))
  | ((with_reducible refine' i_neNil ?h ?k ?_); (case h => walk_at "sq"); (case k => walk_at "sq"))
  | ((with_reducible refine' i_eqNil ?h ?k ?_); (case h => walk_at "sq"); (case k => walk_at "sq"))
  | ((with_reducible refine' i_reprE ?h ?e ?_); (case h => walk_at "da"); (case e => walk_at "shw"))
  | ((with_reducible refine' i_tyL ?h ?_); (case h => walk_at "sq"))
  | with_reducible refine i_isBl ?_
  | ((with_reducible refine i_callW ?_))
  | ((with_reducible refine i_exrng ?h1 ?h2 ?_); (case h1 => walk_at "side"); (case h2 => walk_at "side"))
  | ((with_reducible refine' i_exl ?h ?_); (case h => walk_at "sq"))
  | with_reducible refine i_for ?_
  | with_reducible refine i_lc ?_
  | with_reducible refine i_yes ?_
  | with_reducible refine i_iteT ?_
  | with_reducible refine i_iteF ?_
  | ((with_reducible refine i_divmod ?h ?_); (case h => walk_at "side"))
  | ((with_reducible refine' i_isi ?h ?e ?_); (case h => walk_at "da"); (case e => decide))
  | ((with_reducible refine i_lenS ?h ?_); (case h => walk_at "side"))
  | ((with_reducible refine' i_lenL ?h ?_); (case h => walk_at "sq"))
  | ((with_reducible refine' i_lenT ?h ?_); (case h => walk_at "sq"))
  | ((with_reducible refine' i_repr ?h ?n ?e ?_); (case h => walk_at "da"); (case n => walk_at "nod"); (case e => walk_at "shw"))
  | ((with_reducible refine' i_rCat ?h ?e ?z ?_); (case h => walk_at "hg"); (case e => walk_at "hg"); (case z => walk_at "side"))
  | ((with_reducible refine i_rCatS ?h ?_); (case h => walk_at "side"))
  | with_reducible refine i_exstr ?_
  | ((with_reducible refine' i_join ?h ?z ?_); (case h => walk_at "sq"); (case z => walk_at "side"))
  | with_reducible refine i_abs ?_
  | with_reducible refine i_max ?_
  | with_reducible refine i_min ?_
  | ((with_reducible refine' i_rAll ?h ?_); (case h => walk_at "sq"))
  | ((with_reducible refine' i_lcEl ?h ?e ?_); (case h => walk_at "hg"); (case e => walk_at "side"))
  | with_reducible refine ⟨_, _, rfl, rfl, ?_⟩
  | with_reducible refine ⟨_, _, rfl, ?_⟩
  | with_reducible refine ⟨_, rfl, ?_⟩
  | with_reducible refine And.intro rfl ?_
  | ((with_reducible refine And.intro ?h ?_); (case h => walk_at "side"))
  | fail)

section
variable {P : Program} {w : World} {K : PySem.W.Frag} {mg : Str → Option Value} {base : Heap} {A : Ad}
def num8 : List PyData := [.int 0, .int 1, .int 2, .int 3, .int (-1), .bool true, .none, .str "1"]
theorem num8_all : (num8.all fun d => shcB d 100 3) = true := by decide +kernel
/-- the list that was drawn -/
def Mid1 (K : PySem.W.Frag) (r : Addr) (H G : Hp) (D : Addr) : Prop := ∃ xs ds, Off r H G ∧ Rok G r ∧ D ≠ r ∧ G D = some (.lst xs) ∧ DaAll K (wo r G) xs ds ∧ ds.length ≤ 4 ∧ ∀ d ∈ ds, Odd16 d
/-- the list, or another value -/
def Some16 (d : PyData) : Prop := Shc d 1000 6 ∧ ∀ ds, d = .list ds → ds.length ≤ 4 ∧ ∀ x ∈ ds, Odd16 x
def Mid2 (K : PySem.W.Frag) (r : Addr) (H G : Hp) (v : V) : Prop := ∃ d, Off r H G ∧ Rok G r ∧ Da K (wo r G) v d ∧ Some16 d
def Mid3 (K : PySem.W.Frag) (G G' : Hp) (d : PyData) (y : V) : Prop := Same G G' ∧ ((badV d = none ∧ y = .non) ∨ ∃ p, (∃ o, badV d = some o) ∧ y = .ref p ∧ DaS K G' y (outF d))
def Mid4 (K : PySem.W.Frag) (G G' : Hp) (d dn : PyData) (y : V) : Prop := Same G G' ∧ ((badV d = none ∧ fallI (winsD d) = none ∧ y = .non) ∨ ∃ p, y = .ref p ∧ DaS K G' y (outL d dn))
def Mid5 (K : PySem.W.Frag) (G G' : Hp) (d dn : PyData) (y : V) : Prop := Same G G' ∧ DueV K G' y (outL d dn)
theorem pick_win {ds : List PyData} {n : Nat} (hn : n = ds.length) : (((List.range n).filter fun i => !winB (ds.getD i .none)).map fun i => ds.getD i .none).isEmpty = true → badV (.list ds) = none := fun h => by
  refine badV_none fun d hd => ?_
  obtain ⟨i, hi, rfl⟩ := List.getElem_of_mem hd
  have h' : (List.range n).filter (fun i => !winB (ds.getD i .none)) = [] := by simpa using h
  have := List.filter_eq_nil_iff.mp h' i (List.mem_range.mpr (by omega))
  rw [List.getD_eq_getElem?_getD, List.getElem?_eq_getElem hi] at this
  simpa using this
theorem bad_idx {ds : List PyData} (h : badV (.list ds) ≠ none) : false ∈ ds.map winB ∧ badV (.list ds) = some (.int ((ds.map winB).idxOf false : Nat)) := by
  have e0 : badV (.list ds) = (ds.findIdx? fun d => !winB d).map fun i => V.int (i : Nat) := rfl
  cases hf : ds.findIdx? fun d => !winB d with
  | none => rw [e0, hf] at h; exact absurd rfl h
  | some i =>
    obtain ⟨hi, h1, h2⟩ := List.findIdx?_eq_some_iff_getElem.mp hf
    have h1' : winB ds[i] = false := by simpa using h1
    have e : (ds.map winB).idxOf false = i := by
      have hm : (ds.map winB)[i]? = some false := by rw [List.getElem?_map, List.getElem?_eq_getElem hi, Option.map_some, h1']
      have hmem : false ∈ ds.map winB := List.mem_of_getElem? hm
      have hlt := List.idxOf_lt_length_of_mem hmem
      rcases Nat.lt_trichotomy ((ds.map winB).idxOf false) i with z | z | z
      · have k := List.getElem_idxOf hlt
        rw [List.getElem_map] at k
        have := h2 _ z
        rw [k] at this
        exact absurd rfl this
      · exact z
      · have := List.not_of_lt_findIdx (p := (· == false)) (xs := ds.map winB) (i := i) z
        rw [List.getElem_map, h1'] at this
        exact absurd this (by decide)
    refine ⟨List.mem_map.mpr ⟨ds[i], List.getElem_mem hi, h1'⟩, ?_⟩
    rw [e0, hf, e]
    rfl
theorem map_winB {ds : List PyData} {n : Nat} (hn : n = ds.length) : ((List.range n).map fun i => V.bl (winB (ds.getD i .none))) = (ds.map winB).map V.bl := by
  subst hn
  refine List.ext_getElem? fun i => ?_
  rw [List.getElem?_map, List.map_map, List.getElem?_map]
  by_cases hi : i < ds.length
  · rw [List.getElem?_range hi, List.getElem?_eq_getElem hi]
    simp [List.getD_eq_getElem?_getD, List.getElem?_eq_getElem hi]
  · rw [List.getElem?_eq_none (by simp; omega), List.getElem?_eq_none (by omega)]
    rfl
def flagF (ws : List (Int × Option Int)) (i : Nat) : Bool := match ws[i]?, ws[i + 1]? with
  | some a, some b => fallsW a b
  | _, _ => false
theorem fall_idx {ws : List (Int × Option Int)} (hw : ∀ w ∈ ws, W60 w) : fallI ws = if ((List.range (ws.length - 1)).map (flagF ws)).contains true = true then some (1 + ((List.range (ws.length - 1)).map (flagF ws)).idxOf true) else none := by
  have fl : ∀ k a b, ws[k]? = some a → ws[k + 1]? = some b → flagF ws k = !risesW a b := fun k a b ha hb => by
    unfold flagF
    rw [ha, hb]
    exact falls_rises (hw _ (List.mem_of_getElem? ha)) (hw _ (List.mem_of_getElem? hb))
  split
  · rename_i h
    have hm : true ∈ (List.range (ws.length - 1)).map (flagF ws) := by simpa using h
    have hlt := List.idxOf_lt_length_of_mem hm
    have hj := List.getElem_idxOf hlt
    generalize ej : ((List.range (ws.length - 1)).map (flagF ws)).idxOf true = j at hlt hj
    have hl : j < ws.length - 1 := by simpa using hlt
    rw [List.getElem_map, List.getElem_range] at hj
    have ha : ws[j]? = some ws[j] := List.getElem?_eq_getElem (by omega)
    have hb : ws[j + 1]? = some ws[j + 1] := List.getElem?_eq_getElem (by omega)
    refine fallI_some (fun k hk a b ka kb => ?_) ha hb ?_
    · have := List.not_of_lt_findIdx (p := (· == true)) (xs := (List.range (ws.length - 1)).map (flagF ws)) (i := k) (by rw [show List.findIdx (· == true) ((List.range (ws.length - 1)).map (flagF ws)) = j from ej]; exact hk)
      rw [List.getElem_map, List.getElem_range, fl k a b ka kb] at this
      simpa using this
    · have := fl j _ _ ha hb
      rw [hj] at this
      simpa using this.symm
  · rename_i h
    refine fallI_none fun j a b ha hb => ?_
    have hl : j < ws.length - 1 := by
      have := (List.getElem?_eq_some_iff.mp hb).1
      omega
    have hn : true ∉ (List.range (ws.length - 1)).map (flagF ws) := by simpa using h
    have : flagF ws j ≠ true := fun e => hn (List.mem_map.mpr ⟨j, List.mem_range.mpr hl, e⟩)
    rw [fl j a b ha hb] at this
    simpa using this
end
end KX

namespace KX
open PySem PySem.Spec PyProof.Rows L2

local macro_rules | `(tactic| walk_at "kp") => `(tactic| first
  | with_reducible exact Kp.refl
  | with_reducible exact Kp.thenS (by assumption) (by walk_at "kp")
  | with_reducible exact Kp.thenO (by assumption) (by walk_at "ne") (by walk_at "kp")
  | fail)
local macro_rules | `(tactic| walk_at "hq") => `(tactic| first
  | assumption
  | with_reducible exact Kp.get (by assumption) (by walk_at "kp")
  | fail)
local macro_rules | `(tactic| walk_at "hg") => `(tactic| first
  | walk_at "hq"
  | exact upd_same
  | with_reducible exact (upd_ne (by walk_at "ne")).trans (by walk_at "hg")
  | with_reducible exact Same.get (by assumption) (by walk_at "hg")
  | with_reducible exact Off.get (by assumption) (by walk_at "ne") (by walk_at "hg")
  | fail)
local macro_rules | `(tactic| walk_at "ne") => `(tactic| first
  | assumption
  | (apply Ne.symm; assumption)
  | exact Rok.ne' (by assumption) (by walk_at "rok")
  | exact (Rok.ne' (by assumption) (by walk_at "rok")).symm
  | exact ne_some (by assumption) (by walk_at "hg")
  | exact (ne_some (by assumption) (by walk_at "hg")).symm
  | fail)
local macro_rules | `(tactic| walk_at "rok") => `(tactic| first
  | assumption
  | with_reducible exact Rok.kp (by assumption) (by walk_at "kp")
  | with_reducible exact Rok.same (by assumption) (by walk_at "rok")
  | fail)
local macro_rules | `(tactic| walk_at "sq") => `(tactic| first
  | assumption
  | exact Same.seq (by assumption) (by assumption)
  | (with_reducible show SqL _ _ _ _; with_reducible exact SqL.of (by walk_at "hg"))
  | (with_reducible show SqT _ _ _ _; with_reducible exact SqT.of (by walk_at "hg"))
  | fail)
local macro_rules | `(tactic| walk_at "dac") => `(tactic| first
  | assumption
  | exact DaF.same (by assumption) (by walk_at "dac")
  | fail)
local macro_rules | `(tactic| walk_at "da") => `(tactic| first
  | exact (DaF.non : DaS _ _ _ _)
  | exact (DaF.bl _ : DaS _ _ _ _)
  | exact (DaF.int _ : DaS _ _ _ _)
  | exact (DaF.str _ : DaS _ _ _ _)
  | exact DaF.non
  | exact DaF.bl _
  | exact DaF.int _
  | exact DaF.str _
  | walk_at "dac"
  | with_reducible exact DaF.lst (SqL.of (by walk_at "hq")) (fun _ => by assumption) (by walk_at "das")
  | with_reducible exact Da.lst (SqL.of (by walk_at "hq")) (by walk_at "das")
  | with_reducible exact DaF.tup (SqT.of (by walk_at "hq")) (by walk_at "das")
  | with_reducible exact DaF.dic (Rd.of (by walk_at "hq")) (by walk_at "dak")
  | fail)
local macro_rules | `(tactic| walk_at "das") => `(tactic| first
  | assumption
  | exact DaAllF.nil
  | exact DaAllF.cons (by walk_at "da") (by walk_at "das")
  | fail)
local macro_rules | `(tactic| walk_at "dak") => `(tactic| first
  | assumption
  | exact DaKvF.nil
  | exact DaKvF.cons (by walk_at "da") (by walk_at "dak")
  | fail)
local macro_rules | `(tactic| walk_at "shw") => `(tactic| first
  | assumption
  | exact shw_b2 _ _
  | exact ⟨by decide +kernel, by decide +kernel, by decide +kernel⟩
  | fail)
local macro_rules | `(tactic| walk_at "nod") => `(tactic| first
  | exact .inl rfl
  | exact .inr rfl
  | assumption
  | exact .inr (by assumption)
  | fail)
local macro_rules | `(tactic| walk_at "okd") => `(tactic| first
  | assumption
  | exact okd_of (by decide +kernel)
  | fail)
local macro_rules | `(tactic| walk_at "off") => `(tactic| first
  | assumption
  | exact Off.refl _ _
  | exact Same.refl _
  | with_reducible exact Same.thenS (by assumption) (by walk_at "off")
  | with_reducible exact Off.thenS (by assumption) (by walk_at "off")
  | with_reducible exact Off.thenO (by assumption) (by walk_at "off")
  | with_reducible exact Same.thenF (by assumption) (by assumption) (by walk_at "off") (by walk_at "off")
  | with_reducible exact Off.thenF (by assumption) (by assumption) (by walk_at "off") (by walk_at "off")
  | fail)
local macro_rules | `(tactic| walk_at "side") => `(tactic| first
  | assumption
  | omega
  | decide
  | (simp only [List.length_append, List.length_cons, List.length_nil]; decide)
  | exact ⟨by omega, by omega⟩
  | exact ⟨by omega, PyProof.noPylong_of_log2 (by first | assumption | decide)⟩
  | exact .inl ⟨by omega, by omega⟩
  | exact .inr ⟨by omega, by omega⟩
  | exact ⟨by decide, by decide, by decide⟩
  | exact ⟨by decide, by decide, by omega⟩
  | fail)
local macro_rules | `(tactic| walk_at "st") => `(tactic| first
  | with_reducible refine i_seq ?_
  | with_reducible refine i_bi ?_
  | with_reducible refine i_raise ?_
  | with_reducible refine i_callX ?_
  | with_reducible refine i_tryN ?_
  | with_reducible refine i_isNon ?_
  | with_reducible refine i_isNotNon ?_
  | ((with_reducible refine' i_split ?h ?z ?_); (case h => rfl); (case z => walk_at "side"))
  | with_reducible refine i_find ?_
  | ((with_reducible refine i_strI ?h ?_); (case h => walk_at "side"))
  | with_reducible refine i_fmt ?_
  | ((with_reducible refine i_fmS ?h ?_); (case h => walk_at "side"))
  | ((with_reducible refine i_fmI ?h ?_); (case h => walk_at "side"))
  | with_reducible refine i_jn ?_
  | with_reducible refine i_js0 ?_
  | with_reducible refine i_js1 ?_
  | ((with_reducible refine i_jsR ?h ?_); (case h => walk_at "side"))
  | with_reducible refine i_revS ?_
  | ((with_reducible refine i_exrev ?h ?_); (case h => walk_at "side"))
  | with_reducible refine i_revL ?_
  | ((with_reducible refine' i_exrevL ?h ?_); (case h => walk_at "sq"))
  | with_reducible refine i_par3 ?_
  | with_reducible refine i_ex3 ?_
  | with_reducible refine i_stB ?_
  | with_reducible refine i_mk0 ?_
  | with_reducible refine i_asg ?_
  | with_reducible refine i_c ?_
  | ((with_reducible refine' i_var ?h ?_); (case h => rfl))
  | with_reducible refine i_op ?_
  | with_reducible refine i_cons ?_
  | with_reducible refine i_nil ?_
  | ((with_reducible refine' i_gName ?h ?_); (case h => rfl))
  | with_reducible refine i_rI0 ?_
  | ((with_reducible refine i_rI ?h ?_); (case h => walk_at "side"))
  | with_reducible refine i_test ?_
  | with_reducible refine i_exbl ?_
  | with_reducible refine i_exint ?_
  | with_reducible refine i_exs ?_
  | with_reducible refine i_ret ?_
  | with_reducible refine i_next ?_
  | with_reducible refine i_ifS ?_
  | ((with_reducible refine' i_rIxL ?h ?e ?_); (case h => walk_at "sq"); (case e => first | assumption | rfl))
  | ((with_reducible refine' i_rIxT ?h ?e ?_); (case h => walk_at "sq"); (case e => first | assumption | rfl))
  | ((with_reducible refine' i_rIxS ?h ?e ?_); (case h => walk_at "side"); (case e => first | assumption | rfl))
  | with_reducible refine i_un ?_
  | with_reducible refine i_rU ?_
  | ((with_reducible refine i_rEqSame ?h ?_); (case h => rfl))
  | ((with_reducible refine i_rNeSame ?h ?_); (case h => rfl))
  | ((with_reducible refine i_rEq ?h ?_); (case h => rfl))
  | ((with_reducible refine i_rNe ?h ?_); (case h => rfl))
  | with_reducible refine i_tB ?_
  | with_reducible refine i_and ?_
  | with_reducible refine i_or ?_
  | with_reducible refine i_not ?_
  | with_reducible refine i_andV ?_
  | with_reducible refine i_orV ?_
  | with_reducible refine i_notV ?_
  | with_reducible refine i_if ?_
  | with_reducible refine i_chain ?_
  | with_reducible refine i_drop ?_
  | with_reducible refine i_retN ?_
  | with_reducible refine i_par ?_
  | with_reducible refine i_ex2 ?_
  | ((with_reducible refine' i_aug ?h ?_); (case h => rfl))
  | with_reducible refine i_gNil ?_
  | with_reducible refine i_gCons ?_
  | ((with_reducible refine' i_gTup ?h ?e ?_); (case h => walk_at "sq"); (case e => rfl))
  | with_reducible refine i_gSub ?_
  | ((with_reducible refine' i_rSetL ?h ?e ?_); (case h => walk_at "hg"); (case e => first | assumption | rfl))
  | with_reducible refine i_tup ?_
  | with_reducible refine i_lst ?_
  | with_reducible refine i_lstN ?_
  | with_reducible refine i_newDK ?_
  | with_reducible refine i_disp ?_
  | with_reducible refine i_pairs0 ?_
  | with_reducible refine i_pairs1 ?_
  | with_reducible refine i_call ?_
  | with_reducible refine i_cb ?_
  | with_reducible refine i_bm ?_
  | with_reducible refine i_m1 ?_
  | with_reducible refine i_m0 ?_
  | ((with_reducible refine' i_rAppend ?h ?e ?_); (case h => walk_at "hg"); (case e => walk_at "side"))
  | ((with_reducible refine i_rSlS ?h ?_); (case h => walk_at "side"))
  | ((with_reducible refine' i_rSlL ?h ?_); (case h => walk_at "sq"))
  | with_reducible refine i_sl ?_
  | with_reducible refine i_noPart ?_
  | with_reducible refine i_part ?_
  | with_reducible refine i_rng1 ?_
  | with_reducible refine i_iList ?_
  | with_reducible refine i_iStr ?_
  | with_reducible refine i_iEnum ?_
  | with_reducible refine i_iZip ?_
  | with_reducible refine i_ez ?_
  | ((with_reducible refine' i_exen ?h ?_); (case h => walk_at "sq"))
  | ((with_reducible refine' i_exz ?h ?k ?_); (case h => walk_at "sq"); (case k => walk_at "sq"))
  | ((with_reducible refine' i_listN ?h ?_); (case h => walk_at "sq"))
  | with_reducible refine i_intB ?_
  | ((with_reducible refine' i_listTN ?h ?_); (case h => walk_at "sq"))
  | with_reducible refine i_revT ?_
  | ((with_reducible refine' i_exrevT ?h ?_); (case h => walk_at "sq"))
  | ((with_reducible refine' i_catA ?h ?k ?a ?b ?z ?_); (case h => walk_at "sq"); (case k => walk_at "sq"); (case a => simp); (case b => simp); (case z => walk_at "side"))
  | ((with_reducible refine' i_slTA ?h ?k ?_); (case h => walk_at "sq"); (case k => simp only [List.length_cons, List.length_nil]; decide))
  | ((with_reducible refine' i_countF ?h ?k ?a ?_); (case h => walk_at "sq"); (case k => rfl); (case a => rfl))
  | with_reducible refine i_iTup ?_
  | ((with_reducible refine' i_exlT ?h ?_); (case h => walk_at "sq"))
  | ((with_reducible refine' i_rCatN ?h ?e ?z ?_); (case h => walk_at "hg"); (case e => walk_at "hg"); (case z => walk_at "side"))
  | with_reducible refine i_tryC ?_
  | ((with_reducible refine' i_tupL ?h ?_); (case h => walk_at "sq"))
  | ((with_reducible refine' i_neNil ?h ?k ?_); (case h => walk_at "sq"); (case k => walk_at "sq"))
  | ((with_reducible refine' i_eqNil ?h ?k ?_); (case h => walk_at "sq"); (case k => walk_at "sq"))
  | ((with_reducible refine' i_reprE ?h ?e ?_); (case h => walk_at "da"); (case e => walk_at "shw"))
  | ((with_reducible refine' i_tyL ?h ?_); (case h => walk_at "sq"))
  | with_reducible refine i_isBl ?_
  | ((with_reducible refine i_callW ?_))
  | ((with_reducible refine i_exrng ?h1 ?h2 ?_); (case h1 => walk_at "side"); (case h2 => walk_at "side"))
  | ((with_reducible refine' i_exl ?h ?_); (case h => walk_at "sq"))
  | with_reducible refine i_for ?_
  | with_reducible refine i_lc ?_
  | with_reducible refine i_yes ?_
  | with_reducible refine i_iteT ?_
  | with_reducible refine i_iteF ?_
  | ((with_reducible refine i_divmod ?h ?_); (case h => walk_at "side"))
  | ((with_reducible refine' i_isi ?h ?e ?_); (case h => walk_at "da"); (case e => decide))
  | ((with_reducible refine i_lenS ?h ?_); (case h => walk_at "side"))
  | ((with_reducible refine' i_lenL ?h ?_); (case h => walk_at "sq"))
  | ((with_reducible refine' i_lenT ?h ?_); (case h => walk_at "sq"))
  | ((with_reducible refine' i_repr ?h ?n ?e ?_); (case h => walk_at "da"); (case n => walk_at "nod"); (case e => walk_at "shw"))
  | ((with_reducible refine' i_rCat ?h ?e ?z ?_); (case h => walk_at "hg"); (case e => walk_at "hg"); (case z => walk_at "side"))
  | ((with_reducible refine i_rCatS ?h ?_); (case h => walk_at "side"))
  | with_reducible refine i_exstr ?_
  | ((with_reducible refine' i_join ?h ?z ?_); (case h => walk_at "sq"); (case z => walk_at "side"))
  | with_reducible refine i_abs ?_
  | with_reducible refine i_max ?_
  | with_reducible refine i_min ?_
  | ((with_reducible refine' i_rAll ?h ?_); (case h => walk_at "sq"))
  | ((with_reducible refine' i_lcEl ?h ?e ?_); (case h => walk_at "hg"); (case e => walk_at "side"))
  | with_reducible refine ⟨_, _, rfl, rfl, ?_⟩
  | with_reducible refine ⟨_, _, rfl, ?_⟩
  | with_reducible refine ⟨_, rfl, ?_⟩
  | with_reducible refine And.intro rfl ?_
  | ((with_reducible refine And.intro ?h ?_); (case h => walk_at "side"))
  | fail)

section
variable {P : Program} {w : World} {K : PySem.W.Frag} {mg : Str → Option Value} {base : Heap} {A : Ad}
theorem ok_l_lists_right (T : Txt K mg A) (TB : TBs base mg A) (G_first_falling : FnOk P w K mg base (L2.CX P w) 6 A.f_first_falling A.d_first_falling ["windows"] (sp_ff K A.c_InvalidWindows)) (G_least_reaching : FnOk P w K mg base (L2.CX P w) 7 A.f_least_reaching A.d_least_reaching ["windows", "version"] (sp_least K A.c_InvalidWindows A.c_InvalidVersion))
    (G_l_draw : Fg P w K mg base CX0 1 A.f_l_draw A.d_l_draw ["_law_rng_here", "_law_many"] sp_l_draw) (G_l_choice : Fg P w K mg base CX0 2 A.f_l_choice A.d_l_choice ["_law_rng_here", "_law_options"] sp_l_choice) (G_l_odd : Fg P w K mg base CX0 3 A.f_l_odd A.d_l_odd ["_law_rng_here"] (sp_l_odd K)) (G_l_is_count : Fg P w K mg base CX0 1 A.f_l_is_count A.d_l_is_count ["_law_one"] (sp_dat K verD)) (G_l_is_window : Fg P w K mg base CX0 3 A.f_l_is_window A.d_l_is_window ["_law_one"] (sp_dat K winB)) (G_l_top : Fg P w K mg base CX0 1 A.f_l_top A.d_l_top ["_law_one"] (sp_l_top K)) : Fg P w K mg base CX0 10 A.f_l_lists_right A.d_l_lists_right ["_law_rng_here"] (sp_right A) := by
  refine ok_gC T.C_l_lists_right sc_l_lists_right (fun vs H Q E h => ?_) (fun Ar outer s H vs Q E hr h => ?_)
  · obtain ⟨_, rfl, _⟩ := h; rfl
  · obtain ⟨r, rfl, hR, tabs, q⟩ := h
    refine ⟨_, (pss_cons (ps_asg (pe_lc (own := [("_law_turn", 7)]) rfl sc_l_lists_right.nd (pi_range1 rfl T.m_range (pa_cons (pe_call G_l_draw (hr.mono (by decide)) (by rfl) T.g_l_draw T.F_l_draw.kp T.b_l_draw .nil pass0 (pa_cons (pv 0) (pa_cons pe_int pa_nil))) pa_nil)) (blkOk_by (own := [("_law_turn", 7)]) (N := ["_law_rng_here", "_law_kept", "_law_due", "_law_told_here", "_law_falls", "_law_number_here", "_law_some", "_law_turn", "_law_one", "_law_a", "_law_b"]) (sc := defScope s_l_lists_right) (by decide +kernel)) (fun _ _ _ _ _ => (pg_name (i := 7) sc_l_lists_right.nd rfl (.inl rfl))) (fun _ _ _ _ _ => pts_nil) (fun _ _ _ _ _ => (pe_call G_l_odd (hr.mono (by decide)) (by rfl) T.g_l_odd T.F_l_odd.kp T.b_l_odd .nil pass0 (pa_cons (pv 0) pa_nil)))) (pg_name (i := 6) sc_l_lists_right.nd rfl (.inr rfl)))
(C8.pss_cut (ps_if (pt_cmpR op_eq (pe_call G_l_draw (hr.mono (by decide)) (by rfl) T.g_l_draw T.F_l_draw.kp T.b_l_draw .nil pass0 (pa_cons (pv 0) (pa_cons pe_int pa_nil))) pe_int (nomark _))
(pss_one (ps_asg (pe_lc (own := [("_law_one", 8)]) rfl sc_l_lists_right.nd (pi_list (pv 6)) (blkOk_by (own := [("_law_one", 8)]) (N := ["_law_rng_here", "_law_kept", "_law_due", "_law_told_here", "_law_falls", "_law_number_here", "_law_some", "_law_turn", "_law_one", "_law_a", "_law_b"]) (sc := defScope s_l_lists_right) (by decide +kernel)) (fun _ _ _ _ _ => (pg_name (i := 8) sc_l_lists_right.nd rfl (.inl rfl))) (fun _ _ _ _ _ => (pts_one (pt_val (pe_call G_l_is_window (hr.mono (by decide)) (by rfl) T.g_l_is_window T.F_l_is_window.kp T.b_l_is_window .nil pass0 (pa_cons (pv 8) pa_nil))))) (fun _ _ _ _ _ => (pv 8))) (pg_name (i := 6) sc_l_lists_right.nd rfl (.inr rfl))))
pss_nil)
(C8.pss_cut (ps_set (i := 6) sc_l_lists_right.nd rfl (.inr rfl) (pe_call G_l_choice (hr.mono (by decide)) (by rfl) T.g_l_choice T.F_l_choice.kp T.b_l_choice .nil pass0 (pa_cons (pv 0) (pa_cons (pe_lstN (pa_cons (pv 6) (pa_cons (pv 6) (pa_cons (pv 6) (pa_cons (pv 6) (pa_cons (pe_callTy call_tupL (by rfl) T.m_tuple (by decide +kernel) (pa_cons (pv 6) pa_nil)) (pa_cons pe_non (pa_cons pe_int (pa_cons pe_str (pa_cons (Lit.pe Lit.dic0) (pa_cons pe_bl pa_nil))))))))))) pa_nil))))
(pss_cons (ps_asg (pe_tup (pa_cons (pe_call G_l_choice (hr.mono (by decide)) (by rfl) T.g_l_choice T.F_l_choice.kp T.b_l_choice .nil pass0 (pa_cons (pv 0) (pa_cons (pe_litL (LitAll.cons Lit.int (LitAll.cons Lit.int (LitAll.cons Lit.int (LitAll.cons Lit.int (LitAll.cons Lit.neg (LitAll.cons Lit.bl (LitAll.cons Lit.non (LitAll.cons Lit.str LitAll.nil)))))))) (by decide)) pa_nil))) (pa_cons (pe_callB (call_reprE T.sys (hr.mono (by decide))) (by rfl) T.m_repr (by decide +kernel) (pa_cons (pv 6) pa_nil)) (pa_cons pe_non pa_nil)))) (pg_tup rfl (pgs_cons (pg_name (i := 5) sc_l_lists_right.nd rfl (.inr rfl)) (pgs_cons (pg_name (i := 1) sc_l_lists_right.nd rfl (.inl rfl)) (pgs_cons (pg_name (i := 2) sc_l_lists_right.nd rfl (.inl rfl)) pgs_nil)))))
(C8.pss_cut (ps_if (pt_not (pt_val (pe_callB call_isiD (by rfl) T.m_isinstance (by decide +kernel) (pa_cons (pv 6) (pa_cons (pe_bltn (v := .ty "list") rfl T.m_list (by decide +kernel) rfl) pa_nil)))))
(pss_one (ps_set (i := 2) sc_l_lists_right.nd rfl (.inl rfl) (pe_lstN (pa_cons pe_str (pa_cons pe_non pa_nil)))))
(pss_one (ps_if (pt_cmpR (op_neNil (Nat.lt_of_le_of_lt (Nat.le_add_right _ _) hr.room.units)) (pe_lc (own := [("_law_one", 8)]) rfl sc_l_lists_right.nd (pi_list (pv 6)) (blkOk_by (own := [("_law_one", 8)]) (N := ["_law_rng_here", "_law_kept", "_law_due", "_law_told_here", "_law_falls", "_law_number_here", "_law_some", "_law_turn", "_law_one", "_law_a", "_law_b"]) (sc := defScope s_l_lists_right) (by decide +kernel)) (fun _ _ _ _ _ => (pg_name (i := 8) sc_l_lists_right.nd rfl (.inl rfl))) (fun _ _ _ _ _ => (pts_one (pt_not (pt_val (pe_call G_l_is_window (hr.mono (by decide)) (by rfl) T.g_l_is_window T.F_l_is_window.kp T.b_l_is_window .nil pass0 (pa_cons (pv 8) pa_nil)))))) (fun _ _ _ _ _ => (pv 8))) (pe_lstN pa_nil) (nomark _))
(pss_one (ps_set (i := 2) sc_l_lists_right.nd rfl (.inl rfl) (pe_lstN (pa_cons pe_str (pa_cons (pe_bm PySem.F.plainAttrs_list PySem.F.slot_list_index PySem.F.type_list_index mt_index (pe_lc (own := [("_law_one", 8)]) rfl sc_l_lists_right.nd (pi_list (pv 6)) (blkOk_by (own := [("_law_one", 8)]) (N := ["_law_rng_here", "_law_kept", "_law_due", "_law_told_here", "_law_falls", "_law_number_here", "_law_some", "_law_turn", "_law_one", "_law_a", "_law_b"]) (sc := defScope s_l_lists_right) (by decide +kernel)) (fun _ _ _ _ _ => (pg_name (i := 8) sc_l_lists_right.nd rfl (.inl rfl))) (fun _ _ _ _ _ => pts_nil) (fun _ _ _ _ _ => (pe_call G_l_is_window (hr.mono (by decide)) (by rfl) T.g_l_is_window T.F_l_is_window.kp T.b_l_is_window .nil pass0 (pa_cons (pv 8) pa_nil)))) (pa_cons pe_bl pa_nil)) pa_nil)))))
pss_nil)))
(pss_cons (ps_set (i := 3) sc_l_lists_right.nd rfl (.inl rfl) (pe_lamG (T := TT A) T.F_l_told (by rfl) T.g_l_told T.b_l_told sc_l_told rfl (.inl rfl) (gives_l_told T _) TB.p_l_lists_right rfl (.tail _ (.head _)) (one_l_lists_right T) (hr.mono (by decide)) (LamX.lamS_by (show LamX.lamSB (defScope s_l_lists_right) _ = true by decide +kernel)) rfl (fun _ _ _ _ _ => rfl) (fun _ _ _ _ _ _ _ hr => (L2.pe_call G_first_falling (hr.room.mono (by decide)) (by rfl) T.g_first_falling T.F_first_falling.kp T.b_first_falling .nil passLam (pa_cons (pv 6) pa_nil)))))
(C8.pss_cut (ps_if (PW.pt (pw_or (PW.pt (pw_and (pt_cmpR op_notNN (pv 2) pe_non (nomark _)) (pw_and1 (pt_cmpR op_ne (pv 3) (pe_callB (call_reprN (hr.mono (by decide))) (by rfl) T.m_repr (by decide +kernel) (pa_cons (pv 2) pa_nil)) (nomark _))))) (pw_or1 (PW.pt (pw_and (pt_cmpR op_isNN (pv 2) pe_non (nomark _)) (pw_and1 (pt_cmpR op_ne (pe_slice sl_str (pv 3) (po_some pe_int) (po_some pe_int)) pe_str (nomark _))))))))
(pss_one (ps_ret pe_bl))
pss_nil)
(C8.pss_cut (ps_if (pt_cmpR op_isNN (pv 2) pe_non (nomark _))
(pss_cons (ps_setLc (i := 4) (g := (gTup K 2 (gCons (gName 9) (gCons (gName 10) gNil)))) (own := [("_law_a", 9), ("_law_b", 10)]) rfl sc_l_lists_right.nd rfl rfl (sw_true rfl rfl rfl (by decide +kernel)) (pi_zip (by rfl) T.m_zip (pa_cons (pv 6) (pa_cons (pe_slice sl_list (pv 6) (po_some pe_int) po_none) pa_nil))) (blkOk_by (own := [("_law_a", 9), ("_law_b", 10)]) (N := ["_law_rng_here", "_law_kept", "_law_due", "_law_told_here", "_law_falls", "_law_number_here", "_law_some", "_law_turn", "_law_one", "_law_a", "_law_b"]) (sc := defScope s_l_lists_right) (by decide +kernel)) (fun _ _ _ _ _ => (pg_tup rfl (pgs_cons (pg_name (i := 9) sc_l_lists_right.nd rfl (.inl rfl)) (pgs_cons (pg_name (i := 10) sc_l_lists_right.nd rfl (.inl rfl)) pgs_nil)))) (fun _ _ _ _ _ => pts_nil) (fun _ _ _ _ _ => (pe_or (pe_cmpR op_gt (pe_ix (ix_tupK (K := K) (by rfl)) (pv 9) pe_int (fun _ _ => rfl)) (pe_ix (ix_tupK (K := K) (by rfl)) (pv 10) pe_int (fun _ _ => rfl)) (nomark _)) (pe_one (pe_cmpR op_gt (pe_call G_l_top (hr.mono (by decide)) (by rfl) T.g_l_top T.F_l_top.kp T.b_l_top .nil pass0 (pa_cons (pv 9) pa_nil)) (pe_call G_l_top (hr.mono (by decide)) (by rfl) T.g_l_top T.F_l_top.kp T.b_l_top .nil pass0 (pa_cons (pv 10) pa_nil)) (nomark _))))))
(pss_one (ps_set (i := 2) sc_l_lists_right.nd rfl (.inl rfl) (pe_ifExp (pt_cmpR op_in_seq pe_bl (pv 4) (by rfl)) (pe_lstN (pa_cons pe_str (pa_cons (pe_op op_add pe_int (pe_bm PySem.F.plainAttrs_list PySem.F.slot_list_index PySem.F.type_list_index mt_index (pv 4) (pa_cons pe_bl pa_nil))) pa_nil))) (pv 2)))))
pss_nil)
(C8.pss_cut (ps_if (PW.pt (pw_and (pt_cmpR op_isNN (pv 2) pe_non (nomark _)) (pw_and1 (pt_not (pt_val (pe_call G_l_is_count (hr.mono (by decide)) (by rfl) T.g_l_is_count T.F_l_is_count.kp T.b_l_is_count .nil pass0 (pa_cons (pv 5) pa_nil)))))))
(pss_one (ps_set (i := 2) sc_l_lists_right.nd rfl (.inl rfl) (pe_lstN (pa_cons pe_str (pa_cons (pv 5) pa_nil)))))
pss_nil)
(pss_cons (ps_set (i := 3) sc_l_lists_right.nd rfl (.inl rfl) (pe_lamG (T := TT A) T.F_l_told (by rfl) T.g_l_told T.b_l_told sc_l_told rfl (.inl rfl) (gives_l_told T _) TB.p_l_lists_right rfl (.tail _ (.head _)) (one_l_lists_right T) (hr.mono (by decide)) (LamX.lamS_by (show LamX.lamSB (defScope s_l_lists_right) _ = true by decide +kernel)) rfl (fun _ _ _ _ _ => rfl) (fun _ _ _ _ _ _ _ hr => (L2.pe_call G_least_reaching (hr.room.mono (by decide)) (by rfl) T.g_least_reaching T.F_least_reaching.kp T.b_least_reaching .nil passLam (pa_cons (pv 6) (pa_cons (pv 5) pa_nil))))))
(C8.pss_cut (ps_if (PW.pt (pw_or (PW.pt (pw_and (pt_cmpR op_notNN (pv 2) pe_non (nomark _)) (pw_and1 (pt_cmpR op_ne (pv 3) (pe_callB (call_reprN (hr.mono (by decide))) (by rfl) T.m_repr (by decide +kernel) (pa_cons (pv 2) pa_nil)) (nomark _))))) (pw_or1 (PW.pt (pw_and (pt_cmpR op_isNN (pv 2) pe_non (nomark _)) (pw_and1 (pt_cmpR op_ne (pe_slice sl_str (pv 3) (po_some pe_int) (po_some pe_int)) pe_str (nomark _))))))))
(pss_one (ps_ret pe_bl))
pss_nil)
(pss_one (ps_ret (pe_cmpR op_eq (pe_callB (call_reprE T.sys (hr.mono (by decide))) (by rfl) T.m_repr (by decide +kernel) (pa_cons (pv 6) pa_nil)) (pv 1) (nomark _))))))))))))))), ?_⟩
    repeat (walk_at "st")
    refine ⟨_, _, rfl, (by walk_at "side"), (by first | decide | decide +kernel | assumption), (by walk_at "rok"), fun d1 G1 dl1 dh1 r1 o1 => ?_⟩
    repeat (walk_at "st")
    refine l_rd (b := false) (K := K) wk_range.q r Odd16 (by rw [rangeV_len, sizeLine_eq]; omega) r1 (fun _ _ => trivial) (fun i x H' S hi hx o' r' hS => ?_) (fun D H' ys ds nD neD o2 r2 eD hd hl hk => ?_)
    · repeat (walk_at "st")
      refine ⟨r, rfl, r', fun v d G hv ok rr oo => ?_⟩
      exact hS v d G hv.da ok oo rr
    · rw [rangeV_len] at hl
      have off2 : Off r H H' := o1.trans o2
      repeat (walk_at "st")
      refine i_cut (fun σ' G' => ∃ D2, σ' = [some (.ref r), none, none, none, none, none, some (.ref D2), none, none, none, none] ∧ Mid1 K r H G' D2) ?_ ?_
      · repeat (walk_at "st")
        refine ⟨_, _, rfl, (by walk_at "side"), (by first | decide | decide +kernel | assumption), (by walk_at "rok"), fun d3 G3 dl3 dh3 r3 o3 => ?_⟩
        have off3 : Off r H G3 := off2.trans o3
        have hd3 : DaAll K (wo r G3) ys ds := (hd.same (wo_same)).same (Off.wo o3)
        have e3 : G3 D = some (.lst ys) := o3 _ _ neD eD
        have hl3 : ys.length = ds.length := hd3.len
        repeat (walk_at "st")
        refine i_ite (fun e => ?_) (fun e => ?_)
        · repeat (walk_at "st")
          refine ⟨⟨_, SqL.of e3⟩, ?_⟩
          refine l_fq (wk_list (K := K) (a := D) (xs := ys)).q (fun i => winB (ds.getD i .none)) (fun i => ys.getD i .non) (by rw [sizeLine_eq]; omega) (fun H' s => SqL.of (s _ _ e3)) (fun i x H' S N hi hx s1 hS hN => ?_) (fun D2 H' n2 s2 e2 => ?_)
          · obtain ⟨d, hdd, hda⟩ := da_get hd3 hx
            have ex : ys.getD i .non = x := by rw [List.getD_eq_getElem?_getD, hx]; rfl
            have ed : ds.getD i .none = d := by rw [List.getD_eq_getElem?_getD, hdd]; rfl
            rw [ex] at hS
            rw [ed] at hS hN
            repeat (walk_at "st")
            refine ⟨_, _, rfl, (hda.same wo_same).same s1, fun G s => ?_⟩
            repeat (walk_at "st")
            refine i_ite (fun e => ?_) (fun e => ?_)
            · repeat (walk_at "st")
              exact hS e _ s
            · exact hN e _ s
          · repeat (walk_at "st")
            refine ⟨_, _, off3.trans (.of_same s2), r3.same s2, r3.ne n2, e2, (da_pick hd3 _ fun i hi => List.mem_range.mp (List.mem_filter.mp hi).1).same (Same.wo s2), ?_, fun d hdd => ?_⟩
            · rw [List.length_map]
              have := List.length_filter_le (fun i => winB (ds.getD i .none)) (List.range ys.length)
              rw [List.length_range] at this
              omega
            · obtain ⟨i, hi, rfl⟩ := List.mem_map.mp hdd
              have hi' : i < ds.length := by have := List.mem_range.mp (List.mem_filter.mp hi).1; omega
              rw [List.getD_eq_getElem?_getD, List.getElem?_eq_getElem hi']
              exact hk _ (List.getElem_mem hi')
        · repeat (walk_at "st")
          exact ⟨_, _, off3, r3, neD, e3, hd3, by omega, hk⟩
      · clear hd eD hk neD nD o2 r2 hl off2 o1 dl1 dh1 r1
        rintro σ4 G4 ⟨D2, rfl, xs, ds, off4, r4, ne4, e4, hd4, hl4, hk4⟩
        have hl4' : xs.length = ds.length := hd4.len
        refine i_cut (fun σ' G' => ∃ v, σ' = [some (.ref r), none, none, none, none, none, some v, none, none, none, none] ∧ Mid2 K r H G' v) ?_ ?_
        · repeat (walk_at "st")
          refine i_new fun p5 G5 n5 s5 e5 => ?_
          repeat (walk_at "st")
          refine i_lit fun v6 G6 s6 d6 => ?_
          repeat (walk_at "st")
          refine i_newN fun p7 G7 n7 z7 s7 e7 => ?_
          have r5 := r4.same s5
          have r6 := r5.same s6
          have hs57 : Same G4 G7 := s5.trans (s6.trans s7)
          obtain ⟨ra, rb, hr4, _⟩ := id r4
          have ne5 : p5 ≠ r := r4.ne n5
          have hd6 : DaS K (wo r G6) v6 (.dict []) := d6.same (newP_wo (s5 _ _ hr4))
          repeat (walk_at "st")
          refine ⟨r, r6.same s7, .inl ⟨_, _, rfl, e7, r6.ne n7, by show 0 < 10; decide, by show 10 < 1000; decide, fun v G8 hv r8 o8 => ?_⟩⟩
          repeat (walk_at "st")
          have off8 : Off r G4 G8 := fun b o n h => o8 b o n (hs57 _ _ h)
          have hd8 := hd4.same (Off.wo off8)
          have hx : ∀ x ∈ ds, Shc x 100 3 := fun x hx => (hk4 x hx).1
          have h48 : ds.length * (100 + 2) + 3 ≤ 1000 := by omega
          simp only [List.mem_cons, List.not_mem_nil, or_false] at hv
          have lst : Da K (wo r G8) (.ref D2) (.list ds) := Da.lst (SqL.of ((wo_get ne4).trans (off8 _ _ ne4 e4))) hd8
          have slst : Some16 (.list ds) := ⟨(Shc.lst hx).mono (by omega) (by omega), fun es e => by cases e; exact ⟨hl4, hk4⟩⟩
          have notl : ∀ d, isi d "list" = false → Shc d 1000 6 → Some16 d := fun d h1 h2 => ⟨h2, fun es e => by rw [e] at h1; cases h1⟩
          rcases hv with rfl | rfl | rfl | rfl | rfl | rfl | rfl | rfl | rfl | rfl
          · exact ⟨_, off4.trans off8, r8, lst, slst⟩
          · exact ⟨_, off4.trans off8, r8, lst, slst⟩
          · exact ⟨_, off4.trans off8, r8, lst, slst⟩
          · exact ⟨_, off4.trans off8, r8, lst, slst⟩
          · exact ⟨.tuple ds, off4.trans off8, r8, .tup (SqT.of ((wo_get ne5).trans (o8 _ _ ne5 (s7 _ _ (s6 _ _ e5))))) hd8, notl _ rfl ((Shc.tup hx).mono (by omega) (by omega))⟩
          · exact ⟨.none, off4.trans off8, r8, .non, notl _ rfl (shc_of (by decide +kernel))⟩
          · exact ⟨.int 0, off4.trans off8, r8, .int _, notl _ rfl (shc_of (by decide +kernel))⟩
          · exact ⟨.str "", off4.trans off8, r8, .str _, notl _ rfl (shc_of (by decide +kernel))⟩
          · exact ⟨.dict [], off4.trans off8, r8, (hd6.da).same ((Same.wo s7).trans (Off.wo o8)), notl _ rfl (shc_of (by decide +kernel))⟩
          · exact ⟨.bool true, off4.trans off8, r8, .bl _, notl _ rfl (shc_of (by decide +kernel))⟩
        · clear hd4 e4 ne4 hl4 hk4 hl4' r4 off4
          rintro σ5 G5 ⟨vs, rfl, d, off5, r5, hd5, sh5, hl5⟩
          repeat (walk_at "st")
          refine i_litL fun p9 xs9 G9 n9 z9 s9 e9 d9 => ?_
          have l9 : xs9.length = 8 := d9.len
          repeat (walk_at "st")
          obtain ⟨ra, rb, hr5, hb5⟩ := id r5
          refine ⟨r, r5.same s9, .inl ⟨_, _, rfl, e9, r5.ne n9, by omega, by omega, fun vn G10 hvn r10 o10 => ?_⟩⟩
          obtain ⟨dn, hdn, kn⟩ := d9.mem vn hvn
          have hn : DaS K G10 vn dn := wo_dat (kn.same ((newP_wo hr5).trans o10.wo))
          have bn : Shc dn 100 3 := shc_all num8_all hdn
          have o510 : Off r G5 G10 := fun b o n h => o10 b o n (s9 _ _ h)
          have hd10 : Da K G10 vs d := wo_dat (hd5.same (Off.wo o510))
          have w10 : Shw d := sh5.sh.shw (by omega) (by omega)
          have off10 : Off r H G10 := off5.trans o510
          have t10 : LamX.Tabs (TT A) G10 := tabs_rng tabs hR off10
          clear hd5 d9 kn o510 o10 off5 r5 hr5 e9 hvn hdn s9 n9
          repeat (walk_at "st")
          refine i_new fun p11 G11 n11 s11 e11 => ?_
          repeat (walk_at "st")
          have hd := hd10.same s11
          have hn := hn.same s11
          have r11 := r10.same s11
          have t11 := tabs_same s11 t10
          have x11 : XOff r H G11 := XOff.ofO (off10.trans (.of_same s11))
          clear s11 n11 e11 hd10 r10 t10 off10
          have hs4 : ∀ es, d = .list es → es.length ≤ 4 := fun es e => (hl5 es e).1
          refine i_cut (fun σ' G' => ∃ y, σ' = [some (.ref r), some (.str d.shown), some y, none, none, some vn, some vs, none, none, none, none] ∧ Mid3 K G11 G' d y) ?_ ?_
          · repeat (walk_at "st")
            refine i_ite (fun e => ?_) (fun e => ?_)
            · have e' : isi d "list" = false := by simpa using e
              have hb := badV_not e'
              repeat (walk_at "st")
              refine i_newN fun p12 G12 n12 z12 s12 e12 => ?_
              repeat (walk_at "st")
              refine ⟨s12, Or.inr ⟨_, ⟨_, hb⟩, rfl, ?_⟩⟩
              have eo : outF d = told1 "windows" .none := by unfold outF; rw [hb]; rfl
              rw [eo]
              exact da_told z12 e12 .non
            · have e' : isi d "list" = true := by simpa using e
              obtain ⟨a, xs, ds, rfl, rfl, hq, ha⟩ := da_list hd e'
              have hl : xs.length = ds.length := ha.len
              have h4 := hs4 ds rfl
              repeat (walk_at "st")
              refine ⟨⟨_, hq⟩, ?_⟩
              refine l_fq (wk_list (K := K) (a := a) (xs := xs)).q (fun i => !winB (ds.getD i .none)) (fun i => xs.getD i .non) (by rw [sizeLine_eq]; omega) (fun H' s => Same.seq s hq) (fun i x H' S N hi hx s1 hS hN => ?_) (fun D2 G12 n12 s12 e12 => ?_)
              · obtain ⟨dd, hdd, hda⟩ := da_get ha hx
                have ex : xs.getD i .non = x := by rw [List.getD_eq_getElem?_getD, hx]; rfl
                have ed : ds.getD i .none = dd := by rw [List.getD_eq_getElem?_getD, hdd]; rfl
                rw [ex] at hS
                rw [ed] at hS hN
                repeat (walk_at "st")
                refine ⟨_, _, rfl, hda.same s1, fun G s => ?_⟩
                repeat (walk_at "st")
                refine i_ite (fun e => ?_) (fun e => ?_)
                · repeat (walk_at "st")
                  exact hS e _ s
                · exact hN e _ s
              · repeat (walk_at "st")
                refine i_newN fun p13 G13 n13 z13 s13 e13 => ?_
                repeat (walk_at "st")
                refine i_ite (fun e => ?_) (fun e => ?_)
                · have hne : badV (.list ds) ≠ none := fun z => by
                    have hall := badV_all z
                    have e2 : ((List.range xs.length).filter fun i => !winB (ds.getD i .none)) = [] := by
                      refine List.filter_eq_nil_iff.mpr fun i hi => ?_
                      have hi' : i < ds.length := by have := List.mem_range.mp hi; omega
                      rw [List.getD_eq_getElem?_getD, List.getElem?_eq_getElem hi']
                      simp [hall _ (List.getElem_mem hi')]
                    rw [e2] at e
                    simp at e
                  obtain ⟨hm, hb⟩ := bad_idx hne
                  have sq13 : SqL K G13 a xs := Same.seq (s12.trans s13) hq
                  repeat (walk_at "st")
                  refine ⟨⟨_, sq13⟩, ?_⟩
                  refine l_mq (wk_list (K := K) (a := a) (xs := xs)).q (fun i => .bl (winB (ds.getD i .none))) (by rw [sizeLine_eq]; omega) (fun H' s => Same.seq s sq13) (fun i x H' S hi hx s1 hS => ?_) (fun D4 G14 n14 s14 e14 => ?_)
                  · obtain ⟨dd, hdd, hda⟩ := da_get ha hx
                    have ed : ds.getD i .none = dd := by rw [List.getD_eq_getElem?_getD, hdd]; rfl
                    rw [ed] at hS
                    repeat (walk_at "st")
                    refine ⟨_, _, rfl, hda.same ((s12.trans s13).trans s1), fun G s => ?_⟩
                    exact hS _ s
                  · rw [map_winB hl] at e14
                    repeat (walk_at "st")
                    refine i_indexB (bs := ds.map winB) (SqL.of e14) hm ?_
                    repeat (walk_at "st")
                    refine i_newN fun p15 G15 n15 z15 s15 e15 => ?_
                    repeat (walk_at "st")
                    refine ⟨s12.trans (s13.trans (s14.trans s15)), Or.inr ⟨_, ⟨_, hb⟩, rfl, ?_⟩⟩
                    have eo : outF (.list ds) = told1 "windows" (.int ((ds.map winB).idxOf false : Nat)) := by unfold outF; rw [hb]; rfl
                    rw [eo]
                    exact da_told z15 e15 (.int _)
                · have hb : badV (.list ds) = none := by
                    refine pick_win hl ?_
                    simpa using e
                  repeat (walk_at "st")
                  exact ⟨s12.trans s13, Or.inl ⟨hb, rfl⟩⟩
          rintro σ12 G12 ⟨y, rfl, s12, due⟩
          have due1 : DueV K G12 y (outF d) := by
            rcases due with ⟨hb, rfl⟩ | ⟨p, _, rfl, hda⟩
            · exact .inl ⟨rfl, _, by unfold outF; rw [hb]⟩
            · exact .inr ⟨p, rfl, hda⟩
          have hd12 := hd.same s12
          repeat (walk_at "st")
          refine told_ff rfl hd12.da hs4 (tabs_same s12 t11) fun G13 x13 t13 => ?_
          repeat (walk_at "st")
          refine i_cut (fun σ' G' => σ' = [some (.ref r), some (.str d.shown), some y, some (.str (outF d).shown), none, some vn, some vs, none, none, none, none] ∧ G' = G13) (i_check (K := K) rfl rfl (due1.extN x13) (outF_shw hs4) ⟨rfl, rfl⟩) ?_
          rintro σ13 G13' ⟨rfl, rfl⟩
          have x1113 : LamX.ExtN G11 G13' := extN_thenE x13 (extN_ofS s12)
          have hd := hd.extN x1113
          have hn := hn.extN x1113
          have r13 := r11.extN x1113
          have xo13 := x11.thenX x1113
          have due : (badV d = none ∧ y = .non) ∨ ∃ p, (∃ o, badV d = some o) ∧ y = .ref p ∧ DaS K G13' y (outF d) := due.imp id fun ⟨p, h1, h2, h3⟩ => ⟨p, h1, h2, h3.extN x13⟩
          clear due1 hd12 s12 x13 x1113 t11 x11 r11
          refine i_cut (fun σ' G' => ∃ y z, σ' = [some (.ref r), some (.str d.shown), some y, some (.str (outF d).shown), z, some vn, some vs, none, none, none, none] ∧ Mid4 K G13' G' d dn y) ?_ ?_
          · rcases due with ⟨hb, rfl⟩ | ⟨p, ⟨o, hb⟩, rfl, hda⟩
            · repeat (walk_at "st")
              refine i_tt (by rfl) ?_
              obtain ⟨ws, rfl, okw⟩ := badV_list hb
              obtain ⟨a, xs, ds, rfl, ed, hq, ha⟩ := da_list hd rfl
              cases ed
              have ll : xs.length = ws.length := by rw [ha.len]; simp
              have h4 : ws.length ≤ 4 := by have := hs4 _ rfl; simpa using this
              have hw60 : ∀ w ∈ ws, W60 w := fun w hw => by
                have := ((hl5 _ rfl).2 (winD w) (List.mem_map_of_mem hw)).2 w (winP_D (okw w hw))
                exact ⟨okw w hw, this.1, this.2⟩
              repeat (walk_at "st")
              refine i_new fun p14 G14 n14 s14 e14 => ?_
              rw [cutV_from (by decide)] at e14
              have hn14 : min xs.length (xs.drop (Int.toNat 1)).length = ws.length - 1 := by rw [List.length_drop, ll]; show min _ (_ - 1) = _; omega
              repeat (walk_at "st")
              refine l_mq (wq_zip (K := K) (a := a) (b := p14) (xs := xs) (ys := xs.drop (Int.toNat 1)) hn14.symm) (fun i => .bl (flagF ws i)) (by rw [sizeLine_eq]; omega) (fun H' s => ⟨Same.seq (s14.trans s) hq, SqL.of (s _ _ e14)⟩) (fun i x H' S hi hx s1 hS => ?_) (fun D4 G15 n15 s15 e15 => ?_)
              · obtain ⟨p, x1, x2, rfl, eT, h1, h2⟩ := hx
                replace h2 : (xs.drop (Int.toNat 1))[i]? = some x2 := h2
                rw [List.getElem?_drop] at h2
                obtain ⟨d1, hd1, k1⟩ := da_get ha h1
                obtain ⟨d2, hd2, k2⟩ := da_get ha h2
                obtain ⟨w1, hw1, rfl⟩ := wins_get hd1
                obtain ⟨w2, hw2, rfl⟩ := wins_get hd2
                have i1 : Int.toNat 1 + i = i + 1 := by omega
                rw [i1] at hw2
                have fl : flagF ws i = fallsW w1 w2 := by unfold flagF; rw [hw1, hw2]
                rw [fl] at hS
                have s4 := s14.trans s1
                have k1' := k1.same s4
                have k2' := k2.same s4
                obtain ⟨a1, rfl, hT1⟩ := da_win k1'
                obtain ⟨a2, rfl, hT2⟩ := da_win k2'
                repeat (walk_at "st")
                refine i_ite (fun e => ?_) (fun e => ?_)
                · have hS' := hS _ (Same.refl _)
                  unfold fallsW at hS'
                  rw [show decide (w2.1 < w1.1) = true from e] at hS'
                  exact hS'
                · repeat (walk_at "st")
                  refine ⟨_, _, rfl, k1', fun G s => ?_⟩
                  repeat (walk_at "st")
                  refine ⟨_, _, rfl, k2'.same s, fun G' s' => ?_⟩
                  repeat (walk_at "st")
                  have hS' := hS _ (s.trans s')
                  unfold fallsW at hS'
                  rw [show decide (w2.1 < w1.1) = false from e] at hS'
                  exact hS'
              · have fi := fall_idx hw60
                have wd := winsD_of okw
                have e15' : G15 D4 = some (.lst (((List.range (ws.length - 1)).map (flagF ws)).map V.bl)) := by rw [e15, List.map_map]; rfl
                repeat (walk_at "st")
                refine i_rInL (xs := ((List.range (ws.length - 1)).map (flagF ws)).map V.bl) (SqL.of e15') rfl (flat_bools _) ?_
                rw [inV_bool]
                repeat (walk_at "st")
                refine i_ite (fun e => ?_) (fun e => ?_)
                · rw [if_pos e] at fi
                  repeat (walk_at "st")
                  refine i_indexB (bs := (List.range (ws.length - 1)).map (flagF ws)) (SqL.of e15') (by simpa using e) ?_
                  repeat (walk_at "st")
                  refine i_newN fun p16 G16 n16 z16 s16 e16 => ?_
                  repeat (walk_at "st")
                  refine ⟨s14.trans (s15.trans s16), Or.inr ⟨_, rfl, ?_⟩⟩
                  have eo : outL (.list (ws.map winD)) dn = told1 "windows" (.int (1 + (((List.range (ws.length - 1)).map (flagF ws)).idxOf true : Nat))) := by
                    unfold outL
                    rw [hb, wd]
                    dsimp only
                    rw [fi]
                    dsimp only
                    congr 3
                  rw [eo]
                  exact da_told z16 e16 (.int _)
                · rw [if_neg (by rw [e]; decide)] at fi
                  repeat (walk_at "st")
                  exact ⟨s14.trans s15, Or.inl ⟨hb, by rw [wd]; exact fi, rfl⟩⟩
            · repeat (walk_at "st")
              refine i_ff (by rfl) ?_
              repeat (walk_at "st")
              refine ⟨Same.refl _, Or.inr ⟨_, rfl, ?_⟩⟩
              have eo : outL d dn = outF d := by unfold outL outF; rw [hb]
              rw [eo]
              exact hda
          rintro σ14 G14 ⟨y, z, rfl, s14, due⟩
          have hd := hd.same s14
          have hn := hn.same s14
          have r14 := r13.same s14
          have t14 := tabs_same s14 t13
          have xo14 := xo13.thenX (extN_ofS s14)
          clear s14 r13 t13 xo13
          refine i_cut (fun σ' G' => ∃ y, σ' = [some (.ref r), some (.str d.shown), some y, some (.str (outF d).shown), z, some vn, some vs, none, none, none, none] ∧ Mid5 K G14 G' d dn y) ?_ ?_
          · rcases due with ⟨hb, hf, rfl⟩ | ⟨p, rfl, hda⟩
            · repeat (walk_at "st")
              refine i_tt (by rfl) ?_
              repeat (walk_at "st")
              refine ⟨_, _, rfl, hn.da, fun G16 s16 => ?_⟩
              repeat (walk_at "st")
              refine i_ite (fun e => ?_) (fun e => ?_)
              · have e' : verD dn = false := by simpa using e
                repeat (walk_at "st")
                refine i_newN fun p17 G17 n17 z17 s17 e17 => ?_
                repeat (walk_at "st")
                refine ⟨s16.trans s17, Or.inr ⟨_, rfl, ?_⟩⟩
                have eo : outL d dn = told1 "version" dn := by
                  unfold outL
                  rw [hb]
                  dsimp only
                  rw [hf]
                  dsimp only
                  rw [if_neg (by rw [e']; decide)]
                rw [eo]
                exact da_told z17 e17 (hn.same (s16.trans s17))
              · have e' : verD dn = true := by simpa using e
                repeat (walk_at "st")
                refine ⟨s16, Or.inl ⟨rfl, ?_⟩⟩
                unfold outL
                rw [hb]
                dsimp only
                rw [hf]
                dsimp only
                rw [if_pos e']
                exact ⟨_, rfl⟩
            · repeat (walk_at "st")
              refine i_ff (by rfl) ?_
              repeat (walk_at "st")
              exact ⟨Same.refl _, Or.inr ⟨_, rfl, hda⟩⟩
          rintro σ15 G15 ⟨y2, rfl, s15, due2⟩
          repeat (walk_at "st")
          refine told_least rfl rfl (hd.same s15) (hn.same s15) hs4 bn (tabs_same s15 t14) fun G16 x16 t16 => ?_
          repeat (walk_at "st")
          refine i_cut (fun σ' G' => σ' = [some (.ref r), some (.str d.shown), some y2, some (.str (outL d dn).shown), z, some vn, some vs, none, none, none, none] ∧ G' = G16) (i_check (K := K) rfl rfl (due2.extN x16) (outL_shw hs4 bn) ⟨rfl, rfl⟩) ?_
          rintro σ16 G16' ⟨rfl, rfl⟩
          have x1416 : LamX.ExtN G14 G16' := extN_thenE x16 (extN_ofS s15)
          have hd16 := hd.extN x1416
          repeat (walk_at "st")
          exact q _ (xo14.thenX x1416) (r14.extN x1416) t16
end
end KX

namespace KX
open PySem PySem.Spec PyProof.Rows L2

local macro_rules | `(tactic| walk_at "kp") => `(tactic| first
  | with_reducible exact Kp.refl
  | with_reducible exact Kp.thenS (by assumption) (by walk_at "kp")
  | with_reducible exact Kp.thenO (by assumption) (by walk_at "ne") (by walk_at "kp")
  | fail)
local macro_rules | `(tactic| walk_at "hq") => `(tactic| first
  | assumption
  | with_reducible exact Kp.get (by assumption) (by walk_at "kp")
  | fail)
local macro_rules | `(tactic| walk_at "hg") => `(tactic| first
  | walk_at "hq"
  | exact upd_same
  | with_reducible exact (upd_ne (by walk_at "ne")).trans (by walk_at "hg")
  | with_reducible exact Same.get (by assumption) (by walk_at "hg")
  | with_reducible exact Off.get (by assumption) (by walk_at "ne") (by walk_at "hg")
  | fail)
local macro_rules | `(tactic| walk_at "ne") => `(tactic| first
  | assumption
  | (apply Ne.symm; assumption)
  | exact Rok.ne' (by assumption) (by walk_at "rok")
  | exact (Rok.ne' (by assumption) (by walk_at "rok")).symm
  | exact ne_some (by assumption) (by walk_at "hg")
  | exact (ne_some (by assumption) (by walk_at "hg")).symm
  | fail)
local macro_rules | `(tactic| walk_at "rok") => `(tactic| first
  | assumption
  | with_reducible exact Rok.kp (by assumption) (by walk_at "kp")
  | with_reducible exact Rok.same (by assumption) (by walk_at "rok")
  | fail)
local macro_rules | `(tactic| walk_at "sq") => `(tactic| first
  | assumption
  | exact Same.seq (by assumption) (by assumption)
  | (with_reducible show SqL _ _ _ _; with_reducible exact SqL.of (by walk_at "hg"))
  | (with_reducible show SqT _ _ _ _; with_reducible exact SqT.of (by walk_at "hg"))
  | fail)
local macro_rules | `(tactic| walk_at "dac") => `(tactic| first
  | assumption
  | exact DaF.same (by assumption) (by walk_at "dac")
  | fail)
local macro_rules | `(tactic| walk_at "da") => `(tactic| first
  | exact (DaF.non : DaS _ _ _ _)
  | exact (DaF.bl _ : DaS _ _ _ _)
  | exact (DaF.int _ : DaS _ _ _ _)
  | exact (DaF.str _ : DaS _ _ _ _)
  | exact DaF.non
  | exact DaF.bl _
  | exact DaF.int _
  | exact DaF.str _
  | walk_at "dac"
  | with_reducible exact DaF.lst (SqL.of (by walk_at "hq")) (fun _ => by assumption) (by walk_at "das")
  | with_reducible exact Da.lst (SqL.of (by walk_at "hq")) (by walk_at "das")
  | with_reducible exact DaF.tup (SqT.of (by walk_at "hq")) (by walk_at "das")
  | with_reducible exact DaF.dic (Rd.of (by walk_at "hq")) (by walk_at "dak")
  | fail)
local macro_rules | `(tactic| walk_at "das") => `(tactic| first
  | assumption
  | exact DaAllF.nil
  | exact DaAllF.cons (by walk_at "da") (by walk_at "das")
  | fail)
local macro_rules | `(tactic| walk_at "dak") => `(tactic| first
  | assumption
  | exact DaKvF.nil
  | exact DaKvF.cons (by walk_at "da") (by walk_at "dak")
  | fail)
local macro_rules | `(tactic| walk_at "shw") => `(tactic| first
  | assumption
  | exact shw_b2 _ _
  | exact ⟨by decide +kernel, by decide +kernel, by decide +kernel⟩
  | fail)
local macro_rules | `(tactic| walk_at "nod") => `(tactic| first
  | exact .inl rfl
  | exact .inr rfl
  | assumption
  | exact .inr (by assumption)
  | fail)
local macro_rules | `(tactic| walk_at "okd") => `(tactic| first
  | assumption
  | exact okd_of (by decide +kernel)
  | fail)
local macro_rules | `(tactic| walk_at "off") => `(tactic| first
  | assumption
  | exact Off.refl _ _
  | exact Same.refl _
  | with_reducible exact Same.thenS (by assumption) (by walk_at "off")
  | with_reducible exact Off.thenS (by assumption) (by walk_at "off")
  | with_reducible exact Off.thenO (by assumption) (by walk_at "off")
  | with_reducible exact Same.thenF (by assumption) (by assumption) (by walk_at "off") (by walk_at "off")
  | with_reducible exact Off.thenF (by assumption) (by assumption) (by walk_at "off") (by walk_at "off")
  | fail)
local macro_rules | `(tactic| walk_at "side") => `(tactic| first
  | assumption
  | omega
  | decide
  | (simp only [List.length_append, List.length_cons, List.length_nil]; decide)
  | exact ⟨by omega, by omega⟩
  | exact ⟨by omega, PyProof.noPylong_of_log2 (by first | assumption | decide)⟩
  | exact .inl ⟨by omega, by omega⟩
  | exact .inr ⟨by omega, by omega⟩
  | exact ⟨by decide, by decide, by decide⟩
  | exact ⟨by decide, by decide, by omega⟩
  | fail)
local macro_rules | `(tactic| walk_at "st") => `(tactic| first
  | with_reducible refine i_seq ?_
  | with_reducible refine i_bi ?_
  | with_reducible refine i_raise ?_
  | with_reducible refine i_callX ?_
  | with_reducible refine i_tryN ?_
  | with_reducible refine i_isNon ?_
  | with_reducible refine i_isNotNon ?_
  | ((with_reducible refine' i_split ?h ?z ?_); (case h => rfl); (case z => walk_at "side"))
  | with_reducible refine i_find ?_
  | ((with_reducible refine i_strI ?h ?_); (case h => walk_at "side"))
  | with_reducible refine i_fmt ?_
  | ((with_reducible refine i_fmS ?h ?_); (case h => walk_at "side"))
  | ((with_reducible refine i_fmI ?h ?_); (case h => walk_at "side"))
  | with_reducible refine i_jn ?_
  | with_reducible refine i_js0 ?_
  | with_reducible refine i_js1 ?_
  | ((with_reducible refine i_jsR ?h ?_); (case h => walk_at "side"))
  | with_reducible refine i_revS ?_
  | ((with_reducible refine i_exrev ?h ?_); (case h => walk_at "side"))
  | with_reducible refine i_revL ?_
  | ((with_reducible refine' i_exrevL ?h ?_); (case h => walk_at "sq"))
  | with_reducible refine i_par3 ?_
  | with_reducible refine i_ex3 ?_
  | with_reducible refine i_stB ?_
  | with_reducible refine i_mk0 ?_
  | with_reducible refine i_asg ?_
  | with_reducible refine i_c ?_
  | ((with_reducible refine' i_var ?h ?_); (case h => rfl))
  | with_reducible refine i_op ?_
  | with_reducible refine i_cons ?_
  | with_reducible refine i_nil ?_
  | ((with_reducible refine' i_gName ?h ?_); (case h => rfl))
  | with_reducible refine i_rI0 ?_
  | ((with_reducible refine i_rI ?h ?_); (case h => walk_at "side"))
  | with_reducible refine i_test ?_
  | with_reducible refine i_exbl ?_
  | with_reducible refine i_exint ?_
  | with_reducible refine i_exs ?_
  | with_reducible refine i_ret ?_
  | with_reducible refine i_next ?_
  | with_reducible refine i_ifS ?_
  | ((with_reducible refine' i_rIxL ?h ?e ?_); (case h => walk_at "sq"); (case e => first | assumption | rfl))
  | ((with_reducible refine' i_rIxT ?h ?e ?_); (case h => walk_at "sq"); (case e => first | assumption | rfl))
  | ((with_reducible refine' i_rIxS ?h ?e ?_); (case h => walk_at "side"); (case e => first | assumption | rfl))
  | with_reducible refine i_un ?_
  | with_reducible refine i_rU ?_
  | ((with_reducible refine i_rEqSame ?h ?_); (case h => rfl))
  | ((with_reducible refine i_rNeSame ?h ?_); (case h => rfl))
  | ((with_reducible refine i_rEq ?h ?_); (case h => rfl))
  | ((with_reducible refine i_rNe ?h ?_); (case h => rfl))
  | with_reducible refine i_tB ?_
  | with_reducible refine i_and ?_
  | with_reducible refine i_or ?_
  | with_reducible refine i_not ?_
  | with_reducible refine i_andV ?_
  | with_reducible refine i_orV ?_
  | with_reducible refine i_notV ?_
  | with_reducible refine i_if ?_
  | with_reducible refine i_chain ?_
  | with_reducible refine i_drop ?_
  | with_reducible refine i_retN ?_
  | with_reducible refine i_par ?_
  | with_reducible refine i_ex2 ?_
  | ((with_reducible refine' i_aug ?h ?_); (case h => rfl))
  | with_reducible refine i_gNil ?_
  | with_reducible refine i_gCons ?_
  | ((with_reducible refine' i_gTup ?h ?e ?_); (case h => walk_at "sq"); (case e => rfl))
  | with_reducible refine i_gSub ?_
  | ((with_reducible refine' i_rSetL ?h ?e ?_); (case h => walk_at "hg"); (case e => first | assumption | rfl))
  | with_reducible refine i_tup ?_
  | with_reducible refine i_lst ?_
  | with_reducible refine i_lstN ?_
  | with_reducible refine i_newDK ?_
  | with_reducible refine i_disp ?_
  | with_reducible refine i_pairs0 ?_
  | with_reducible refine i_pairs1 ?_
  | with_reducible refine i_call ?_
  | with_reducible refine i_cb ?_
  | with_reducible refine i_bm ?_
  | with_reducible refine i_m1 ?_
  | with_reducible refine i_m0 ?_
  | ((with_reducible refine' i_rAppend ?h ?e ?_); (case h => walk_at "hg"); (case e => walk_at "side"))
  | ((with_reducible refine i_rSlS ?h ?_); (case h => walk_at "side"))
  | ((with_reducible refine' i_rSlL ?h ?_); (case h => walk_at "sq"))
  | with_reducible refine i_sl ?_
  | with_reducible refine i_noPart ?_
  | with_reducible refine i_part ?_
  | with_reducible refine i_rng1 ?_
  | with_reducible refine i_iList ?_
  | with_reducible refine i_iStr ?_
  | with_reducible refine i_iEnum ?_
  | with_reducible refine i_iZip ?_
  | with_reducible refine i_ez ?_
  | ((with_reducible refine' i_exen ?h ?_); (case h => walk_at "sq"))
  | ((with_reducible refine' i_exz ?h ?k ?_); (case h => walk_at "sq"); (case k => walk_at "sq"))
  | ((with_reducible refine' i_listN ?h ?_); (case h => walk_at "sq"))
  | with_reducible refine i_intB ?_
  | ((with_reducible refine' i_listTN ?h ?_); (case h => walk_at "sq"))
  | with_reducible refine i_revT ?_
  | ((with_reducible refine' i_exrevT ?h ?_); (case h => walk_at "sq"))
  | ((with_reducible refine' i_catA ?h ?k ?a ?b ?z ?_); (case h => walk_at "sq"); (case k => walk_at "sq"); (case a => simp); (case b => simp); (case z => walk_at "side"))
  | ((with_reducible refine' i_slTA ?h ?k ?_); (case h => walk_at "sq"); (case k => simp only [List.length_cons, List.length_nil]; decide))
  | ((with_reducible refine' i_countF ?h ?k ?a ?_); (case h => walk_at "sq"); (case k => rfl); (case a => rfl))
  | with_reducible refine i_iTup ?_
  | ((with_reducible refine' i_exlT ?h ?_); (case h => walk_at "sq"))
  | ((with_reducible refine' i_rCatN ?h ?e ?z ?_); (case h => walk_at "hg"); (case e => walk_at "hg"); (case z => walk_at "side"))
  | with_reducible refine i_tryC ?_
  | ((with_reducible refine' i_tupL ?h ?_); (case h => walk_at "sq"))
  | ((with_reducible refine' i_neNil ?h ?k ?_); (case h => walk_at "sq"); (case k => walk_at "sq"))
  | ((with_reducible refine' i_eqNil ?h ?k ?_); (case h => walk_at "sq"); (case k => walk_at "sq"))
  | ((with_reducible refine' i_reprE ?h ?e ?_); (case h => walk_at "da"); (case e => walk_at "shw"))
  | ((with_reducible refine' i_tyL ?h ?_); (case h => walk_at "sq"))
  | with_reducible refine i_isBl ?_
  | ((with_reducible refine i_callW ?_))
  | ((with_reducible refine i_exrng ?h1 ?h2 ?_); (case h1 => walk_at "side"); (case h2 => walk_at "side"))
  | ((with_reducible refine' i_exl ?h ?_); (case h => walk_at "sq"))
  | with_reducible refine i_for ?_
  | with_reducible refine i_lc ?_
  | with_reducible refine i_yes ?_
  | with_reducible refine i_iteT ?_
  | with_reducible refine i_iteF ?_
  | ((with_reducible refine i_divmod ?h ?_); (case h => walk_at "side"))
  | ((with_reducible refine' i_isi ?h ?e ?_); (case h => walk_at "da"); (case e => decide))
  | ((with_reducible refine i_lenS ?h ?_); (case h => walk_at "side"))
  | ((with_reducible refine' i_lenL ?h ?_); (case h => walk_at "sq"))
  | ((with_reducible refine' i_lenT ?h ?_); (case h => walk_at "sq"))
  | ((with_reducible refine' i_repr ?h ?n ?e ?_); (case h => walk_at "da"); (case n => walk_at "nod"); (case e => walk_at "shw"))
  | ((with_reducible refine' i_rCat ?h ?e ?z ?_); (case h => walk_at "hg"); (case e => walk_at "hg"); (case z => walk_at "side"))
  | ((with_reducible refine i_rCatS ?h ?_); (case h => walk_at "side"))
  | with_reducible refine i_exstr ?_
  | ((with_reducible refine' i_join ?h ?z ?_); (case h => walk_at "sq"); (case z => walk_at "side"))
  | with_reducible refine i_abs ?_
  | with_reducible refine i_max ?_
  | with_reducible refine i_min ?_
  | ((with_reducible refine' i_rAll ?h ?_); (case h => walk_at "sq"))
  | ((with_reducible refine' i_lcEl ?h ?e ?_); (case h => walk_at "hg"); (case e => walk_at "side"))
  | with_reducible refine ⟨_, _, rfl, rfl, ?_⟩
  | with_reducible refine ⟨_, _, rfl, ?_⟩
  | with_reducible refine ⟨_, rfl, ?_⟩
  | with_reducible refine And.intro rfl ?_
  | ((with_reducible refine And.intro ?h ?_); (case h => walk_at "side"))
  | fail)

section
variable {P : Program} {w : World} {K : PySem.W.Frag} {mg : Str → Option Value} {base : Heap} {A : Ad}
theorem val_lt : ∀ n (a : List Nat), a.length = n → dgs a → PySem.NumText.digitsVal a < 10 ^ n := by
  intro n
  induction n with
  | zero => intro a h _; rw [List.length_eq_zero_iff.mp h]; decide
  | succ n ih =>
    intro a h hd
    have hn : a ≠ [] := fun z => by rw [z] at h; cases h
    obtain ⟨b, c, rfl⟩ : ∃ b c, a = b ++ [c] := ⟨a.dropLast, a.getLast hn, (List.dropLast_concat_getLast hn).symm⟩
    have hc := hd c (by simp)
    have := ih b (by simpa using h) fun c hc => hd c (List.mem_append_left _ hc)
    rw [val_snoc, Nat.pow_succ]
    omega
theorem pnum_short {x : Str} {i : Int} (h : pnum x = some i) : i.natAbs < 2 ^ 200 := by
  unfold pnum at h
  split at h
  · next c =>
    simp only [Bool.and_eq_true, decide_eq_true_eq] at c
    split at h
    · cases h
      have l := val_lt _ x.cps.toList rfl (digs_iff.mp c.2)
      have m : 10 ^ x.cps.toList.length ≤ 10 ^ 60 := Nat.pow_le_pow_right (by decide) (show x.length ≤ 60 from c.1.2)
      unfold valS
      rw [Int.natAbs_natCast]
      exact Nat.lt_of_lt_of_le l (Nat.le_trans m (by decide +kernel))
    · cases h
  · cases h
theorem winS_short {x : Str} {w : Int × Option Int} (h : winS x = some w) : shortW w := by
  unfold winS at h
  split at h
  · next a b _ =>
    cases hl : pnum a with
    | none => rw [hl] at h; cases h
    | some l =>
      have sl := pnum_short hl
      cases hk : pnum b with
      | none =>
        rw [hl, hk] at h
        unfold winAB at h
        dsimp only at h
        split at h
        · cases h; exact ⟨sl, fun k e => nomatch e⟩
        · cases h
      | some k =>
        rw [hl, hk] at h
        unfold winAB at h
        dsimp only at h
        split at h
        · cases h; exact ⟨sl, fun k e => by cases e; exact pnum_short hk⟩
        · cases h
  · cases h
theorem sh_win {w : Int × Option Int} (h : shortW w) : Sh (winD w) 5000 1 := by
  obtain ⟨l, hi⟩ := w
  have g1 : l.natAbs.log2 < 1920 := log_of h.1
  refine (Sh.tup (ds := [.int l, hiD hi]) (n := 1921) (k := 0) fun d hd => ?_).mono (by show 2 * 1923 + 3 ≤ _; decide) (by decide)
  simp only [List.mem_cons, List.not_mem_nil, or_false] at hd
  rcases hd with rfl | rfl
  · exact Sh.int g1
  · cases hi with
    | none => exact Sh.non.mono (by decide) (by decide)
    | some k => exact Sh.int (log_of (h.2 k rfl))
theorem numL_len' {i : Int} {k : Nat} (hk : 0 < k) (h0 : 0 ≤ i) (h : i < 10 ^ k) : (TL.numL i.toNat).length ≤ k := by
  refine TL.numL_len hk ?_
  have e : ((10 : Int) ^ k) = ((10 ^ k : Nat) : Int) := by simp
  rw [e] at h
  omega
/-- windows whose bounds have at most k digits -/
structure Dig (k : Nat) (w : Int × Option Int) : Prop where
  ok : okW w
  lo : w.1 < 10 ^ k
  hi : ∀ h, w.2 = some h → h < 10 ^ k
theorem Dig.tail {k : Nat} {w : Int × Option Int} (h : Dig k w) (hk : 0 < k) : (tailL w.2).length ≤ k := by
  obtain ⟨l, o⟩ := w
  cases o with
  | none => exact Nat.zero_le _
  | some z =>
    have := h.ok.2 z rfl
    have l0 := h.ok.1
    exact numL_len' hk (by dsimp only at *; omega) (h.hi z rfl)
theorem dgs_tail (o : Option Int) : dgs (tailL o) := by
  cases o with
  | none => intro c hc; cases hc
  | some z => exact TL.numL_digits _
theorem Dig.short {k : Nat} {w : Int × Option Int} (h : Dig k w) (hk : k ≤ 60) : shortW w := by
  have e : (10 : Int) ^ k ≤ 10 ^ 60 := by
    have := Nat.pow_le_pow_right (n := 10) (by decide) hk
    exact_mod_cast this
  have e2 : (10 : Int) ^ 60 < 2 ^ 200 := by decide +kernel
  have e3 : (2 : Int) ^ 200 = ((2 ^ 200 : Nat) : Int) := by decide +kernel
  obtain ⟨ok, lo, hi⟩ := h
  refine ⟨?_, fun z hz => ?_⟩
  · have := ok.1
    generalize (2 : Nat) ^ 200 = m at *
    generalize (10 : Int) ^ 60 = n at *
    omega
  · have := ok.1
    have := ok.2 z hz
    have := hi z hz
    generalize (2 : Nat) ^ 200 = m at *
    generalize (10 : Int) ^ 60 = n at *
    omega
theorem Dig.okS {k : Nat} {w : Int × Option Int} (h : Dig k w) (hk : 0 < k) : okS (fmtS w) (2 * k + 2) := by
  have e := fmtW_tl h.ok
  refine ⟨?_, fun c hc => ?_⟩
  · have e1 : (fmtS w).length = (TL.tl (fmtS w)).length := rfl
    have l1 := numL_len' hk h.ok.1 h.lo
    have l2 := h.tail hk
    rw [e1, e]
    unfold fmtL
    simp only [List.length_append, List.length_cons, List.length_nil]
    omega
  · have hc : c ∈ TL.tl (fmtS w) := hc
    rw [e] at hc
    unfold fmtL at hc
    rcases List.mem_append.mp hc with hc | hc
    · rcases List.mem_append.mp hc with hc | hc
      · have := TL.numL_digits _ c hc; omega
      · simp at hc; omega
    · have := dgs_tail _ c hc; omega
theorem Dig.good {k : Nat} {w : Int × Option Int} (h : Dig k w) (hk : 0 < k) (k60 : k ≤ 60) : goodL (TL.tl (fmtS w)) := by
  rw [fmtW_tl h.ok]
  exact (((fmt_two (numL_len' hk h.ok.1 h.lo) (h.tail hk)).run hk).mono k60).good
theorem Dig.read {k : Nat} {w : Int × Option Int} (h : Dig k w) (hk : 0 < k) (k60 : k ≤ 60) : winS (fmtS w) = some w := by
  rw [read_eq (h.good hk k60)]
  exact read_fmt h.ok (fmtW_tl h.ok)

theorem okS_edit {x y : Str} {n i k : Nat} {X : List Nat} (h : okS x n) (e : TL.tl y = edit (TL.tl x) i X k) (hx : X.length ≤ 1) (hX : ∀ c ∈ X, c < 1114112) : okS y (n + 1) := by
  have e1 : y.length = (TL.tl y).length := rfl
  have e2 : x.length = (TL.tl x).length := rfl
  refine ⟨?_, fun c hc => ?_⟩
  · rw [e1, e]
    exact edit_len (by rw [← e2]; exact h.1) hx
  · have hc : c ∈ TL.tl y := hc
    rw [e] at hc
    unfold edit at hc
    rcases List.mem_append.mp hc with hc | hc
    · rcases List.mem_append.mp hc with hc | hc
      · exact h.2 c (List.mem_of_mem_take hc)
      · exact hX c hc
    · exact h.2 c (List.mem_of_mem_drop hc)

theorem app_empty (x : Str) : x ++ Str.ofString "" = x := by
  have e : Str.ofString "" = Str.empty := by decide +kernel
  rw [e, Str.append_empty]
theorem empty_app (x : Str) : Str.empty ++ x = x := TL.ext_tl (by rw [tl_app]; rfl)
theorem Dig.near {w : Int × Option Int} (h : Dig 50 w) : Near 52 2 (TL.tl (fmtS w)) := by
  rw [fmtW_tl h.ok]
  exact Near.of (dgs_count (TL.numL_digits _)) (dgs_count (dgs_tail _)) (numL_len' (by decide) h.ok.1 h.lo) (h.tail (by decide))
theorem shw_toldW {w : Int × Option Int} (h : shortW w) : Shw (told1 "told" (winD w)) := (Sh.lst (ds := [.str "told", winD w]) (n := 5000) (k := 1) fun x hx => by
  simp only [List.mem_cons, List.not_mem_nil, or_false] at hx
  rcases hx with rfl | rfl
  · exact (Sh.str okS_told).mono (by omega) (by omega)
  · exact sh_win h).shw (by simp only [List.length_cons, List.length_nil]; omega) (by omega)
theorem shaped_texts {x : Str} {n : Nat} (h : okS x n) : SeqAt.shaped (.list [.str x, .str x]) = true := by
  unfold SeqAt.shaped
  simp [PyData.canLay0, PyData.canLayAll0, PyData.depth, PyData.depthAll, strOk_of h]
/-- what is told of parse_window -/
def outP (d : PyData) : PyData := match d with
  | .str x => (match winS x with
    | none => told1 "text" (.int 1)
    | some w => told1 "told" (winD w))
  | _ => told1 "text" (.int 0)
theorem outP_shw (d : PyData) : Shw (outP d) := by
  unfold outP
  split
  · split
    · exact shw_told okS_text (shc_nat (by decide) (by decide))
    · rename_i w hw
      exact shw_toldW (winS_short hw)
  · exact shw_told okS_text (shc_nat (by decide) (by decide))
theorem told_parse {σ : L2.St} {H : Hp} {R : VK} {i : Nat} {v : V} {d : PyData} (hi : σ[i]? = some (some v)) (h1 : Da K H v d) (ok : ∀ x, d = .str x → okS x 300) (t : LamX.Tabs (TT A) H)
    (q : ∀ G, LamX.ExtN H G → LamX.Tabs (TT A) G → R (.str (outP d).shown) G) : tLamG (TT A) (TTold K A) (fun E => tCall (sp_parsew K A.c_InvalidText) [] E (tCons (tVar i) tNil)) σ H R := by
  refine i_lamG t fun G1 x1 t1 E' Q' hx hq => ?_
  refine i_call (i_cons (i_var hi (i_nil ?_)))
  have k1 : Da K G1 v d := h1.extN x1
  have w := outP_shw d
  refine ⟨_, _, rfl, k1, fun x e => ⟨ok x e, fun hw c G3 hc s3 ec => ?_, fun w' hw a G3 s3 hda => ?_⟩, fun hn c G3 hc s3 ec => ?_⟩
  · subst e
    have e : outP (.str x) = told1 "text" (.int 1) := by unfold outP; dsimp only; rw [hw]
    rw [e] at w q
    exact hx _ _ _ _ _ _ _ (.inr (.inr (.inr ⟨rfl, rfl, rfl⟩))) ec (.int _) w fun G4 s4 => q G4 (extN_thenS (s3.trans s4) x1) (tabs_same (s3.trans s4) t1)
  · subst e
    have e : outP (.str x) = told1 "told" (winD w') := by unfold outP; dsimp only; rw [hw]
    rw [e] at w q
    exact hq _ _ _ hda w fun G4 s4 => q G4 (extN_thenS (s3.trans s4) x1) (tabs_same (s3.trans s4) t1)
  · have e : outP d = told1 "text" (.int 0) := by
      cases d <;> first | rfl | cases hn
    rw [e] at w q
    exact hx _ _ _ _ _ _ _ (.inr (.inr (.inr ⟨rfl, rfl, rfl⟩))) ec (.int _) w fun G4 s4 => q G4 (extN_thenS (s3.trans s4) x1) (tabs_same (s3.trans s4) t1)
def FoundAt (K : PySem.W.Frag) (G G' : Hp) (x : Str) (y : V) : Prop := Same G G' ∧ ((lread x = none ∧ y = .non) ∨ ∃ w a, lread x = some w ∧ y = .ref a ∧ DaS K G' y (winD w))
def DueAt (K : PySem.W.Frag) (G G' : Hp) (x : Str) (y : V) : Prop := Same G G' ∧ ∃ p, y = .ref p ∧ DaS K G' y (outP (.str x))
def oddT : List PyData := [.none, .int 0, .bool true, .list [], .tuple [], .dict [], .tuple [.int 0, .int 1], .list [.str "0..1"]]
theorem signs16 : ∀ c ∈ (Str.ofString "0129.. -+_a\n").cps.toList, c < 1114112 := by decide +kernel
theorem ok_l_texts_right (T : Txt K mg A) (TB : TBs base mg A) (G_format_window : FnOk P w K mg base (L2.CX P w) 5 A.f_format_window A.d_format_window ["window"] (sp_fmt K A.c_InvalidWindow)) (G_parse_window : FnOk P w K mg base (L2.CX P w) 5 A.f_parse_window A.d_parse_window ["text"] (sp_parsew K A.c_InvalidText))
    (G_l_draw : Fg P w K mg base CX0 1 A.f_l_draw A.d_l_draw ["_law_rng_here", "_law_many"] sp_l_draw) (G_l_choice : Fg P w K mg base CX0 2 A.f_l_choice A.d_l_choice ["_law_rng_here", "_law_options"] sp_l_choice) (G_l_read : Fg P w K mg base CX0 2 A.f_l_read A.d_l_read ["_law_text"] (sp_l_read K)) : Fg P w K mg base CX0 10 A.f_l_texts_right A.d_l_texts_right ["_law_rng_here"] (sp_right A) := by
  refine ok_gC T.C_l_texts_right sc_l_texts_right (fun vs H Q E h => ?_) (fun Ar outer s H vs Q E hr h => ?_)
  · obtain ⟨_, rfl, _⟩ := h; rfl
  · obtain ⟨r, rfl, hR, tabs, q⟩ := h
    refine ⟨_, (pss_cons (ps_set (i := 1) sc_l_texts_right.nd rfl (.inl rfl) (pe_call G_l_choice (hr.mono (by decide)) (by rfl) T.g_l_choice T.F_l_choice.kp T.b_l_choice .nil pass0 (pa_cons (pv 0) (pa_cons (pe_lstN (pa_cons pe_int (pa_cons (pe_call G_l_draw (hr.mono (by decide)) (by rfl) T.g_l_draw T.F_l_draw.kp T.b_l_draw .nil pass0 (pa_cons (pv 0) (pa_cons pe_int pa_nil))) (pa_cons (pe_call G_l_draw (hr.mono (by decide)) (by rfl) T.g_l_draw T.F_l_draw.kp T.b_l_draw .nil pass0 (pa_cons (pv 0) (pa_cons pe_int pa_nil))) (pa_cons (pe_op op_pow pe_int pe_int) (pa_cons (pe_op op_pow pe_int pe_int) (pa_cons (pe_op op_pow pe_int pe_int) pa_nil))))))) pa_nil))))
(pss_cons (ps_set (i := 2) sc_l_texts_right.nd rfl (.inl rfl) (pe_tup (pa_cons (pv 1) (pa_cons (pe_ix ix_list (pe_lstN (pa_cons pe_non (pa_cons (pv 1) (pa_cons (pe_op op_add (pv 1) (pe_call G_l_draw (hr.mono (by decide)) (by rfl) T.g_l_draw T.F_l_draw.kp T.b_l_draw .nil pass0 (pa_cons (pv 0) (pa_cons pe_int pa_nil)))) pa_nil)))) (pe_call G_l_draw (hr.mono (by decide)) (by rfl) T.g_l_draw T.F_l_draw.kp T.b_l_draw .nil pass0 (pa_cons (pv 0) (pa_cons pe_int pa_nil))) (fun _ _ => rfl)) pa_nil))))
(C8.pss_cut (ps_set (i := 9) sc_l_texts_right.nd rfl (.inr rfl) (pe_op op_catS (pe_op op_catS (pe_callTy call_strI (by rfl) T.m_str (by decide +kernel) (pa_cons (pe_ix ix_tup (pv 2) pe_int (fun _ _ => rfl)) pa_nil)) pe_str) (pe_ifExp (pt_cmpR op_isNN (pe_ix ix_tup (pv 2) pe_int (fun _ _ => rfl)) pe_non (nomark _)) pe_str (pe_callTy call_strI (by rfl) T.m_str (by decide +kernel) (pa_cons (pe_ix ix_tup (pv 2) pe_int (fun _ _ => rfl)) pa_nil)))))
(pss_cons (ps_if (PW.pt (pw_or (pt_cmpR (op_neD hr.room.units) (pe_lstN (pa_cons (L2.pe_call G_format_window (hr.room.mono (by decide)) (by rfl) T.g_format_window T.F_format_window.kp T.b_format_window .nil passL (pa_cons (pv 2) pa_nil)) (pa_cons (pe_callW G_format_window (hr.room.mono (by decide)) (by rfl) T.g_format_window T.F_format_window.kp T.kb_format_window_window passL (pk_cons (pv 2) pk_nil)) pa_nil))) (pe_lstN (pa_cons (pv 9) (pa_cons (pv 9) pa_nil))) (nomark _)) (pw_or1 (pt_cmpR (op_neD hr.room.units) (L2.pe_call G_parse_window (hr.room.mono (by decide)) (by rfl) T.g_parse_window T.F_parse_window.kp T.b_parse_window .nil passL (pa_cons (pv 9) pa_nil)) (pv 2) (nomark _)))))
(pss_one (ps_ret pe_bl))
pss_nil)
(pss_cons (ps_for PassesOwn.never rfl (pi_range1 rfl T.m_range (pa_cons (pe_call G_l_draw (hr.mono (by decide)) (by rfl) T.g_l_draw T.F_l_draw.kp T.b_l_draw .nil pass0 (pa_cons (pv 0) (pa_cons pe_int pa_nil))) pa_nil)) (pg_name (i := 3) sc_l_texts_right.nd rfl (.inl rfl))
(pss_cons (ps_par (i := 4) (j := 5) rfl sc_l_texts_right.nd rfl rfl (by decide) rfl rfl (pa_cons (pe_call G_l_draw (hr.mono (by decide)) (by rfl) T.g_l_draw T.F_l_draw.kp T.b_l_draw .nil pass0 (pa_cons (pv 0) (pa_cons (pe_op op_add (pe_callB call_lenN (by rfl) T.m_len (by decide +kernel) (pa_cons (pv 9) pa_nil)) pe_int) pa_nil))) (pa_cons (pe_call G_l_choice (hr.mono (by decide)) (by rfl) T.g_l_choice T.F_l_choice.kp T.b_l_choice .nil pass0 (pa_cons (pv 0) (pa_cons pe_str pa_nil))) pa_nil)) (by rfl))
(pss_one (ps_set (i := 9) sc_l_texts_right.nd rfl (.inr rfl) (pe_op op_catS (pe_op op_catS (pe_slice sl_str (pv 9) po_none (po_some (pv 4))) (pe_ix ix_list (pe_lstN (pa_cons (pv 5) (pa_cons pe_str pa_nil))) (pe_call G_l_draw (hr.mono (by decide)) (by rfl) T.g_l_draw T.F_l_draw.kp T.b_l_draw .nil pass0 (pa_cons (pv 0) (pa_cons pe_int pa_nil))) (fun _ _ => rfl))) (pe_slice sl_str (pv 9) (po_some (pe_op op_add (pv 4) (pe_call G_l_draw (hr.mono (by decide)) (by rfl) T.g_l_draw T.F_l_draw.kp T.b_l_draw .nil pass0 (pa_cons (pv 0) (pa_cons pe_int pa_nil))))) po_none))))))
(C8.pss_cut (ps_set (i := 6) sc_l_texts_right.nd rfl (.inl rfl) (pe_call G_l_read (hr.mono (by decide)) (by rfl) T.g_l_read T.F_l_read.kp T.b_l_read .nil pass0 (pa_cons (pv 9) pa_nil)))
(C8.pss_cut (ps_set (i := 7) sc_l_texts_right.nd rfl (.inl rfl) (pe_ifExp (pt_cmpR op_isNN (pv 6) pe_non (nomark _)) (pe_lstN (pa_cons pe_str (pa_cons pe_int pa_nil))) (pe_lstN (pa_cons pe_str (pa_cons (pv 6) pa_nil)))))
(pss_cons (ps_if (pt_cmpR op_ne (pe_lamG (T := TT A) T.F_l_told (by rfl) T.g_l_told T.b_l_told sc_l_told rfl (.inl rfl) (gives_l_told T _) TB.p_l_texts_right rfl (.tail _ (.tail _ (.head _))) (one_l_texts_right T) (hr.mono (by decide)) (LamX.lamS_by (show LamX.lamSB (defScope s_l_texts_right) _ = true by decide +kernel)) rfl (fun _ _ _ _ _ => rfl) (fun _ _ _ _ _ _ _ hr => (L2.pe_call G_parse_window (hr.room.mono (by decide)) (by rfl) T.g_parse_window T.F_parse_window.kp T.b_parse_window .nil passLam (pa_cons (pv 9) pa_nil)))) (pe_callB (call_reprN (hr.mono (by decide))) (by rfl) T.m_repr (by decide +kernel) (pa_cons (pv 7) pa_nil)) (nomark _))
(pss_one (ps_ret pe_bl))
pss_nil)
(pss_cons (ps_set (i := 8) sc_l_texts_right.nd rfl (.inr rfl) (pe_call G_l_choice (hr.mono (by decide)) (by rfl) T.g_l_choice T.F_l_choice.kp T.b_l_choice .nil pass0 (pa_cons (pv 0) (pa_cons (pe_litL (LitAll.cons Lit.non (LitAll.cons Lit.int (LitAll.cons Lit.bl (LitAll.cons (Lit.lst LitAll.nil (by decide)) (LitAll.cons (Lit.tup LitAll.nil (by decide)) (LitAll.cons Lit.dic0 (LitAll.cons (Lit.tup (LitAll.cons Lit.int (LitAll.cons Lit.int LitAll.nil)) (by decide)) (LitAll.cons (Lit.lst (LitAll.cons Lit.str LitAll.nil) (by decide)) LitAll.nil)))))))) (by decide)) pa_nil))))
(pss_one (ps_ret (pe_cmpR op_eq (pe_lamG (T := TT A) T.F_l_told (by rfl) T.g_l_told T.b_l_told sc_l_told rfl (.inl rfl) (gives_l_told T _) TB.p_l_texts_right rfl (.tail _ (.tail _ (.head _))) (one_l_texts_right T) (hr.mono (by decide)) (LamX.lamS_by (show LamX.lamSB (defScope s_l_texts_right) _ = true by decide +kernel)) rfl (fun _ _ _ _ _ => rfl) (fun _ _ _ _ _ _ _ hr => (L2.pe_call G_parse_window (hr.room.mono (by decide)) (by rfl) T.g_parse_window T.F_parse_window.kp T.b_parse_window .nil passLam (pa_cons (pv 8) pa_nil)))) (pe_callB (call_reprN (hr.mono (by decide))) (by rfl) T.m_repr (by decide +kernel) (pa_cons (Lit.pe (Lit.lst (LitAll.cons Lit.str (LitAll.cons Lit.int LitAll.nil)) (by decide))) pa_nil)) (nomark _))))))))))))), ?_⟩
    repeat (walk_at "st")
    refine ⟨_, _, rfl, (by walk_at "side"), (by first | decide | decide +kernel | assumption), (by walk_at "rok"), fun d1 G1 dl1 dh1 r1 o1 => ?_⟩
    repeat (walk_at "st")
    refine ⟨_, _, rfl, (by walk_at "side"), (by first | decide | decide +kernel | assumption), (by walk_at "rok"), fun d2 G2 dl2 dh2 r2 o2 => ?_⟩
    repeat (walk_at "st")
    refine i_newN fun p3 G3 n3 z3 s3 e3 => ?_
    repeat (walk_at "st")
    refine ⟨r, r2.same s3, .inl ⟨_, _, rfl, e3, r2.ne n3, by show 0 < 6; decide, by show 6 < 1000; decide, fun v4 G4 hv4 r4 o4 => ?_⟩⟩
    have z49 : (10 : Int) ^ Int.toNat 49 = 10000000000000000000000000000000000000000000000000 := by decide +kernel
    have z30 : (10 : Int) ^ Int.toNat 30 = 1000000000000000000000000000000 := by decide +kernel
    have z9 : (10 : Int) ^ Int.toNat 9 = 1000000000 := by decide +kernel
    have k4 : ∃ l : Int, v4 = .int l ∧ 0 ≤ l ∧ l ≤ 10000000000000000000000000000000000000000000000000 := by
      simp only [List.mem_cons, List.not_mem_nil, or_false, z49, z30, z9] at hv4
      rcases hv4 with rfl | rfl | rfl | rfl | rfl | rfl <;> exact ⟨_, rfl, by omega, by omega⟩
    obtain ⟨l, rfl, l0, l1⟩ := k4
    repeat (walk_at "st")
    refine ⟨_, _, rfl, (by walk_at "side"), (by first | decide | decide +kernel | assumption), (by walk_at "rok"), fun d5 G5 dl5 dh5 r5 o5 => ?_⟩
    repeat (walk_at "st")
    refine i_newN fun p6 G6 n6 z6 s6 e6 => ?_
    repeat (walk_at "st")
    refine ⟨_, _, rfl, (by walk_at "side"), (by first | decide | decide +kernel | assumption), (by walk_at "rok"), fun d7 G7 dl7 dh7 r7 o7 => ?_⟩
    obtain ⟨v8, hv8, ev8⟩ := atI_lt (xs := [V.non, V.int l, V.int (l + d5)]) dl7 dh7
    have k8 : ∃ o : Option Int, v8 = hiV o ∧ ∀ h, o = some h → l ≤ h ∧ h < 10000000000000000000000000000000000000000000000020 := by
      simp only [List.mem_cons, List.not_mem_nil, or_false] at hv8
      rcases hv8 with rfl | rfl | rfl
      · exact ⟨none, rfl, fun h z => by cases z⟩
      · exact ⟨some l, rfl, fun h z => by cases z; omega⟩
      · exact ⟨some (l + d5), rfl, fun h z => by cases z; omega⟩
    obtain ⟨o, rfl, ho⟩ := k8
    have off7 : Off r H G7 := by walk_at "off"
    have e6' : G7 p6 = _ := o7 _ _ (r5.ne n6) e6
    refine i_rIxL (SqL.of e6') ev8 ?_
    repeat (walk_at "st")
    refine i_new fun p9 G9 n9 s9 e9 => ?_
    have y50 : (10 : Int) ^ 50 = 100000000000000000000000000000000000000000000000000 := by decide +kernel
    have dg : Dig 50 (l, o) := ⟨⟨l0, fun h z => (ho h z).1⟩, by rw [y50]; dsimp only; omega, fun h z => by rw [y50]; have := (ho h z).2; omega⟩
    have sh := dg.short (by decide)
    have ok := dg.okS (by decide)
    have hw9 : DaS K G9 (.ref p9) (winD (l, o)) := da_winT (SqT.of e9)
    have r9 := r7.same s9
    have off9 : Off r H G9 := off7.trans (.of_same s9)
    clear o4 s3 n3 e3 z3 off7 s6 n6 e6 z6 o1 o2 o5 o7
    repeat (walk_at "st")
    refine i_cut (fun σ' G' => σ' = [some (.ref r), some (.int l), some (.ref p9), none, none, none, none, none, none, some (.str (fmtS (l, o)))] ∧ G9 = G') ?_ ?_
    · have l2 : (Str.ofString "..").length = 2 := by decide +kernel
      have l0' : (Str.ofString "").length = 0 := by decide +kernel
      have l1' : (Str.ofString (toString l)).length ≤ 1921 := txt_le sh.1
      have g1 : l.natAbs.log2 < 1920 := log_of sh.1
      have m1 : (Str.ofString (toString l)).length + (Str.ofString "..").length ≤ sizeLine := by rw [sizeLine_eq]; omega
      cases o with
      | none =>
        have e9 : G9 p9 = some (.tup [.int l, .non]) := e9
        repeat (walk_at "st")
        refine i_tt (by rfl) ?_
        have m2 : (Str.ofString (toString l) ++ Str.ofString "..").length + (Str.ofString "").length ≤ sizeLine := by rw [sizeLine_eq, Str.length_append]; omega
        have e : fmtS (l, none) = Str.ofString (toString l) ++ Str.ofString ".." ++ Str.ofString "" := by
          rw [app_empty]
          show Str.empty ++ Str.ofString (toString l) ++ Str.ofString ".." = _
          rw [empty_app]
        rw [e]
        repeat (walk_at "st")
        rfl
      | some k =>
        have e9 : G9 p9 = some (.tup [.int l, .int k]) := e9
        repeat (walk_at "st")
        refine i_ff (by rfl) ?_
        have l3 : (Str.ofString (toString k)).length ≤ 1921 := txt_le (sh.2 k rfl)
        have g3 : k.natAbs.log2 < 1920 := log_of (sh.2 k rfl)
        have m2 : (Str.ofString (toString l) ++ Str.ofString "..").length + (Str.ofString (toString k)).length ≤ sizeLine := by rw [sizeLine_eq, Str.length_append]; omega
        have e : fmtS (l, some k) = Str.ofString (toString l) ++ Str.ofString ".." ++ Str.ofString (toString k) := by
          show Str.empty ++ Str.ofString (toString l) ++ Str.ofString ".." ++ Str.ofString (toString k) = _
          rw [empty_app]
        rw [e]
        repeat (walk_at "st")
        rfl
    rintro _ _ ⟨rfl, rfl⟩
    repeat (walk_at "st")
    refine ⟨_, _, rfl, hw9.da, fun w2 hw2 => ?_, fun z => (by unfold winB at z; rw [winP_D dg.ok] at z; cases z)⟩
    rw [winP_D dg.ok] at hw2
    cases hw2
    refine ⟨sh, fun G10 s10 => ?_⟩
    repeat (walk_at "st")
    refine ⟨_, _, rfl, (hw9.same s10).da, fun w2 hw2 => ?_, fun z => (by unfold winB at z; rw [winP_D dg.ok] at z; cases z)⟩
    rw [winP_D dg.ok] at hw2
    cases hw2
    refine ⟨sh, fun G11 s11 => ?_⟩
    repeat (walk_at "st")
    refine i_newN fun p12 G12 n12 z12 s12 e12 => ?_
    repeat (walk_at "st")
    refine i_newN fun p13 G13 n13 z13 s13 e13 => ?_
    repeat (walk_at "st")
    refine i_neDsame (Da.lst (SqL.of (s13 _ _ e12)) (.cons (.str _) (.cons (.str _) .nil))) (Da.lst (SqL.of e13) (.cons (.str _) (.cons (.str _) .nil))) rfl (shaped_texts ok) ?_
    repeat (walk_at "st")
    have s913 : Same G9 G13 := s10.trans (s11.trans (s12.trans s13))
    refine ⟨_, _, rfl, .str _, fun x hx => ?_, fun z => by cases z⟩
    cases hx
    refine ⟨ok.mono (by decide), fun z => (by rw [dg.read (by decide) (by decide)] at z; cases z), fun w2 hw2 a14 G14 s14 hd14 => ?_⟩
    rw [dg.read (by decide) (by decide)] at hw2
    cases hw2
    repeat (walk_at "st")
    refine i_neDsame hd14.da (hw9.same (s913.trans s14)).da nd_win shaped_win ?_
    repeat (walk_at "st")
    have off14 : Off r H G14 := off9.trans (.of_same (s913.trans s14))
    have r14 := r9.same (s913.trans s14)
    clear s10 s11 s12 s13 n12 n13 e12 e13 s14 hd14 s913 hw9 e9 r9 off9 n9
    refine ⟨_, _, rfl, (by walk_at "side"), (by first | decide | decide +kernel | assumption), (by walk_at "rok"), fun d15 G15 dl15 dh15 r15 o15 => ?_⟩
    repeat (walk_at "st")
    refine f_wk wk_range (fun i σ G => Off r H G ∧ Rok G r ∧ ∃ y3 y4 y5 x, okS x (102 + i) ∧ Near (52 + i) (2 - (i : Nat)) (TL.tl x) ∧ σ = [some (.ref r), some (.int l), some (.ref p9), y3, y4, y5, none, none, none, some (.str x)]) ⟨off14.trans o15, r15, _, _, _, _, ok, (by simpa using dg.near), rfl⟩ (fun _ _ _ _ => trivial) (fun i x0 σ G hx h => ?_) (fun σ G h => ?_)
    · obtain ⟨offG, rG, y3, y4, y5, x, okx, nr, rfl⟩ := h
      have hi : i < 3 := by
        have := (List.getElem?_eq_some_iff.mp hx).1
        rw [rangeV_len] at this
        omega
      clear hx
      have hlx := okx.line (by omega)
      have hx1 := okx.1
      have lb : ((x.length : Int) + 1).natAbs.log2 < 9000 := Nat.lt_of_le_of_lt (Nat.log2_le_self _) (by omega)
      repeat (walk_at "st")
      refine ⟨_, _, rfl, (by walk_at "side"), (by first | decide | decide +kernel | assumption), (by walk_at "rok"), fun d16 G16 dl16 dh16 r16 o16 => ?_⟩
      repeat (walk_at "st")
      refine ⟨r, r16, .inr ⟨_, rfl, by decide +kernel, by decide +kernel, fun c G17 hc r17 o17 => ?_⟩⟩
      have hc2 : c < 1114112 := signs16 c hc
      repeat (walk_at "st")
      refine i_newN fun p18 G18 n18 z18 s18 e18 => ?_
      repeat (walk_at "st")
      refine ⟨_, _, rfl, (by walk_at "side"), (by first | decide | decide +kernel | assumption), (by walk_at "rok"), fun d19 G19 dl19 dh19 r19 o19 => ?_⟩
      have kX : ∃ X : List Nat, X.length ≤ 1 ∧ (∀ c ∈ X, c < 1114112) ∧ atI [V.str ⟨#[c]⟩, V.str (Str.ofString "")] d19 = some (V.str ⟨X.toArray⟩) := by
        rcases (show d19 = 0 ∨ d19 = 1 by omega) with rfl | rfl
        · exact ⟨[c], Nat.le_refl 1, fun d hd => by rw [List.mem_singleton.mp hd]; exact hc2, rfl⟩
        · exact ⟨[], Nat.zero_le 1, (fun d hd => by cases hd), rfl⟩
      obtain ⟨X, hX1, hX2, eX⟩ := kX
      have e18' : G19 p18 = _ := o19 _ _ (r17.ne n18) e18
      refine i_rIxL (SqL.of e18') eX ?_
      have lX : (⟨X.toArray⟩ : Str).length = X.length := rfl
      have b1 := (okx.cut none (some d16)).1
      have m1 : (cutS x none (some d16)).length + (⟨X.toArray⟩ : Str).length ≤ sizeLine := by rw [sizeLine_eq, lX]; omega
      repeat (walk_at "st")
      refine ⟨_, _, rfl, (by walk_at "side"), (by first | decide | decide +kernel | assumption), (by walk_at "rok"), fun d20 G20 dl20 dh20 r20 o20 => ?_⟩
      have b2 := (okx.cut (some (d16 + d20)) none).1
      have m2 : (cutS x none (some d16) ++ (⟨X.toArray⟩ : Str)).length + (cutS x (some (d16 + d20)) none).length ≤ sizeLine := by rw [sizeLine_eq, Str.length_append, lX]; omega
      repeat (walk_at "st")
      have e1 : TL.tl (cutS x none (some d16) ++ (⟨X.toArray⟩ : Str) ++ cutS x (some (d16 + d20)) none) = edit (TL.tl x) d16.toNat X d20.toNat := by
        rw [tl_app, tl_app, tl_cut_to dl16, tl_cut_from (by omega)]
        have : (d16 + d20).toNat = d16.toNat + d20.toNat := by omega
        rw [this]
        rfl
      have lx : x.length = (TL.tl x).length := rfl
      refine ⟨(((offG.trans o16).trans o17).trans (.of_same s18)).trans (o19.trans o20), r20, _, _, _, _, okS_edit okx e1 hX1 hX2, ?_, rfl⟩
      rw [e1]
      have := nr.edit (X := X) (i := d16.toNat) (k := d20.toNat) (by omega) hX1 (by omega)
      have ez : (2 - (i : Nat) : Int) - 1 = 2 - ((i + 1 : Nat) : Int) := by omega
      rw [ez] at this
      exact this
    · obtain ⟨offG, rG, y3, y4, y5, x, okx, nr, rfl⟩ := h
      have hi : (rangeV 0 (Int.toNat d15)).length ≤ 3 := by rw [rangeV_len]; omega
      have gd : goodL (TL.tl x) := nr.good (by omega) (by omega)
      have ok3 : okS x 300 := okx.mono (by omega)
      have re := read_eq gd
      clear nr
      repeat (walk_at "st")
      refine i_cut (fun σ' G' => ∃ y, σ' = [some (.ref r), some (.int l), some (.ref p9), y3, y4, y5, some y, none, none, some (.str x)] ∧ FoundAt K G G' x y) ?_ ?_
      · repeat (walk_at "st")
        refine ⟨_, rfl, ok3, fun hw G21 s21 => ?_, fun w hw a G21 s21 hda => ?_⟩
        · repeat (walk_at "st")
          exact ⟨s21, Or.inl ⟨hw, rfl⟩⟩
        · repeat (walk_at "st")
          exact ⟨s21, Or.inr ⟨w, a, hw, rfl, hda⟩⟩
      rintro _ G21 ⟨y6, rfl, s21, fnd⟩
      refine i_cut (fun σ' G' => ∃ y, σ' = [some (.ref r), some (.int l), some (.ref p9), y3, y4, y5, some y6, some y, none, some (.str x)] ∧ DueAt K G21 G' x y) ?_ ?_
      · rcases fnd with ⟨hw, rfl⟩ | ⟨w, a, hw, rfl, hda⟩
        · repeat (walk_at "st")
          refine i_tt (by rfl) ?_
          repeat (walk_at "st")
          refine i_newN fun p22 G22 n22 z22 s22 e22 => ?_
          repeat (walk_at "st")
          refine ⟨s22, _, rfl, ?_⟩
          have eo : outP (.str x) = told1 "text" (.int 1) := by unfold outP; dsimp only; rw [re, hw]
          rw [eo]
          exact da_told z22 e22 (.int _)
        · repeat (walk_at "st")
          refine i_ff (by rfl) ?_
          repeat (walk_at "st")
          refine i_newN fun p22 G22 n22 z22 s22 e22 => ?_
          repeat (walk_at "st")
          refine ⟨s22, _, rfl, ?_⟩
          have eo : outP (.str x) = told1 "told" (winD w) := by unfold outP; dsimp only; rw [re, hw]
          rw [eo]
          exact da_told z22 e22 (hda.same s22)
      rintro _ G22 ⟨y7, rfl, s22, p22, rfl, da22⟩
      have xo22 : XOff r H G22 := XOff.ofO (offG.trans (.of_same (s21.trans s22)))
      have t22 : LamX.Tabs (TT A) G22 := tabs_same (s21.trans s22) (tabs_rng tabs hR offG)
      have r22 := rG.same (s21.trans s22)
      repeat (walk_at "st")
      refine told_parse rfl (.str x) (fun z e => by cases e; exact ok3) t22 fun G23 x23 t23 => ?_
      have da23 := da22.extN x23
      have w23 := outP_shw (.str x)
      repeat (walk_at "st")
      refine i_litL fun p24 xs24 G24 n24 z24 s24 e24 d24 => ?_
      have l24 : xs24.length = 8 := d24.len
      have r23 := r22.extN x23
      repeat (walk_at "st")
      obtain ⟨ra, rb, hr23, _⟩ := id r23
      refine ⟨r, r23.same s24, .inl ⟨_, _, rfl, e24, r23.ne n24, by omega, by omega, fun v25 G25 hv25 r25 o25 => ?_⟩⟩
      obtain ⟨d, hd, kd⟩ := d24.mem v25 hv25
      have hd25 : DaS K G25 v25 d := wo_dat (kd.same ((newP_wo hr23).trans o25.wo))
      have hns : isi d "str" = false := by
        have k : (oddT.all fun d => !isi d "str") = true := by decide +kernel
        simpa using List.all_eq_true.mp k d hd
      have t25 : LamX.Tabs (TT A) G25 := tabs_rng (tabs_same s24 t23) (r23.same s24) o25
      have xo25 : XOff r H G25 := ((xo22.thenX x23).thenX (extN_ofS s24)).thenO o25
      repeat (walk_at "st")
      refine told_parse rfl hd25.da (fun z e => by rw [e] at hns; cases hns) t25 fun G26 x26 t26 => ?_
      have eo : outP d = told1 "text" (.int 0) := by
        cases d <;> first | rfl | cases hns
      rw [eo]
      repeat (walk_at "st")
      refine i_lit fun v27 G27 s27 d27 => ?_
      have da27 : DaS K G27 v27 (told1 "text" (.int 0)) := d27.same newP_same
      have w27 : Shw (told1 "text" (.int 0)) := shw_told okS_text (shc_nat (by decide) (by decide))
      repeat (walk_at "st")
      exact q _ ((xo25.thenX x26).thenX (extN_ofS s27)) ((r25.extN x26).same s27) (tabs_same s27 t26)
end
end KX

namespace KX
open PySem PySem.Spec PyProof.Rows L2

local macro_rules | `(tactic| walk_at "kp") => `(tactic| first
  | with_reducible exact Kp.refl
  | with_reducible exact Kp.thenS (by assumption) (by walk_at "kp")
  | with_reducible exact Kp.thenO (by assumption) (by walk_at "ne") (by walk_at "kp")
  | fail)
local macro_rules | `(tactic| walk_at "hq") => `(tactic| first
  | assumption
  | with_reducible exact Kp.get (by assumption) (by walk_at "kp")
  | fail)
local macro_rules | `(tactic| walk_at "hg") => `(tactic| first
  | walk_at "hq"
  | exact upd_same
  | with_reducible exact (upd_ne (by walk_at "ne")).trans (by walk_at "hg")
  | with_reducible exact Same.get (by assumption) (by walk_at "hg")
  | with_reducible exact Off.get (by assumption) (by walk_at "ne") (by walk_at "hg")
  | fail)
local macro_rules | `(tactic| walk_at "ne") => `(tactic| first
  | assumption
  | (apply Ne.symm; assumption)
  | exact Rok.ne' (by assumption) (by walk_at "rok")
  | exact (Rok.ne' (by assumption) (by walk_at "rok")).symm
  | exact ne_some (by assumption) (by walk_at "hg")
  | exact (ne_some (by assumption) (by walk_at "hg")).symm
  | fail)
local macro_rules | `(tactic| walk_at "rok") => `(tactic| first
  | assumption
  | with_reducible exact Rok.kp (by assumption) (by walk_at "kp")
  | with_reducible exact Rok.same (by assumption) (by walk_at "rok")
  | fail)
local macro_rules | `(tactic| walk_at "sq") => `(tactic| first
  | assumption
  | exact Same.seq (by assumption) (by assumption)
  | (with_reducible show SqL _ _ _ _; with_reducible exact SqL.of (by walk_at "hg"))
  | (with_reducible show SqT _ _ _ _; with_reducible exact SqT.of (by walk_at "hg"))
  | fail)
local macro_rules | `(tactic| walk_at "dac") => `(tactic| first
  | assumption
  | exact DaF.same (by assumption) (by walk_at "dac")
  | fail)
local macro_rules | `(tactic| walk_at "da") => `(tactic| first
  | exact (DaF.non : DaS _ _ _ _)
  | exact (DaF.bl _ : DaS _ _ _ _)
  | exact (DaF.int _ : DaS _ _ _ _)
  | exact (DaF.str _ : DaS _ _ _ _)
  | exact DaF.non
  | exact DaF.bl _
  | exact DaF.int _
  | exact DaF.str _
  | walk_at "dac"
  | with_reducible exact DaF.lst (SqL.of (by walk_at "hq")) (fun _ => by assumption) (by walk_at "das")
  | with_reducible exact Da.lst (SqL.of (by walk_at "hq")) (by walk_at "das")
  | with_reducible exact DaF.tup (SqT.of (by walk_at "hq")) (by walk_at "das")
  | with_reducible exact DaF.dic (Rd.of (by walk_at "hq")) (by walk_at "dak")
  | fail)
local macro_rules | `(tactic| walk_at "das") => `(tactic| first
  | assumption
  | exact DaAllF.nil
  | exact DaAllF.cons (by walk_at "da") (by walk_at "das")
  | fail)
local macro_rules | `(tactic| walk_at "dak") => `(tactic| first
  | assumption
  | exact DaKvF.nil
  | exact DaKvF.cons (by walk_at "da") (by walk_at "dak")
  | fail)
local macro_rules | `(tactic| walk_at "shw") => `(tactic| first
  | assumption
  | exact shw_b2 _ _
  | exact ⟨by decide +kernel, by decide +kernel, by decide +kernel⟩
  | fail)
local macro_rules | `(tactic| walk_at "nod") => `(tactic| first
  | exact .inl rfl
  | exact .inr rfl
  | assumption
  | exact .inr (by assumption)
  | fail)
local macro_rules | `(tactic| walk_at "okd") => `(tactic| first
  | assumption
  | exact okd_of (by decide +kernel)
  | fail)
local macro_rules | `(tactic| walk_at "off") => `(tactic| first
  | assumption
  | exact Off.refl _ _
  | exact Same.refl _
  | with_reducible exact Same.thenS (by assumption) (by walk_at "off")
  | with_reducible exact Off.thenS (by assumption) (by walk_at "off")
  | with_reducible exact Off.thenO (by assumption) (by walk_at "off")
  | with_reducible exact Same.thenF (by assumption) (by assumption) (by walk_at "off") (by walk_at "off")
  | with_reducible exact Off.thenF (by assumption) (by assumption) (by walk_at "off") (by walk_at "off")
  | fail)
local macro_rules | `(tactic| walk_at "side") => `(tactic| first
  | assumption
  | omega
  | decide
  | (simp only [List.length_append, List.length_cons, List.length_nil]; decide)
  | exact ⟨by omega, by omega⟩
  | exact ⟨by omega, PyProof.noPylong_of_log2 (by first | assumption | decide)⟩
  | exact .inl ⟨by omega, by omega⟩
  | exact .inr ⟨by omega, by omega⟩
  | exact ⟨by decide, by decide, by decide⟩
  | exact ⟨by decide, by decide, by omega⟩
  | fail)
local macro_rules | `(tactic| walk_at "st") => `(tactic| first
  | with_reducible refine i_seq ?_
  | with_reducible refine i_bi ?_
  | with_reducible refine i_raise ?_
  | with_reducible refine i_callX ?_
  | with_reducible refine i_tryN ?_
  | with_reducible refine i_isNon ?_
  | with_reducible refine i_isNotNon ?_
  | ((with_reducible refine' i_split ?h ?z ?_); (case h => rfl); (case z => walk_at "side"))
  | with_reducible refine i_find ?_
  | ((with_reducible refine i_strI ?h ?_); (case h => walk_at "side"))
  | with_reducible refine i_fmt ?_
  | ((with_reducible refine i_fmS ?h ?_); (case h => walk_at "side"))
  | ((with_reducible refine i_fmI ?h ?_); (case h => walk_at "side"))
  | with_reducible refine i_jn ?_
  | with_reducible refine i_js0 ?_
  | with_reducible refine i_js1 ?_
  | ((with_reducible refine i_jsR ?h ?_); (case h => walk_at "side"))
  | with_reducible refine i_revS ?_
  | ((with_reducible refine i_exrev ?h ?_); (case h => walk_at "side"))
  | with_reducible refine i_revL ?_
  | ((with_reducible refine' i_exrevL ?h ?_); (case h => walk_at "sq"))
  | with_reducible refine i_par3 ?_
  | with_reducible refine i_ex3 ?_
  | with_reducible refine i_stB ?_
  | with_reducible refine i_mk0 ?_
  | with_reducible refine i_asg ?_
  | with_reducible refine i_c ?_
  | ((with_reducible refine' i_var ?h ?_); (case h => rfl))
  | with_reducible refine i_op ?_
  | with_reducible refine i_cons ?_
  | with_reducible refine i_nil ?_
  | ((with_reducible refine' i_gName ?h ?_); (case h => rfl))
  | with_reducible refine i_rI0 ?_
  | ((with_reducible refine i_rI ?h ?_); (case h => walk_at "side"))
  | with_reducible refine i_test ?_
  | with_reducible refine i_exbl ?_
  | with_reducible refine i_exint ?_
  | with_reducible refine i_exs ?_
  | with_reducible refine i_ret ?_
  | with_reducible refine i_next ?_
  | with_reducible refine i_ifS ?_
  | ((with_reducible refine' i_rIxL ?h ?e ?_); (case h => walk_at "sq"); (case e => first | assumption | rfl))
  | ((with_reducible refine' i_rIxT ?h ?e ?_); (case h => walk_at "sq"); (case e => first | assumption | rfl))
  | ((with_reducible refine' i_rIxS ?h ?e ?_); (case h => walk_at "side"); (case e => first | assumption | rfl))
  | with_reducible refine i_un ?_
  | with_reducible refine i_rU ?_
  | ((with_reducible refine i_rEqSame ?h ?_); (case h => rfl))
  | ((with_reducible refine i_rNeSame ?h ?_); (case h => rfl))
  | ((with_reducible refine i_rEq ?h ?_); (case h => rfl))
  | ((with_reducible refine i_rNe ?h ?_); (case h => rfl))
  | with_reducible refine i_tB ?_
  | with_reducible refine i_and ?_
  | with_reducible refine i_or ?_
  | with_reducible refine i_not ?_
  | with_reducible refine i_andV ?_
  | with_reducible refine i_orV ?_
  | with_reducible refine i_notV ?_
  | with_reducible refine i_if ?_
  | with_reducible refine i_chain ?_
  | with_reducible refine i_drop ?_
  | with_reducible refine i_retN ?_
  | with_reducible refine i_par ?_
  | with_reducible refine i_ex2 ?_
  | ((with_reducible refine' i_aug ?h ?_); (case h => rfl))
  | with_reducible refine i_gNil ?_
  | with_reducible refine i_gCons ?_
  | ((with_reducible refine' i_gTup ?h ?e ?_); (case h => walk_at "sq"); (case e => rfl))
  | with_reducible refine i_gSub ?_
  | ((with_reducible refine' i_rSetL ?h ?e ?_); (case h => walk_at "hg"); (case e => first | assumption | rfl))
  | with_reducible refine i_tup ?_
  | with_reducible refine i_lst ?_
  | with_reducible refine i_lstN ?_
  | with_reducible refine i_newDK ?_
  | with_reducible refine i_disp ?_
  | with_reducible refine i_pairs0 ?_
  | with_reducible refine i_pairs1 ?_
  | with_reducible refine i_call ?_
  | with_reducible refine i_cb ?_
  | with_reducible refine i_bm ?_
  | with_reducible refine i_m1 ?_
  | with_reducible refine i_m0 ?_
  | ((with_reducible refine' i_rAppend ?h ?e ?_); (case h => walk_at "hg"); (case e => walk_at "side"))
  | ((with_reducible refine i_rSlS ?h ?_); (case h => walk_at "side"))
  | ((with_reducible refine' i_rSlL ?h ?_); (case h => walk_at "sq"))
  | with_reducible refine i_sl ?_
  | with_reducible refine i_noPart ?_
  | with_reducible refine i_part ?_
  | with_reducible refine i_rng1 ?_
  | with_reducible refine i_iList ?_
  | with_reducible refine i_iStr ?_
  | with_reducible refine i_iEnum ?_
  | with_reducible refine i_iZip ?_
  | with_reducible refine i_ez ?_
  | ((with_reducible refine' i_exen ?h ?_); (case h => walk_at "sq"))
  | ((with_reducible refine' i_exz ?h ?k ?_); (case h => walk_at "sq"); (case k => walk_at "sq"))
  | ((with_reducible refine' i_listN ?h ?_); (case h => walk_at "sq"))
  | with_reducible refine i_intB ?_
  | ((with_reducible refine' i_listTN ?h ?_); (case h => walk_at "sq"))
  | with_reducible refine i_revT ?_
  | ((with_reducible refine' i_exrevT ?h ?_); (case h => walk_at "sq"))
  | ((with_reducible refine' i_catA ?h ?k ?a ?b ?z ?_); (case h => walk_at "sq"); (case k => walk_at "sq"); (case a => simp); (case b => simp); (case z => walk_at "side"))
  | ((with_reducible refine' i_slTA ?h ?k ?_); (case h => walk_at "sq"); (case k => simp only [List.length_cons, List.length_nil]; decide))
  | ((with_reducible refine' i_countF ?h ?k ?a ?_); (case h => walk_at "sq"); (case k => rfl); (case a => rfl))
  | with_reducible refine i_iTup ?_
  | ((with_reducible refine' i_exlT ?h ?_); (case h => walk_at "sq"))
  | ((with_reducible refine' i_rCatN ?h ?e ?z ?_); (case h => walk_at "hg"); (case e => walk_at "hg"); (case z => walk_at "side"))
  | with_reducible refine i_tryC ?_
  | ((with_reducible refine' i_tupL ?h ?_); (case h => walk_at "sq"))
  | ((with_reducible refine' i_neNil ?h ?k ?_); (case h => walk_at "sq"); (case k => walk_at "sq"))
  | ((with_reducible refine' i_eqNil ?h ?k ?_); (case h => walk_at "sq"); (case k => walk_at "sq"))
  | ((with_reducible refine' i_reprE ?h ?e ?_); (case h => walk_at "da"); (case e => walk_at "shw"))
  | ((with_reducible refine' i_tyL ?h ?_); (case h => walk_at "sq"))
  | with_reducible refine i_isBl ?_
  | ((with_reducible refine i_callW ?_))
  | ((with_reducible refine i_exrng ?h1 ?h2 ?_); (case h1 => walk_at "side"); (case h2 => walk_at "side"))
  | ((with_reducible refine' i_exl ?h ?_); (case h => walk_at "sq"))
  | with_reducible refine i_for ?_
  | with_reducible refine i_lc ?_
  | with_reducible refine i_yes ?_
  | with_reducible refine i_iteT ?_
  | with_reducible refine i_iteF ?_
  | ((with_reducible refine i_divmod ?h ?_); (case h => walk_at "side"))
  | ((with_reducible refine' i_isi ?h ?e ?_); (case h => walk_at "da"); (case e => decide))
  | ((with_reducible refine i_lenS ?h ?_); (case h => walk_at "side"))
  | ((with_reducible refine' i_lenL ?h ?_); (case h => walk_at "sq"))
  | ((with_reducible refine' i_lenT ?h ?_); (case h => walk_at "sq"))
  | ((with_reducible refine' i_repr ?h ?n ?e ?_); (case h => walk_at "da"); (case n => walk_at "nod"); (case e => walk_at "shw"))
  | ((with_reducible refine' i_rCat ?h ?e ?z ?_); (case h => walk_at "hg"); (case e => walk_at "hg"); (case z => walk_at "side"))
  | ((with_reducible refine i_rCatS ?h ?_); (case h => walk_at "side"))
  | with_reducible refine i_exstr ?_
  | ((with_reducible refine' i_join ?h ?z ?_); (case h => walk_at "sq"); (case z => walk_at "side"))
  | with_reducible refine i_abs ?_
  | with_reducible refine i_max ?_
  | with_reducible refine i_min ?_
  | ((with_reducible refine' i_rAll ?h ?_); (case h => walk_at "sq"))
  | ((with_reducible refine' i_lcEl ?h ?e ?_); (case h => walk_at "hg"); (case e => walk_at "side"))
  | with_reducible refine ⟨_, _, rfl, rfl, ?_⟩
  | with_reducible refine ⟨_, _, rfl, ?_⟩
  | with_reducible refine ⟨_, rfl, ?_⟩
  | with_reducible refine And.intro rfl ?_
  | ((with_reducible refine And.intro ?h ?_); (case h => walk_at "side"))
  | fail)

section
variable {P : Program} {w : World} {K : PySem.W.Frag} {mg : Str → Option Value} {base : Heap} {A : Ad}
def sp_law (K : PySem.W.Frag) (A : Ad) : Sp := fun vs H Q _ => ∃ (s : Addr) (ns : List Int), vs = [.ref s] ∧ SqL K H s (ns.map V.int) ∧ ns.length ≤ 63 ∧ LamX.Tabs (TT A) H ∧ ∀ H', Q (.bl true) H'
theorem ok_law (T : Txt K mg A) (TB : TBs base mg A) : Fg P w K mg base CX0 13 A.f_law A.d_law ["_law_script"] (sp_law K A) := by
  have G_l_draw := ok_l_draw (P := P) (w := w) (base := base) T
  have G_l_rng := ok_l_rng (P := P) (w := w) (base := base) T
  have G_l_choice := ok_l_choice T G_l_draw
  have G_InvalidVersionx_initx := ok_InvalidVersionx_initx (P := P) (w := w) (base := base) T
  have G_InvalidWindowx_initx := ok_InvalidWindowx_initx (P := P) (w := w) (base := base) T
  have G_InvalidWindowsx_initx := ok_InvalidWindowsx_initx (P := P) (w := w) (base := base) T
  have G_InvalidTextx_initx := ok_InvalidTextx_initx (P := P) (w := w) (base := base) T
  have G_is_integer := ok_is_integer (P := P) (w := w) (base := base) T
  have G_is_version := ok_is_version T G_is_integer
  have G_is_window := ok_is_window T G_is_version
  have G_require_window := ok_require_window T G_is_window G_InvalidWindowx_initx
  have G_require_version := ok_require_version T G_is_version G_InvalidVersionx_initx
  have G_require_windows := ok_require_windows T G_is_window G_InvalidWindowsx_initx
  have G_reaches := ok_reaches (P := P) (w := w) (base := base) T
  have G_contains := ok_contains T G_require_window G_require_version G_reaches
  have G_rises := ok_rises T G_require_window G_reaches
  have G_first_falling := ok_first_falling T G_require_windows G_rises
  have G_least_reaching := ok_least_reaching T G_first_falling G_require_version G_reaches G_InvalidWindowsx_initx
  have G_format_window := ok_format_window T G_require_window
  have G_parse_number := ok_parse_number (P := P) (w := w) (base := base) T
  have G_window_in := ok_window_in T G_parse_number G_is_window
  have G_parse_window := ok_parse_window T G_window_in G_InvalidTextx_initx
  have G_l_number := ok_l_number (P := P) (w := w) (base := base) T
  have G_l_read := ok_l_read T G_l_number
  have G_l_is_count := ok_l_is_count (P := P) (w := w) (base := base) T
  have G_l_is_window := ok_l_is_window T G_l_is_count
  have G_l_odd := ok_l_odd T G_l_choice
  have G_l_top := ok_l_top (P := P) (w := w) (base := base) T
  have G_l_singles_right := ok_l_singles_right T TB G_is_window G_contains G_rises G_format_window G_l_choice G_l_odd G_l_is_count G_l_is_window
  have G_l_lists_right := ok_l_lists_right T TB G_first_falling G_least_reaching G_l_draw G_l_choice G_l_odd G_l_is_count G_l_is_window G_l_top
  have G_l_texts_right := ok_l_texts_right T TB G_format_window G_parse_window G_l_draw G_l_choice G_l_read
  refine ok_g T.F_law sc_law (fun vs H Q E h => ?_) (fun cdv Ar outer s H vs Q E hr h => ?_)
  · obtain ⟨_, _, rfl, _⟩ := h; rfl
  · obtain ⟨sc, ns, rfl, hS, hl, tabs, q⟩ := h
    refine ⟨_, (pss_cons (ps_for PassesOwn.never rfl (pi_range1 rfl T.m_range (pa_cons (pe_callB (call_max2 rfl) (by rfl) T.m_max (by decide +kernel) (pa_cons pe_int (pa_cons (pe_callB (call_min2 rfl) (by rfl) T.m_min (by decide +kernel) (pa_cons (pe_callB call_lenN (by rfl) T.m_len (by decide +kernel) (pa_cons (pv 0) pa_nil)) (pa_cons pe_int pa_nil))) pa_nil))) pa_nil)) (pg_name (i := 1) sc_law.nd rfl (.inl rfl))
(pss_cons (ps_set (i := 2) sc_law.nd rfl (.inl rfl) (pe_call G_l_rng (hr.mono (by decide)) (by rfl) T.g_l_rng T.F_l_rng.kp T.b_l_rng .nil pass0 (pa_cons (pv 0) (pa_cons (pv 1) pa_nil))))
(pss_one (ps_for PassesOwn.never rfl (pi_range1 rfl T.m_range (pa_cons pe_int pa_nil)) (pg_name (i := 3) sc_law.nd rfl (.inl rfl))
(pss_one (ps_if (PW.pt (pw_or (pt_not (pt_val (pe_call G_l_singles_right (hr.mono (by decide)) (by rfl) T.g_l_singles_right T.F_l_singles_right.kp T.b_l_singles_right .nil pass0 (pa_cons (pv 2) pa_nil)))) (pw_or (pt_not (pt_val (pe_call G_l_lists_right (hr.mono (by decide)) (by rfl) T.g_l_lists_right T.F_l_lists_right.kp T.b_l_lists_right .nil pass0 (pa_cons (pv 2) pa_nil)))) (pw_or1 (pt_not (pt_val (pe_call G_l_texts_right (hr.mono (by decide)) (by rfl) T.g_l_texts_right T.F_l_texts_right.kp T.b_l_texts_right .nil pass0 (pa_cons (pv 2) pa_nil))))))))
(pss_one (ps_ret pe_bl))
pss_nil))))))
(pss_one (ps_ret pe_bl))), ?_⟩
    have hz : ns.length ≤ sizeLine := Nat.le_trans hl (by decide)
    repeat (walk_at "st")
    refine f_wk wk_range (fun i σ H' => LamX.ExtN H H' ∧ LamX.Tabs (TT A) H' ∧ ∃ y1 y2 y3, σ = [some (.ref sc), y1, y2, y3]) ⟨fun _ _ h _ => h, tabs, _, _, _, rfl⟩ (fun _ _ _ _ => trivial) (fun i x σ H' hx h => ?_) (fun σ H' h => ?_)
    · obtain ⟨xH, t0, y1, y2, y3, rfl⟩ := h
      obtain ⟨k, rfl, hk⟩ := rangeV_item hx
      have hS' : SqL K H' sc (ns.map V.int) := (sqL_nt hS).imp (fun r => Rd.same (extN_ntH xH) r) id
      repeat (walk_at "st")
      refine ⟨_, _, _, rfl, hS', by omega, by (revert hk; split <;> split <;> omega), hl, fun p G1 n1 r1 s1 => ?_⟩
      repeat (walk_at "st")
      refine f_wk wk_range (fun i σ H2 => XOff p H' H2 ∧ Rok H2 p ∧ LamX.Tabs (TT A) H2 ∧ ∃ y3, σ = [some (.ref sc), some (.int (0 + k)), some (.ref p), y3]) ⟨fun b o _ h _ => s1 b o h, r1, tabs_same s1 t0, _, rfl⟩ (fun _ _ _ _ => trivial) (fun i2 x2 σ H2 hx2 h2 => ?_) (fun σ H2 h2 => ?_)
      · obtain ⟨o2, r2, t2, y3, rfl⟩ := h2
        repeat (walk_at "st")
        refine ⟨p, rfl, r2, t2, fun G3 x3 r3 t3 => ?_⟩
        repeat (walk_at "st")
        refine i_ff (by rfl) ?_
        repeat (walk_at "st")
        refine ⟨p, rfl, r3, t3, fun G4 x4 r4 t4 => ?_⟩
        repeat (walk_at "st")
        refine i_ff (by rfl) ?_
        repeat (walk_at "st")
        refine ⟨p, rfl, r4, t4, fun G5 x5 r5 t5 => ?_⟩
        repeat (walk_at "st")
        refine i_ff (by rfl) ?_
        repeat (walk_at "st")
        exact ⟨((o2.trans x3).trans x4).trans x5, r5, t5, _, rfl⟩
      · obtain ⟨o2, r2, t2, y3, rfl⟩ := h2
        exact ⟨fun b u h k => (XOff.ext o2 n1) b u (xH b u h k) k, t2, _, _, _, rfl⟩
    · obtain ⟨xH, t0, y1, y2, y3, rfl⟩ := h
      repeat (walk_at "st")
      exact q _
theorem sp_law_of {K : PySem.W.Frag} {A : Ad} {H : Hp} {a : Addr} {ns : List Int} (hl : ns.length ≤ 63) (_ : ∀ z ∈ ns, Builtin.Int.intBits z ≤ 1048576) (hS : SqL K H a (ns.map V.int)) (t : LamX.Tabs (TT A) H) : sp_law K A [.ref a] H (fun v _ => v = .bl true) fun _ _ _ => False := ⟨a, ns, rfl, hS, hl, t, fun _ => rfl⟩
theorem bi_InvalidVersionx_initx {K : PySem.W.Frag} {f : Addr} {fd : FuncData} (F : Fun K "__init__" "InvalidVersion.__init__" s_InvalidVersionx_initx f fd) : Binds K fd ["self", "value"] [] := F.binds (ps := ["self", "value"]) fun _ _ _ _ _ _ us hl => match us, hl with | [_, _], _ => rfl
theorem bi_InvalidWindowx_initx {K : PySem.W.Frag} {f : Addr} {fd : FuncData} (F : Fun K "__init__" "InvalidWindow.__init__" s_InvalidWindowx_initx f fd) : Binds K fd ["self", "value"] [] := F.binds (ps := ["self", "value"]) fun _ _ _ _ _ _ us hl => match us, hl with | [_, _], _ => rfl
theorem bi_InvalidWindowsx_initx {K : PySem.W.Frag} {f : Addr} {fd : FuncData} (F : Fun K "__init__" "InvalidWindows.__init__" s_InvalidWindowsx_initx f fd) : Binds K fd ["self", "position"] [] := F.binds (ps := ["self", "position"]) fun _ _ _ _ _ _ us hl => match us, hl with | [_, _], _ => rfl
theorem bi_InvalidTextx_initx {K : PySem.W.Frag} {f : Addr} {fd : FuncData} (F : Fun K "__init__" "InvalidText.__init__" s_InvalidTextx_initx f fd) : Binds K fd ["self", "line"] [] := F.binds (ps := ["self", "line"]) fun _ _ _ _ _ _ us hl => match us, hl with | [_, _], _ => rfl
theorem bi_is_integer {K : PySem.W.Frag} {f : Addr} {fd : FuncData} (F : Fun K "is_integer" "is_integer" s_is_integer f fd) : Binds K fd ["value"] [] := F.binds (ps := ["value"]) fun _ _ _ _ _ _ us hl => match us, hl with | [_], _ => rfl
theorem bi_is_version {K : PySem.W.Frag} {f : Addr} {fd : FuncData} (F : Fun K "is_version" "is_version" s_is_version f fd) : Binds K fd ["value"] [] := F.binds (ps := ["value"]) fun _ _ _ _ _ _ us hl => match us, hl with | [_], _ => rfl
theorem bi_require_version {K : PySem.W.Frag} {f : Addr} {fd : FuncData} (F : Fun K "require_version" "require_version" s_require_version f fd) : Binds K fd ["value"] [] := F.binds (ps := ["value"]) fun _ _ _ _ _ _ us hl => match us, hl with | [_], _ => rfl
theorem bi_parse_number {K : PySem.W.Frag} {f : Addr} {fd : FuncData} (F : Fun K "parse_number" "parse_number" s_parse_number f fd) : Binds K fd ["word"] [] := F.binds (ps := ["word"]) fun _ _ _ _ _ _ us hl => match us, hl with | [_], _ => rfl
theorem bi_is_window {K : PySem.W.Frag} {f : Addr} {fd : FuncData} (F : Fun K "is_window" "is_window" s_is_window f fd) : Binds K fd ["value"] [] := F.binds (ps := ["value"]) fun _ _ _ _ _ _ us hl => match us, hl with | [_], _ => rfl
theorem bi_require_window {K : PySem.W.Frag} {f : Addr} {fd : FuncData} (F : Fun K "require_window" "require_window" s_require_window f fd) : Binds K fd ["value"] [] := F.binds (ps := ["value"]) fun _ _ _ _ _ _ us hl => match us, hl with | [_], _ => rfl
theorem bi_require_windows {K : PySem.W.Frag} {f : Addr} {fd : FuncData} (F : Fun K "require_windows" "require_windows" s_require_windows f fd) : Binds K fd ["value"] [] := F.binds (ps := ["value"]) fun _ _ _ _ _ _ us hl => match us, hl with | [_], _ => rfl
theorem bi_reaches {K : PySem.W.Frag} {f : Addr} {fd : FuncData} (F : Fun K "reaches" "reaches" s_reaches f fd) : Binds K fd ["window", "version"] [] := F.binds (ps := ["window", "version"]) fun _ _ _ _ _ _ us hl => match us, hl with | [_, _], _ => rfl
theorem bi_contains {K : PySem.W.Frag} {f : Addr} {fd : FuncData} (F : Fun K "contains" "contains" s_contains f fd) : Binds K fd ["window", "version"] [] := F.binds (ps := ["window", "version"]) fun _ _ _ _ _ _ us hl => match us, hl with | [_, _], _ => rfl
theorem bi_rises {K : PySem.W.Frag} {f : Addr} {fd : FuncData} (F : Fun K "rises" "rises" s_rises f fd) : Binds K fd ["first", "second"] [] := F.binds (ps := ["first", "second"]) fun _ _ _ _ _ _ us hl => match us, hl with | [_, _], _ => rfl
theorem bi_first_falling {K : PySem.W.Frag} {f : Addr} {fd : FuncData} (F : Fun K "first_falling" "first_falling" s_first_falling f fd) : Binds K fd ["windows"] [] := F.binds (ps := ["windows"]) fun _ _ _ _ _ _ us hl => match us, hl with | [_], _ => rfl
theorem bi_least_reaching {K : PySem.W.Frag} {f : Addr} {fd : FuncData} (F : Fun K "least_reaching" "least_reaching" s_least_reaching f fd) : Binds K fd ["windows", "version"] [] := F.binds (ps := ["windows", "version"]) fun _ _ _ _ _ _ us hl => match us, hl with | [_, _], _ => rfl
theorem bi_format_window {K : PySem.W.Frag} {f : Addr} {fd : FuncData} (F : Fun K "format_window" "format_window" s_format_window f fd) : Binds K fd ["window"] [] := F.binds (ps := ["window"]) fun _ _ _ _ _ _ us hl => match us, hl with | [_], _ => rfl
theorem bi_window_in {K : PySem.W.Frag} {f : Addr} {fd : FuncData} (F : Fun K "window_in" "window_in" s_window_in f fd) : Binds K fd ["text"] [] := F.binds (ps := ["text"]) fun _ _ _ _ _ _ us hl => match us, hl with | [_], _ => rfl
theorem bi_parse_window {K : PySem.W.Frag} {f : Addr} {fd : FuncData} (F : Fun K "parse_window" "parse_window" s_parse_window f fd) : Binds K fd ["text"] [] := F.binds (ps := ["text"]) fun _ _ _ _ _ _ us hl => match us, hl with | [_], _ => rfl
theorem bi_l_rng {K : PySem.W.Frag} {f : Addr} {fd : FuncData} (F : Fun K "_law_rng" "_law_rng" s_l_rng f fd) : Binds K fd ["_law_script", "_law_k"] [] := F.binds (ps := ["_law_script", "_law_k"]) fun _ _ _ _ _ _ us hl => match us, hl with | [_, _], _ => rfl
theorem bi_l_draw {K : PySem.W.Frag} {f : Addr} {fd : FuncData} (F : Fun K "_law_draw" "_law_draw" s_l_draw f fd) : Binds K fd ["_law_rng_here", "_law_many"] [] := F.binds (ps := ["_law_rng_here", "_law_many"]) fun _ _ _ _ _ _ us hl => match us, hl with | [_, _], _ => rfl
theorem bi_l_choice {K : PySem.W.Frag} {f : Addr} {fd : FuncData} (F : Fun K "_law_choice" "_law_choice" s_l_choice f fd) : Binds K fd ["_law_rng_here", "_law_options"] [] := F.binds (ps := ["_law_rng_here", "_law_options"]) fun _ _ _ _ _ _ us hl => match us, hl with | [_, _], _ => rfl
theorem bi_l_is_count {K : PySem.W.Frag} {f : Addr} {fd : FuncData} (F : Fun K "_law_is_count" "_law_is_count" s_l_is_count f fd) : Binds K fd ["_law_one"] [] := F.binds (ps := ["_law_one"]) fun _ _ _ _ _ _ us hl => match us, hl with | [_], _ => rfl
theorem bi_l_is_window {K : PySem.W.Frag} {f : Addr} {fd : FuncData} (F : Fun K "_law_is_window" "_law_is_window" s_l_is_window f fd) : Binds K fd ["_law_one"] [] := F.binds (ps := ["_law_one"]) fun _ _ _ _ _ _ us hl => match us, hl with | [_], _ => rfl
theorem bi_l_odd {K : PySem.W.Frag} {f : Addr} {fd : FuncData} (F : Fun K "_law_odd" "_law_odd" s_l_odd f fd) : Binds K fd ["_law_rng_here"] [] := F.binds (ps := ["_law_rng_here"]) fun _ _ _ _ _ _ us hl => match us, hl with | [_], _ => rfl
theorem bi_l_told {K : PySem.W.Frag} {f : Addr} {fd : FuncData} (F : Fun K "_law_told" "_law_told" s_l_told f fd) : Binds K fd ["_law_call"] [] := F.binds (ps := ["_law_call"]) fun _ _ _ _ _ _ us hl => match us, hl with | [_], _ => rfl
theorem bi_l_singles_right {K : PySem.W.Frag} {f : Addr} {fd : FuncData} (F : Fun K "_law_singles_right" "_law_singles_right" s_l_singles_right f fd) : Binds K fd ["_law_rng_here"] [] := F.binds (ps := ["_law_rng_here"]) fun _ _ _ _ _ _ us hl => match us, hl with | [_], _ => rfl
theorem bi_l_top {K : PySem.W.Frag} {f : Addr} {fd : FuncData} (F : Fun K "_law_top" "_law_top" s_l_top f fd) : Binds K fd ["_law_one"] [] := F.binds (ps := ["_law_one"]) fun _ _ _ _ _ _ us hl => match us, hl with | [_], _ => rfl
theorem bi_l_lists_right {K : PySem.W.Frag} {f : Addr} {fd : FuncData} (F : Fun K "_law_lists_right" "_law_lists_right" s_l_lists_right f fd) : Binds K fd ["_law_rng_here"] [] := F.binds (ps := ["_law_rng_here"]) fun _ _ _ _ _ _ us hl => match us, hl with | [_], _ => rfl
theorem bi_l_number {K : PySem.W.Frag} {f : Addr} {fd : FuncData} (F : Fun K "_law_number" "_law_number" s_l_number f fd) : Binds K fd ["_law_word"] [] := F.binds (ps := ["_law_word"]) fun _ _ _ _ _ _ us hl => match us, hl with | [_], _ => rfl
theorem bi_l_read {K : PySem.W.Frag} {f : Addr} {fd : FuncData} (F : Fun K "_law_read" "_law_read" s_l_read f fd) : Binds K fd ["_law_text"] [] := F.binds (ps := ["_law_text"]) fun _ _ _ _ _ _ us hl => match us, hl with | [_], _ => rfl
theorem bi_l_texts_right {K : PySem.W.Frag} {f : Addr} {fd : FuncData} (F : Fun K "_law_texts_right" "_law_texts_right" s_l_texts_right f fd) : Binds K fd ["_law_rng_here"] [] := F.binds (ps := ["_law_rng_here"]) fun _ _ _ _ _ _ us hl => match us, hl with | [_], _ => rfl
theorem bi_law {K : PySem.W.Frag} {f : Addr} {fd : FuncData} (F : Fun K "law" "law" s_law f fd) : Binds K fd ["_law_script"] [] := F.binds (ps := ["_law_script"]) fun _ _ _ _ _ _ us hl => match us, hl with | [_], _ => rfl
theorem kbl_format_window_window {K : PySem.W.Frag} {f : Addr} {fd : FuncData} (F : Fun K "format_window" "format_window" s_format_window f fd) : KB0 K fd ["window"] ["window"] [0] := F.kb0 (ps := ["window"]) (ks := ["window"]) (pm := [0]) fun _ _ _ _ _ _ us hl => match us, hl with | [_], _ => rfl
theorem kbl_is_window_value {K : PySem.W.Frag} {f : Addr} {fd : FuncData} (F : Fun K "is_window" "is_window" s_is_window f fd) : KB0 K fd ["value"] ["value"] [0] := F.kb0 (ps := ["value"]) (ks := ["value"]) (pm := [0]) fun _ _ _ _ _ _ us hl => match us, hl with | [_], _ => rfl
theorem facts {l : PySem.W.OpenLaw} {w : World} {K : PySem.W.Frag} {h : Heap} {mg : Str → Option Value} {fa : Addr} (G : h.Ns mainGlobals mg) (hfa : mg "law" = some (.ref fa)) (c : SaysH faL fnL tbL K h) : LawT l w K CX0 13 63 "_law_script" mg fa h := by
  have X := c.inK
  have e := hfa.symm.trans (glo_of X G (c.at_ (f := gloB "law" (fun K => He.fAd K ("law", none))) 32))
  cases e
  have D0 := c.def_ 0 (st := s_InvalidVersionx_initx) (p := ("InvalidVersion", some "__init__")) (x := "__init__") (q := "InvalidVersion.__init__")
  have D1 := c.def_ 1 (st := s_InvalidWindowx_initx) (p := ("InvalidWindow", some "__init__")) (x := "__init__") (q := "InvalidWindow.__init__")
  have D2 := c.def_ 2 (st := s_InvalidWindowsx_initx) (p := ("InvalidWindows", some "__init__")) (x := "__init__") (q := "InvalidWindows.__init__")
  have D3 := c.def_ 3 (st := s_InvalidTextx_initx) (p := ("InvalidText", some "__init__")) (x := "__init__") (q := "InvalidText.__init__")
  have D4 := c.def_ 4 (st := s_is_integer) (p := ("is_integer", none)) (x := "is_integer") (q := "is_integer")
  have D5 := c.def_ 5 (st := s_is_version) (p := ("is_version", none)) (x := "is_version") (q := "is_version")
  have D6 := c.def_ 6 (st := s_require_version) (p := ("require_version", none)) (x := "require_version") (q := "require_version")
  have D7 := c.def_ 7 (st := s_parse_number) (p := ("parse_number", none)) (x := "parse_number") (q := "parse_number")
  have D8 := c.def_ 8 (st := s_is_window) (p := ("is_window", none)) (x := "is_window") (q := "is_window")
  have D9 := c.def_ 9 (st := s_require_window) (p := ("require_window", none)) (x := "require_window") (q := "require_window")
  have D10 := c.def_ 10 (st := s_require_windows) (p := ("require_windows", none)) (x := "require_windows") (q := "require_windows")
  have D11 := c.def_ 11 (st := s_reaches) (p := ("reaches", none)) (x := "reaches") (q := "reaches")
  have D12 := c.def_ 12 (st := s_contains) (p := ("contains", none)) (x := "contains") (q := "contains")
  have D13 := c.def_ 13 (st := s_rises) (p := ("rises", none)) (x := "rises") (q := "rises")
  have D14 := c.def_ 14 (st := s_first_falling) (p := ("first_falling", none)) (x := "first_falling") (q := "first_falling")
  have D15 := c.def_ 15 (st := s_least_reaching) (p := ("least_reaching", none)) (x := "least_reaching") (q := "least_reaching")
  have D16 := c.def_ 16 (st := s_format_window) (p := ("format_window", none)) (x := "format_window") (q := "format_window")
  have D17 := c.def_ 17 (st := s_window_in) (p := ("window_in", none)) (x := "window_in") (q := "window_in")
  have D18 := c.def_ 18 (st := s_parse_window) (p := ("parse_window", none)) (x := "parse_window") (q := "parse_window")
  have D19 := c.def_ 19 (st := s_l_rng) (p := ("_law_rng", none)) (x := "_law_rng") (q := "_law_rng")
  have D20 := c.def_ 20 (st := s_l_draw) (p := ("_law_draw", none)) (x := "_law_draw") (q := "_law_draw")
  have D21 := c.def_ 21 (st := s_l_choice) (p := ("_law_choice", none)) (x := "_law_choice") (q := "_law_choice")
  have D22 := c.def_ 22 (st := s_l_is_count) (p := ("_law_is_count", none)) (x := "_law_is_count") (q := "_law_is_count")
  have D23 := c.def_ 23 (st := s_l_is_window) (p := ("_law_is_window", none)) (x := "_law_is_window") (q := "_law_is_window")
  have D24 := c.def_ 24 (st := s_l_odd) (p := ("_law_odd", none)) (x := "_law_odd") (q := "_law_odd")
  have D25 := c.def_ 25 (st := s_l_told) (p := ("_law_told", none)) (x := "_law_told") (q := "_law_told")
  have D26 := c.def_ 26 (st := s_l_singles_right) (p := ("_law_singles_right", none)) (x := "_law_singles_right") (q := "_law_singles_right")
  have D27 := c.def_ 27 (st := s_l_top) (p := ("_law_top", none)) (x := "_law_top") (q := "_law_top")
  have D28 := c.def_ 28 (st := s_l_lists_right) (p := ("_law_lists_right", none)) (x := "_law_lists_right") (q := "_law_lists_right")
  have D29 := c.def_ 29 (st := s_l_number) (p := ("_law_number", none)) (x := "_law_number") (q := "_law_number")
  have D30 := c.def_ 30 (st := s_l_read) (p := ("_law_read", none)) (x := "_law_read") (q := "_law_read")
  have D31 := c.def_ 31 (st := s_l_texts_right) (p := ("_law_texts_right", none)) (x := "_law_texts_right") (q := "_law_texts_right")
  have D32 := c.def_ 32 (st := s_law) (p := ("law", none)) (x := "law") (q := "law")
  have tb26 := c.tabs ("_law_singles_right", none) (.head _)
  have C26 := defC_of D26 tb26.2.2
  have tb28 := c.tabs ("_law_lists_right", none) (.tail _ (.head _))
  have C28 := defC_of D28 tb28.2.2
  have tb31 := c.tabs ("_law_texts_right", none) (.tail _ (.tail _ (.head _)))
  have C31 := defC_of D31 tb31.2.2
  have T : Txt K mg ⟨He.fAd K ("InvalidVersion", some "__init__"), D0.fd, He.fAd K ("InvalidWindow", some "__init__"), D1.fd, He.fAd K ("InvalidWindows", some "__init__"), D2.fd, He.fAd K ("InvalidText", some "__init__"), D3.fd, He.fAd K ("is_integer", none), D4.fd, He.fAd K ("is_version", none), D5.fd, He.fAd K ("require_version", none), D6.fd, He.fAd K ("parse_number", none), D7.fd, He.fAd K ("is_window", none), D8.fd, He.fAd K ("require_window", none), D9.fd, He.fAd K ("require_windows", none), D10.fd, He.fAd K ("reaches", none), D11.fd, He.fAd K ("contains", none), D12.fd, He.fAd K ("rises", none), D13.fd, He.fAd K ("first_falling", none), D14.fd, He.fAd K ("least_reaching", none), D15.fd, He.fAd K ("format_window", none), D16.fd, He.fAd K ("window_in", none), D17.fd, He.fAd K ("parse_window", none), D18.fd, He.fAd K ("_law_rng", none), D19.fd, He.fAd K ("_law_draw", none), D20.fd, He.fAd K ("_law_choice", none), D21.fd, He.fAd K ("_law_is_count", none), D22.fd, He.fAd K ("_law_is_window", none), D23.fd, He.fAd K ("_law_odd", none), D24.fd, He.fAd K ("_law_told", none), D25.fd, He.fAd K ("_law_singles_right", none), C26.fd, He.fAd K ("_law_top", none), D27.fd, He.fAd K ("_law_lists_right", none), C28.fd, He.fAd K ("_law_number", none), D29.fd, He.fAd K ("_law_read", none), D30.fd, He.fAd K ("_law_texts_right", none), C31.fd, He.fAd K ("law", none), D32.fd, codeAt K (He.fAd K ("_law_singles_right", none)), tabOf K (codeAt K (He.fAd K ("_law_singles_right", none))), codeAt K (He.fAd K ("_law_lists_right", none)), tabOf K (codeAt K (He.fAd K ("_law_lists_right", none))), codeAt K (He.fAd K ("_law_texts_right", none)), tabOf K (codeAt K (He.fAd K ("_law_texts_right", none))), tokOf K "DIGITS", tokOf K "MAX_DIGITS", tokOf K "DOTS", He.ga K "GroupError", He.ga K "InvalidVersion", He.ga K "InvalidWindow", He.ga K "InvalidWindows", He.ga K "InvalidText"⟩ := {
    F_InvalidVersionx_initx := D0.F,
    b_InvalidVersionx_initx := bi_InvalidVersionx_initx D0.F,
    F_InvalidWindowx_initx := D1.F,
    b_InvalidWindowx_initx := bi_InvalidWindowx_initx D1.F,
    F_InvalidWindowsx_initx := D2.F,
    b_InvalidWindowsx_initx := bi_InvalidWindowsx_initx D2.F,
    F_InvalidTextx_initx := D3.F,
    b_InvalidTextx_initx := bi_InvalidTextx_initx D3.F,
    F_is_integer := D4.F,
    g_is_integer := glo_of X G (c.at_ (f := gloB "is_integer" (fun K => He.fAd K ("is_integer", none))) 4),
    b_is_integer := bi_is_integer D4.F,
    F_is_version := D5.F,
    g_is_version := glo_of X G (c.at_ (f := gloB "is_version" (fun K => He.fAd K ("is_version", none))) 5),
    b_is_version := bi_is_version D5.F,
    F_require_version := D6.F,
    g_require_version := glo_of X G (c.at_ (f := gloB "require_version" (fun K => He.fAd K ("require_version", none))) 6),
    b_require_version := bi_require_version D6.F,
    F_parse_number := D7.F,
    g_parse_number := glo_of X G (c.at_ (f := gloB "parse_number" (fun K => He.fAd K ("parse_number", none))) 7),
    b_parse_number := bi_parse_number D7.F,
    F_is_window := D8.F,
    g_is_window := glo_of X G (c.at_ (f := gloB "is_window" (fun K => He.fAd K ("is_window", none))) 8),
    b_is_window := bi_is_window D8.F,
    F_require_window := D9.F,
    g_require_window := glo_of X G (c.at_ (f := gloB "require_window" (fun K => He.fAd K ("require_window", none))) 9),
    b_require_window := bi_require_window D9.F,
    F_require_windows := D10.F,
    g_require_windows := glo_of X G (c.at_ (f := gloB "require_windows" (fun K => He.fAd K ("require_windows", none))) 10),
    b_require_windows := bi_require_windows D10.F,
    F_reaches := D11.F,
    g_reaches := glo_of X G (c.at_ (f := gloB "reaches" (fun K => He.fAd K ("reaches", none))) 11),
    b_reaches := bi_reaches D11.F,
    F_contains := D12.F,
    g_contains := glo_of X G (c.at_ (f := gloB "contains" (fun K => He.fAd K ("contains", none))) 12),
    b_contains := bi_contains D12.F,
    F_rises := D13.F,
    g_rises := glo_of X G (c.at_ (f := gloB "rises" (fun K => He.fAd K ("rises", none))) 13),
    b_rises := bi_rises D13.F,
    F_first_falling := D14.F,
    g_first_falling := glo_of X G (c.at_ (f := gloB "first_falling" (fun K => He.fAd K ("first_falling", none))) 14),
    b_first_falling := bi_first_falling D14.F,
    F_least_reaching := D15.F,
    g_least_reaching := glo_of X G (c.at_ (f := gloB "least_reaching" (fun K => He.fAd K ("least_reaching", none))) 15),
    b_least_reaching := bi_least_reaching D15.F,
    F_format_window := D16.F,
    g_format_window := glo_of X G (c.at_ (f := gloB "format_window" (fun K => He.fAd K ("format_window", none))) 16),
    b_format_window := bi_format_window D16.F,
    F_window_in := D17.F,
    g_window_in := glo_of X G (c.at_ (f := gloB "window_in" (fun K => He.fAd K ("window_in", none))) 17),
    b_window_in := bi_window_in D17.F,
    F_parse_window := D18.F,
    g_parse_window := glo_of X G (c.at_ (f := gloB "parse_window" (fun K => He.fAd K ("parse_window", none))) 18),
    b_parse_window := bi_parse_window D18.F,
    F_l_rng := D19.F,
    g_l_rng := glo_of X G (c.at_ (f := gloB "_law_rng" (fun K => He.fAd K ("_law_rng", none))) 19),
    b_l_rng := bi_l_rng D19.F,
    F_l_draw := D20.F,
    g_l_draw := glo_of X G (c.at_ (f := gloB "_law_draw" (fun K => He.fAd K ("_law_draw", none))) 20),
    b_l_draw := bi_l_draw D20.F,
    F_l_choice := D21.F,
    g_l_choice := glo_of X G (c.at_ (f := gloB "_law_choice" (fun K => He.fAd K ("_law_choice", none))) 21),
    b_l_choice := bi_l_choice D21.F,
    F_l_is_count := D22.F,
    g_l_is_count := glo_of X G (c.at_ (f := gloB "_law_is_count" (fun K => He.fAd K ("_law_is_count", none))) 22),
    b_l_is_count := bi_l_is_count D22.F,
    F_l_is_window := D23.F,
    g_l_is_window := glo_of X G (c.at_ (f := gloB "_law_is_window" (fun K => He.fAd K ("_law_is_window", none))) 23),
    b_l_is_window := bi_l_is_window D23.F,
    F_l_odd := D24.F,
    g_l_odd := glo_of X G (c.at_ (f := gloB "_law_odd" (fun K => He.fAd K ("_law_odd", none))) 24),
    b_l_odd := bi_l_odd D24.F,
    F_l_told := D25.F,
    g_l_told := glo_of X G (c.at_ (f := gloB "_law_told" (fun K => He.fAd K ("_law_told", none))) 25),
    b_l_told := bi_l_told D25.F,
    F_l_singles_right := C26.F,
    g_l_singles_right := glo_of X G (c.at_ (f := gloB "_law_singles_right" (fun K => He.fAd K ("_law_singles_right", none))) 26),
    b_l_singles_right := bi_l_singles_right C26.F,
    F_l_top := D27.F,
    g_l_top := glo_of X G (c.at_ (f := gloB "_law_top" (fun K => He.fAd K ("_law_top", none))) 27),
    b_l_top := bi_l_top D27.F,
    F_l_lists_right := C28.F,
    g_l_lists_right := glo_of X G (c.at_ (f := gloB "_law_lists_right" (fun K => He.fAd K ("_law_lists_right", none))) 28),
    b_l_lists_right := bi_l_lists_right C28.F,
    F_l_number := D29.F,
    g_l_number := glo_of X G (c.at_ (f := gloB "_law_number" (fun K => He.fAd K ("_law_number", none))) 29),
    b_l_number := bi_l_number D29.F,
    F_l_read := D30.F,
    g_l_read := glo_of X G (c.at_ (f := gloB "_law_read" (fun K => He.fAd K ("_law_read", none))) 30),
    b_l_read := bi_l_read D30.F,
    F_l_texts_right := C31.F,
    g_l_texts_right := glo_of X G (c.at_ (f := gloB "_law_texts_right" (fun K => He.fAd K ("_law_texts_right", none))) 31),
    b_l_texts_right := bi_l_texts_right C31.F,
    F_law := D32.F,
    g_law := glo_of X G (c.at_ (f := gloB "law" (fun K => He.fAd K ("law", none))) 32),
    b_law := bi_law D32.F,
    kb_format_window_window := kbl_format_window_window D16.F,
    kb_is_window_value := kbl_is_window_value D8.F,
    C_l_singles_right := C26.C,
    C_l_lists_right := C28.C,
    C_l_texts_right := C31.C,
    ne_l_singles_right_l_lists_right := ne_of_beq_false (by simpa using (c.at_ (f := fun K => !(tabOf K (codeAt K (He.fAd K ("_law_singles_right", none))) == tabOf K (codeAt K (He.fAd K ("_law_lists_right", none))))) 78)),
    ne_l_singles_right_l_texts_right := ne_of_beq_false (by simpa using (c.at_ (f := fun K => !(tabOf K (codeAt K (He.fAd K ("_law_singles_right", none))) == tabOf K (codeAt K (He.fAd K ("_law_texts_right", none))))) 79)),
    ne_l_lists_right_l_texts_right := ne_of_beq_false (by simpa using (c.at_ (f := fun K => !(tabOf K (codeAt K (He.fAd K ("_law_lists_right", none))) == tabOf K (codeAt K (He.fAd K ("_law_texts_right", none))))) 80)),
    c_DIGITS := str_of X G (c.at_ (f := strB "DIGITS" "0123456789") 33),
    c_MAX_DIGITS := int_of X G (c.at_ (f := intB "MAX_DIGITS" (60)) 34),
    c_DOTS := str_of X G (c.at_ (f := strB "DOTS" "..") 35),
    m_abs := free_of X G (c.at_ (f := freeB "abs") 36),
    m_all := free_of X G (c.at_ (f := freeB "all") 37),
    m_bool := free_of X G (c.at_ (f := freeB "bool") 38),
    m_divmod := free_of X G (c.at_ (f := freeB "divmod") 39),
    m_enumerate := free_of X G (c.at_ (f := freeB "enumerate") 40),
    m_int := free_of X G (c.at_ (f := freeB "int") 41),
    m_isinstance := free_of X G (c.at_ (f := freeB "isinstance") 42),
    m_len := free_of X G (c.at_ (f := freeB "len") 43),
    m_list := free_of X G (c.at_ (f := freeB "list") 44),
    m_max := free_of X G (c.at_ (f := freeB "max") 45),
    m_min := free_of X G (c.at_ (f := freeB "min") 46),
    m_range := free_of X G (c.at_ (f := freeB "range") 47),
    m_repr := free_of X G (c.at_ (f := freeB "repr") 48),
    m_str := free_of X G (c.at_ (f := freeB "str") 49),
    m_tuple := free_of X G (c.at_ (f := freeB "tuple") 50),
    m_zip := free_of X G (c.at_ (f := freeB "zip") 51),
    gX_GroupError := glo_of X G (c.at_ (f := gloB "GroupError" (fun K => He.ga K "GroupError")) 52),
    gX_InvalidVersion := glo_of X G (c.at_ (f := gloB "InvalidVersion" (fun K => He.ga K "InvalidVersion")) 53),
    gX_InvalidWindow := glo_of X G (c.at_ (f := gloB "InvalidWindow" (fun K => He.ga K "InvalidWindow")) 54),
    gX_InvalidWindows := glo_of X G (c.at_ (f := gloB "InvalidWindows" (fun K => He.ga K "InvalidWindows")) 55),
    gX_InvalidText := glo_of X G (c.at_ (f := gloB "InvalidText" (fun K => He.ga K "InvalidText")) 56),
    cg := cg_of (c.at_ (f := cgB) 58),
    sys := sys_of (c.at_ (f := sysB) 57),
    EX_GroupError := exT_of baseV (c.at_ (f := fun K => exB K (He.ga K "GroupError") "ValueError.__new__" (tailOf "ValueError")) 59),
    EX_InvalidVersion := exT_of baseV (c.at_ (f := fun K => exB K (He.ga K "InvalidVersion") "ValueError.__new__" (tailOf "ValueError")) 62),
    EX_InvalidWindow := exT_of baseV (c.at_ (f := fun K => exB K (He.ga K "InvalidWindow") "ValueError.__new__" (tailOf "ValueError")) 66),
    EX_InvalidWindows := exT_of baseV (c.at_ (f := fun K => exB K (He.ga K "InvalidWindows") "ValueError.__new__" (tailOf "ValueError")) 70),
    EX_InvalidText := exT_of baseV (c.at_ (f := fun K => exB K (He.ga K "InvalidText") "ValueError.__new__" (tailOf "ValueError")) 74),
    IB_GroupError := ib_of (c.at_ (f := fun K => ibB K (He.ga K "GroupError") "ValueError.__init__") 61),
    su_GroupError_InvalidWindow := su_of (c.at_ (f := fun K => suB K (He.ga K "GroupError") (rowL (exL K) 16)) 60) (List.mem_of_getElem? (i := 0) rfl),
    su_GroupError_InvalidWindows := su_of (c.at_ (f := fun K => suB K (He.ga K "GroupError") (rowL (exL K) 16)) 60) (List.mem_of_getElem? (i := 1) rfl),
    su_GroupError_InvalidVersion := su_of (c.at_ (f := fun K => suB K (He.ga K "GroupError") (rowL (exL K) 16)) 60) (List.mem_of_getElem? (i := 2) rfl),
    su_GroupError_InvalidText := su_of (c.at_ (f := fun K => suB K (He.ga K "GroupError") (rowL (exL K) 16)) 60) (List.mem_of_getElem? (i := 3) rfl),
    su_GroupError_GroupError := su_of (c.at_ (f := fun K => suB K (He.ga K "GroupError") (rowL (exL K) 16)) 60) (List.mem_of_getElem? (i := 4) rfl),
    iC_InvalidVersion := met_of (c.at_ (f := metB "InvalidVersion" "__init__") 0),
    tI_InvalidVersion := ty_of (c.at_ (f := fun K => tyB K (He.fAd K ("InvalidVersion", some "__init__"))) 65),
    tk_InvalidVersion_value := (fd_of (c.at_ (f := fun K => fdB K (He.ga K "InvalidVersion") ["value"]) 63) (List.mem_of_getElem? (i := 0) rfl)).1,
    nf_InvalidVersion_value := (fd_of (c.at_ (f := fun K => fdB K (He.ga K "InvalidVersion") ["value"]) 63) (List.mem_of_getElem? (i := 0) rfl)).2,
    su_InvalidVersion_InvalidWindow := su_of (c.at_ (f := fun K => suB K (He.ga K "InvalidVersion") (rowL (exL K) 20)) 64) (List.mem_of_getElem? (i := 0) rfl),
    su_InvalidVersion_InvalidWindows := su_of (c.at_ (f := fun K => suB K (He.ga K "InvalidVersion") (rowL (exL K) 20)) 64) (List.mem_of_getElem? (i := 1) rfl),
    su_InvalidVersion_InvalidVersion := su_of (c.at_ (f := fun K => suB K (He.ga K "InvalidVersion") (rowL (exL K) 20)) 64) (List.mem_of_getElem? (i := 2) rfl),
    su_InvalidVersion_InvalidText := su_of (c.at_ (f := fun K => suB K (He.ga K "InvalidVersion") (rowL (exL K) 20)) 64) (List.mem_of_getElem? (i := 3) rfl),
    su_InvalidVersion_GroupError := su_of (c.at_ (f := fun K => suB K (He.ga K "InvalidVersion") (rowL (exL K) 20)) 64) (List.mem_of_getElem? (i := 4) rfl),
    iC_InvalidWindow := met_of (c.at_ (f := metB "InvalidWindow" "__init__") 1),
    tI_InvalidWindow := ty_of (c.at_ (f := fun K => tyB K (He.fAd K ("InvalidWindow", some "__init__"))) 69),
    tk_InvalidWindow_value := (fd_of (c.at_ (f := fun K => fdB K (He.ga K "InvalidWindow") ["value"]) 67) (List.mem_of_getElem? (i := 0) rfl)).1,
    nf_InvalidWindow_value := (fd_of (c.at_ (f := fun K => fdB K (He.ga K "InvalidWindow") ["value"]) 67) (List.mem_of_getElem? (i := 0) rfl)).2,
    su_InvalidWindow_InvalidWindow := su_of (c.at_ (f := fun K => suB K (He.ga K "InvalidWindow") (rowL (exL K) 17)) 68) (List.mem_of_getElem? (i := 0) rfl),
    su_InvalidWindow_InvalidWindows := su_of (c.at_ (f := fun K => suB K (He.ga K "InvalidWindow") (rowL (exL K) 17)) 68) (List.mem_of_getElem? (i := 1) rfl),
    su_InvalidWindow_InvalidVersion := su_of (c.at_ (f := fun K => suB K (He.ga K "InvalidWindow") (rowL (exL K) 17)) 68) (List.mem_of_getElem? (i := 2) rfl),
    su_InvalidWindow_InvalidText := su_of (c.at_ (f := fun K => suB K (He.ga K "InvalidWindow") (rowL (exL K) 17)) 68) (List.mem_of_getElem? (i := 3) rfl),
    su_InvalidWindow_GroupError := su_of (c.at_ (f := fun K => suB K (He.ga K "InvalidWindow") (rowL (exL K) 17)) 68) (List.mem_of_getElem? (i := 4) rfl),
    iC_InvalidWindows := met_of (c.at_ (f := metB "InvalidWindows" "__init__") 2),
    tI_InvalidWindows := ty_of (c.at_ (f := fun K => tyB K (He.fAd K ("InvalidWindows", some "__init__"))) 73),
    tk_InvalidWindows_position := (fd_of (c.at_ (f := fun K => fdB K (He.ga K "InvalidWindows") ["position"]) 71) (List.mem_of_getElem? (i := 0) rfl)).1,
    nf_InvalidWindows_position := (fd_of (c.at_ (f := fun K => fdB K (He.ga K "InvalidWindows") ["position"]) 71) (List.mem_of_getElem? (i := 0) rfl)).2,
    su_InvalidWindows_InvalidWindow := su_of (c.at_ (f := fun K => suB K (He.ga K "InvalidWindows") (rowL (exL K) 18)) 72) (List.mem_of_getElem? (i := 0) rfl),
    su_InvalidWindows_InvalidWindows := su_of (c.at_ (f := fun K => suB K (He.ga K "InvalidWindows") (rowL (exL K) 18)) 72) (List.mem_of_getElem? (i := 1) rfl),
    su_InvalidWindows_InvalidVersion := su_of (c.at_ (f := fun K => suB K (He.ga K "InvalidWindows") (rowL (exL K) 18)) 72) (List.mem_of_getElem? (i := 2) rfl),
    su_InvalidWindows_InvalidText := su_of (c.at_ (f := fun K => suB K (He.ga K "InvalidWindows") (rowL (exL K) 18)) 72) (List.mem_of_getElem? (i := 3) rfl),
    su_InvalidWindows_GroupError := su_of (c.at_ (f := fun K => suB K (He.ga K "InvalidWindows") (rowL (exL K) 18)) 72) (List.mem_of_getElem? (i := 4) rfl),
    iC_InvalidText := met_of (c.at_ (f := metB "InvalidText" "__init__") 3),
    tI_InvalidText := ty_of (c.at_ (f := fun K => tyB K (He.fAd K ("InvalidText", some "__init__"))) 77),
    tk_InvalidText_line := (fd_of (c.at_ (f := fun K => fdB K (He.ga K "InvalidText") ["line"]) 75) (List.mem_of_getElem? (i := 0) rfl)).1,
    nf_InvalidText_line := (fd_of (c.at_ (f := fun K => fdB K (He.ga K "InvalidText") ["line"]) 75) (List.mem_of_getElem? (i := 0) rfl)).2,
    su_InvalidText_InvalidWindow := su_of (c.at_ (f := fun K => suB K (He.ga K "InvalidText") (rowL (exL K) 24)) 76) (List.mem_of_getElem? (i := 0) rfl),
    su_InvalidText_InvalidWindows := su_of (c.at_ (f := fun K => suB K (He.ga K "InvalidText") (rowL (exL K) 24)) 76) (List.mem_of_getElem? (i := 1) rfl),
    su_InvalidText_InvalidVersion := su_of (c.at_ (f := fun K => suB K (He.ga K "InvalidText") (rowL (exL K) 24)) 76) (List.mem_of_getElem? (i := 2) rfl),
    su_InvalidText_InvalidText := su_of (c.at_ (f := fun K => suB K (He.ga K "InvalidText") (rowL (exL K) 24)) 76) (List.mem_of_getElem? (i := 3) rfl),
    su_InvalidText_GroupError := su_of (c.at_ (f := fun K => suB K (He.ga K "InvalidText") (rowL (exL K) 24)) 76) (List.mem_of_getElem? (i := 4) rfl) }
  refine ⟨_, [(codeAt K (He.fAd K ("_law_singles_right", none)), tabOf K (codeAt K (He.fAd K ("_law_singles_right", none)))), (codeAt K (He.fAd K ("_law_lists_right", none)), tabOf K (codeAt K (He.fAd K ("_law_lists_right", none)))), (codeAt K (He.fAd K ("_law_texts_right", none)), tabOf K (codeAt K (He.fAd K ("_law_texts_right", none))))], sp_law K _, fun q hq => ?_, binds_one D32.F (fun _ _ _ _ _ _ _ => rfl), fun H a ns hl hb hT hS => ?_, fun base _ _ hB => ok_law T ⟨hB _ (.head _), hB _ (.tail _ (.head _)), hB _ (.tail _ (.tail _ (.head _)))⟩⟩
  · simp only [List.mem_cons, List.not_mem_nil, or_false] at hq
    rcases hq with rfl | rfl | rfl
    · exact tb26
    · exact tb28
    · exact tb31
  · exact sp_law_of hl hb hS (tabs_nil (fun p hp => by
      simp only [TT, List.mem_cons, List.not_mem_nil, or_false] at hp
      rcases hp with rfl | rfl | rfl
      · exact hT (codeAt K (He.fAd K ("_law_singles_right", none)), tabOf K (codeAt K (He.fAd K ("_law_singles_right", none)))) (.head _)
      · exact hT (codeAt K (He.fAd K ("_law_lists_right", none)), tabOf K (codeAt K (He.fAd K ("_law_lists_right", none)))) (.tail _ (.head _))
      · exact hT (codeAt K (He.fAd K ("_law_texts_right", none)), tabOf K (codeAt K (He.fAd K ("_law_texts_right", none)))) (.tail _ (.tail _ (.head _)))))
end
end KX
namespace KX
open PySem PySem.Spec PyProof.Rows L2
abbrev hkH : PySem.W.Hook := hookH 4 faL fnL tbL
def obH (s : PySem.W.SharedT) : He.AlD := obsH 4 faL fnL tbL (HandSHeadRun.getT s)
theorem obH_eq (s : PySem.W.SharedT) : obH s = hkH.obs s.abs := obsH_eq (HandSHeadRun.getT_eq s)
theorem runH (w : World) : HandSHeadRun.RunEq RH (PySem.W.view RH.prog [40]) hkH obH 20000 nmL w := run_of (runS w) fun os => obs_run (all_run (runF0 w os) (all_run (runF1 w os) (runF2 w os))) (runD w os)
end KX
open PySem PySem.W PySem.Calls PyProof.Rows
set_option maxHeartbeats 0 in
theorem PySem.Challenge.cw_groupsteps_k16_wrong_windows_and_texts_holds : PySem.Challenge.rw_groupsteps_k16_wrong_windows_and_texts.Holds := by
  w_on; o_law
  refine HandSHeadRun.head_any (r := OpenLaw.row PySem.Challenge.rw_groupsteps_k16_wrong_windows_and_texts) (q := view (OpenLaw.row PySem.Challenge.rw_groupsteps_k16_wrong_windows_and_texts).prog [40]) (H := KX.hkH) (ob := KX.obH) (M := 20000) (loose := KX.nmL) (d := HandSHeadRun.topDef (OpenLaw.row PySem.Challenge.rw_groupsteps_k16_wrong_windows_and_texts).prog 40) (kwd := []) KX.obH_eq
    (by kernel_rfl) (fun s => by kernel_rfl) KX.runH (by kernel_rfl) (by kernel_rfl) (by kernel_rfl) (by rfl) (by first | assumption | decide +kernel) (by decide +kernel) ⟨rfl, rfl, rfl, rfl, rfl, by decide +kernel⟩ ?hw ?hc
  case hw => w_witness2
  case hc =>
    refine KX.walkGE (l := PySem.Challenge.rw_groupsteps_k16_wrong_windows_and_texts) (n := 63) (k := 13) (x := "_law_script") (CX := fun _ => L2.CX0) rfl (by decide) (by kernel_rfl) ⟨rfl, by decide, by decide⟩ ?F (fun _ _ _ _ _ z => z)
    intro w mg fa h Y G hmg0
    obtain ⟨K, c⟩ := Y
    have hmg : mg ("law" : PySem.Str) = some (.ref fa) := by
      have e : (HandSHeadRun.topDef (OpenLaw.row PySem.Challenge.rw_groupsteps_k16_wrong_windows_and_texts).prog 40).name = ("law" : PySem.Str) := by kernel_rfl
      rw [← e]
      exact hmg0
    exact ⟨K, c.inK, KX.facts G hmg c⟩

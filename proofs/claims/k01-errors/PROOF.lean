import PyProof.Rows.All
import Wide.All
import OpenK.AllK
import Wide.FinOn
import HandS.HeadHook1
import HandS.HeadHook2
import KE.KExcInit
import KE.KExcSuper
import KE.KExcIs
import HandS.Head0
import HandS.Head1
import HandS.Head2
import HandS.Words
import HandS.ForMost
import HandS.Walk
import HandS.Evl
import HandS.Exc
import HandS.Lambda
import HandS.IsInst
import HandS.Style
import HandS.TupAny
import PyProof.NeKinds
import PyProof.P3Eq
import HandS.Conv
import HandS.RaiseMore
import PyProof.ReprRoads
import HandS.Iter
import HandS.Zip
import KE.GoesEnum
import HandS.Flow
import HandS.Text
import HandS.Codes
import HandS.Ends
import HandS.ExcInit
import HandS.Nested
import HandS.ExcField
import KE.KTryMore
import HandS.ExcValue
import PyProof.Rows.SetFrom
import HandS.More
import PyProof.Rows.SortShellAny
import HandS.Strs
import HandS.WordsDict
import HandS.Defaults
import HandS.EndTab
import PyProof.ExcBaseAll.ValueError
import PyProof.ExcBaseAll.RuntimeError
import PyProof.ExcBaseAll.LookupError
import PyProof.ExcBaseAll.OverflowError
import PySem.Challenge.RW_noteskept_k01_errors
set_option Elab.async false
/-! Tb: the defs of this law that make lambdas -/
namespace Mi
open PySem
def tblNames : List Str := []
end Mi
set_option Elab.async false
set_option linter.all false
set_option maxRecDepth 100000
set_option maxHeartbeats 2000000
/-! V0: what is looked at in the head's heap -/
namespace Mi
open PySem PySem.Spec L2
open PyProof.Rows hiding St
/-- a class of the program: its name, its fields, its own and its bases' names; own: it has its own __init__ -/
structure ClI where
  nm : Str
  fs : List Str
  mro : List Str
  own : Bool
  /-- a builtin class -/
  b : Option String := none
  /-- orders of keywords -/
  kos : List (List Str × List Nat) := []
def ClI.v (K : PySem.W.Frag) (t : ClI) : Value := match t.b with
  | some n => .type n
  | none => .ref (He.ga K t.nm)
def ClI.vv (K : PySem.W.Frag) (t : ClI) : V := match t.b with
  | some n => .ty n
  | none => .ref (He.ga K t.nm)
/-- the table of code objects of the def x -/
def tabA (K : PySem.W.Frag) (x : Str) : Addr := match K.lookup (He.ga K x) with
  | some ⟨_, _, .func fd, _⟩ => (match fd.code with
    | .ref c => (match K.lookup c with
      | some ⟨_, _, .fields vs, _⟩ => (match (vs[11]? : Option Value) with
        | some (.ref P) => P
        | _ => 0)
      | _ => 0)
    | _ => 0)
  | _ => 0
/-- the tables of the defs that make lambdas, and the name of what they make -/
def tblT (K : PySem.W.Frag) : List (Addr × Str) := tblNames.map fun x => (tabA K x, x ++ ".<locals>." ++ "<lambda>")
/-- the built-in bases -/
inductive Bas where
  | val | run | look | over
def Bas.nm : Bas → String
  | .val => "ValueError" | .run => "RuntimeError" | .look => "LookupError" | .over => "OverflowError"
def Bas.nw : Bas → String
  | .val => "ValueError.__new__" | .run => "RuntimeError.__new__" | .look => "LookupError.__new__" | .over => "OverflowError.__new__"
def Bas.ini : Bas → String
  | .val => "ValueError.__init__" | .run => "RuntimeError.__init__" | .look => "LookupError.__init__" | .over => "OverflowError.__init__"
def Bas.bm : Bas → List Value
  | .val => [.type "ValueError", .type "Exception", .type "BaseException", .type "object"]
  | .run => [.type "RuntimeError", .type "Exception", .type "BaseException", .type "object"]
  | .look => [.type "LookupError", .type "Exception", .type "BaseException", .type "object"]
  | .over => [.type "OverflowError", .type "ArithmeticError", .type "Exception", .type "BaseException", .type "object"]
/-- a class of the text -/
structure ClD where
  nm : Str
  fs : List Str
  mro : List Str
  own : Bool
  b : Option String
  kos : List (List Str × List Nat)
  bas : Bas
  qual : Str
  params : Arguments
  body : List Stmt
  scope : Scope
def ClD.i (c : ClD) : ClI := ⟨c.nm, c.fs, c.mro, c.own, c.b, c.kos⟩
def oexB (K : PySem.W.Frag) (C : Addr) (b : Bas) : Bool :=
  PySem.W.excInitIn K C b.bm b.nw && (PySem.W.excOver K C b.bm && (PySem.W.hasDictIn K C && (He.eqO (PySem.W.findIn K (.ref C) "__setattr__") (some (some (.builtin "object.__setattr__"))) && (decide (PySem.W.subIn K (.ref C) (.type "BaseException") = some true) &&
    (decide (PySem.W.subIn K (.ref C) (.type b.nm) = some true) && (decide (PySem.W.typeIn K (.ref C) = some (.type "type")) && PySem.W.keepIn K (.ref C)))))))
def isB (K : PySem.W.Frag) (C : Addr) : Bool :=
  (PySem.W.clsIn K C).isSome && (He.eqO (PySem.W.findIn K (.ref C) "__getattribute__") (some (some (.builtin "BaseException.__getattribute__"))) && (He.eqO (PySem.W.findIn K (.ref C) "__getattr__") (some none) && (decide (PySem.W.subIn K (.ref C) (.type "BaseException") = some true) &&
    (PySem.W.hasDictIn K C && (He.eqO (PySem.W.findIn K (.ref C) "__class__") (some (some (.builtin "object.__class__"))) && (He.eqO (PySem.W.specialIn K (.builtin "object.__class__") "__get__") (some (some (.builtin "getset_descriptor.__get__"))) &&
      (decide (PySem.W.takesIn K (.builtin "object.__class__") = some true) && decide (PySem.W.mroIn K C (.type "object") = some true))))))))
def codeB (K : PySem.W.Frag) (file : Str) : Value → Bool
  | .ref cda => (match K.lookup cda with
    | some ⟨_, _, .fields vs, _⟩ => (match (vs[2]? : Option Value) with
      | some (.str f _) => file == f
      | _ => false)
    | _ => false)
  | _ => false
def closB (K : PySem.W.Frag) (C : Addr) : List (Str × Addr) → Bool
  | [(n, cc)] => decide (n = "__class__") && (match K.lookup cc with
    | some ⟨_, _, .cell (some (.ref D)), _⟩ => decide (D = C)
    | _ => false)
  | _ => false
def iniA (K : PySem.W.Frag) (C : Addr) : Addr := He.ma K C "__init__"
def ownB (K : PySem.W.Frag) (file : Str) (c : ClD) (C : Addr) : Bool :=
  oexB K C c.bas && (decide (PySem.W.ks_superIn K C C "__init__" = some (some (.builtin c.bas.ini))) && (decide (PySem.W.nsIn K cStatics "thirdparty.any" = some none) && (decide (PySem.W.findIn K (.ref C) "__init__" = some (some (.ref (iniA K C)))) &&
    (decide (PySem.W.typeIn K (.ref (iniA K C)) = some (.type "function")) && ((He.Fa.free "super").ok K && (match K.lookup (iniA K C) with
      | some ⟨_, _, .func fd, _⟩ => (match fd.defaults with
        | .none => true
        | _ => false) && (PySem.W.codeIn K fd.code c.qual && (codeB K file fd.code && closB K C fd.closure))
      | _ => false))))))
abbrev ClV : Type := Option (Str × Str × Arguments × FuncBody × Scope × Addr × Addr)
def clV (K : PySem.W.Frag) (C : Addr) : ClV := match K.lookup (iniA K C) with
  | some ⟨_, _, .func fd, _⟩ => some (fd.name, fd.qualname, fd.params, fd.body, fd.scope, fd.globals, fd.builtins)
  | _ => none
def ClD.val (c : ClD) : ClV := some ("__init__", c.qual, c.params, .stmts c.body, c.scope, mainGlobals, builtinsNs)
/-- one class -/
def clB (K : PySem.W.Frag) (file : Str) (cs : List ClD) (c : ClD) : Bool := match c.b with
  | some n => (He.Fa.free c.nm).ok K && (decide (bootBuiltins c.nm = some (.type n)) && decide (c.nm ≠ "__name__"))
  | none => (He.Fa.glo c.nm).ok K && (isB K (He.ga K c.nm) && (c.fs.all (fun f => He.eqO (PySem.W.findIn K (.ref (He.ga K c.nm)) f) (some none)) && (cs.all (fun t => decide (PySem.W.kitOne K (.ref (He.ga K c.nm)) (t.i.v K) = some (c.mro.contains t.nm)) && decide (PySem.W.exmOne K (.ref (He.ga K c.nm)) (t.i.v K) = some (c.mro.contains t.nm))) &&
    (!c.own || ownB K file c (He.ga K c.nm)))))
/-! ### the Hook -/
def asX (g : Addr → Option Obj) : Nat → List Addr
  | 0 => [mainGlobals, cStatics]
  | n + 1 => He.growD g (asX g n)
abbrev AlX : Type := He.AlD × Bool × List ClV
def ownsOf (cs : List ClD) : List ClD := cs.filter fun c => c.own && c.b.isNone
def obsX (file : Str) (fa : List He.Fa) (fn : List He.DefD) (cs : List ClD) (K : PySem.W.Frag) : AlX := (He.obsD fa fn K, cs.all (fun c => clB K file cs c), (ownsOf cs).map fun c => clV K (He.ga K c.nm))
def valX (fn : List He.DefD) (cs : List ClD) : AlX := (He.valD fn, true, (ownsOf cs).map ClD.val)
def SaysX (file : Str) (fa : List He.Fa) (fn : List He.DefD) (cs : List ClD) (K : PySem.W.Frag) : Prop := obsX file fa fn cs K = valX fn cs
/-- the code object of the def x -/
def codA (K : PySem.W.Frag) (x : Str) : Addr := match K.lookup (He.ga K x) with
  | some ⟨_, _, .func fd, _⟩ => (match fd.code with
    | .ref c => c
    | _ => 0)
  | _ => 0
def csOf (K : PySem.W.Frag) : List (Addr × Addr) := tblNames.map fun x => (codA K x, tabA K x)
def refB (v : Value) (P : Addr) : Bool := match v with
  | .ref Q => decide (Q = P)
  | _ => false
def isStr : Value → Bool
  | .str _ _ => true
  | _ => false
def isIntV : Value → Bool
  | .int _ _ => true
  | _ => false
def isBoolV : Value → Bool
  | .bool _ => true
  | _ => false
def hdB (K : PySem.W.Frag) (c P : Addr) : Bool := match K.lookup c with
  | some ⟨.type n, _, .fields vs, _⟩ => decide (n = "code") && (decide (11 < vs.size) && (refB (vs.getD 11 .none) P && (isStr (vs.getD 18 .none) && (isIntV (vs.getD 7 .none) && (isBoolV (vs.getD 9 .none) && (isIntV (vs.getD 10 .none) && decide (c ≠ P)))))))
  | _ => false
def emB (o : Option Obj) : Bool := match o with
  | some ⟨.none, none, .fields a, sl⟩ => a.isEmpty && sl.isEmpty
  | _ => false
theorem emB_ok {o : Option Obj} (h : emB o = true) : o = some { cls := .none, data := .fields #[] } := by
  unfold emB at h
  split at h
  · rename_i a sl
    obtain ⟨h1, h2⟩ := He.ba h
    have h1 := Array.isEmpty_iff.mp h1
    have h2 := Array.isEmpty_iff.mp h2
    subst h1 h2
    rfl
  · cases h
def tabB (g : Addr → Option Obj) (K : PySem.W.Frag) (x : Str) : Bool := emB (g (tabA K x)) && ((K.lookup (tabA K x)).isNone && hdB K (codA K x) (tabA K x))
/-- the tables are there, empty, and not in the written part -/
def TbOk (K : PySem.W.Frag) (h : Heap) : Prop := ∀ x ∈ tblNames, h.get? (tabA K x) = some { cls := .none, data := .fields #[] } ∧ K.lookup (tabA K x) = none ∧ hdB K (codA K x) (tabA K x) = true
theorem tbOk_of {K : PySem.W.Frag} {h : Heap} (q : (tblNames.all fun x => tabB h.get? K x) = true) : TbOk K h := fun x hx => by
  have := List.all_eq_true.mp q x hx
  obtain ⟨h1, h2⟩ := He.ba this
  obtain ⟨h2, h3⟩ := He.ba h2
  exact ⟨emB_ok h1, by simpa using h2, h3⟩
abbrev AlY : Type := AlX × Bool
def frT (g : Addr → Option Obj) (l : List Addr) : PySem.W.Frag := He.frG g (l.filter fun a => !(tblNames.map (tabA (He.frG g l))).contains a)
theorem frT_in {l : List Addr} {h : Heap} : (frT h.get? l).In h := He.frG_in
def obsY (file : Str) (fa : List He.Fa) (fn : List He.DefD) (cs : List ClD) (g : Addr → Option Obj) (K : PySem.W.Frag) : AlY := (obsX file fa fn cs K, tblNames.all fun x => tabB g K x)
def obsXG (n : Nat) (file : Str) (fa : List He.Fa) (fn : List He.DefD) (cs : List ClD) (g : Addr → Option Obj) : AlY := obsY file fa fn cs g (frT g (asX g n))
def hookX (n : Nat) (file : Str) (fa : List He.Fa) (fn : List He.DefD) (cs : List ClD) : PySem.W.Hook where
  α := AlY
  obs := fun s => obsXG n file fa fn cs s.heap.get?
  val := fun _ => (valX fn cs, true)
  says := fun _ h => ∃ K : PySem.W.Frag, K.In h ∧ SaysX file fa fn cs K ∧ TbOk K h
  of := fun _ _ e => ⟨_, frT_in, congrArg (fun z : AlY => z.1) e, tbOk_of (congrArg (fun z : AlY => z.2) e)⟩
  keeps := fun _ _ _ ⟨K, hK, c, t⟩ k => ⟨K, PySem.W.Frag.In.keeps hK k, c, fun x hx => ⟨k _ _ (t x hx).1, (t x hx).2⟩⟩
theorem obsXG_eq {n : Nat} {file : Str} {fa : List He.Fa} {fn : List He.DefD} {cs : List ClD} {g : Addr → Option Obj} {s : Shared} (h : ∀ a, g a = s.heap.get? a) : obsXG n file fa fn cs g = (hookX n file fa fn cs).obs s := by
  have e : g = s.heap.get? := funext h
  rw [e] <;> rfl
end Mi
set_option Elab.async false
set_option linter.all false
set_option maxRecDepth 100000
set_option maxHeartbeats 0
namespace Lwk01
open PySem PySem.Spec PyProof.Rows L2
def top (i : Nat) : Stmt := PySem.Challenge.pw_noteskept_k01_errors.main.body.getD i (.Pass ⟨0, 0, 0, 0⟩)
def d_law_pen : He.DefD := ⟨("_law_pen", none), "_law_pen", "_law_pen", defArgs (top 44), defBody (top 44), defScope (top 44), [], []⟩
def d_law_draw : He.DefD := ⟨("_law_draw", none), "_law_draw", "_law_draw", defArgs (top 45), defBody (top 45), defScope (top 45), [], []⟩
def d_law_pick : He.DefD := ⟨("_law_pick", none), "_law_pick", "_law_pick", defArgs (top 46), defBody (top 46), defScope (top 46), [], []⟩
def d_law_odd : He.DefD := ⟨("_law_odd", none), "_law_odd", "_law_odd", defArgs (top 47), defBody (top 47), defScope (top 47), [], []⟩
def d_law_made : He.DefD := ⟨("_law_made", none), "_law_made", "_law_made", defArgs (top 48), defBody (top 48), defScope (top 48), [], []⟩
def d_law_marks : He.DefD := ⟨("_law_marks", none), "_law_marks", "_law_marks", defArgs (top 49), defBody (top 49), defScope (top 49), [], []⟩
def d_law_bases : He.DefD := ⟨("_law_bases", none), "_law_bases", "_law_bases", defArgs (top 50), defBody (top 50), defScope (top 50), [], []⟩
def d_law_kept : He.DefD := ⟨("_law_kept", none), "_law_kept", "_law_kept", defArgs (top 51), defBody (top 51), defScope (top 51), [], []⟩
def d_law_kept_by_name : He.DefD := ⟨("_law_kept_by_name", none), "_law_kept_by_name", "_law_kept_by_name", defArgs (top 52), defBody (top 52), defScope (top 52), [], []⟩
def d_law : He.DefD := ⟨("law", none), "law", "law", defArgs (top 53), defBody (top 53), defScope (top 53), [], []⟩
def dfs0 : List (He.DefD) := [d_law_pen, d_law_draw, d_law_pick, d_law_odd, d_law_made, d_law_marks, d_law_bases, d_law_kept, d_law_kept_by_name, d_law]
def dfs : List (He.DefD) := dfs0
def fcs0 : List (He.Fa) := [.glo "_law_pen", .glo "_law_draw", .glo "_law_pick", .glo "_law_odd", .glo "_law_made", .glo "_law_marks", .glo "_law_bases", .glo "_law_kept", .glo "_law_kept_by_name", .glo "law", .free "len", .free "abs", .free "int", .free "sum", .free "all", .free "any", .free "max", .free "min", .free "str", .free "repr", .free "list", .free "tuple", .free "isinstance", .free "range", .free "enumerate", .free "zip", .free "bool", .free "dict", .free "sorted", .free "set"]
def fcs : List (He.Fa) := fcs0
def lse0 : List (Str) := ["HoldError", "TurnError", "AbsentError", "SizeError", "InvalidKey", "InvalidValue", "InvalidView", "InvalidLoss", "InvalidPages", "InvalidRow", "InvalidText", "Barred", "Unplayed", "InvalidAccounts", "Unfit", "InvalidQuestion", "InvalidMoment", "InvalidMost", "Lied", "UnknownCommand", "NameTaken", "Ended", "NotOuter", "Unasked", "Occupied", "Busy", "Blocked", "Taken", "NoKey", "NoPage"]
def lse1 : List (Str) := ["NoSlot", "NotDead", "NotPrepared", "NotSpan", "NotCleaning", "NoNumber", "NoTransaction", "NoRun", "NoAccount", "Full", "TooDeep", "TooLong", "_law_pen", "_law_draw", "_law_pick", "_law_odd", "_law_made", "_law_marks", "_law_bases", "_law_kept", "_law_kept_by_name"]
def lse : List (Str) := lse0 ++ lse1
abbrev row : PySem.W.OpenRow := PySem.W.OpenLaw.row PySem.Challenge.rw_noteskept_k01_errors
abbrev prg : Program := PySem.W.OpenLaw.prog PySem.Challenge.rw_noteskept_k01_errors
def ini (s : Stmt) : Stmt := match s with
  | .ClassDef _ _ _ body _ _ _ _ _ _ _ => (body.find? fun b => match b with
    | .FunctionDef .. => true
    | _ => false).getD (.Pass ⟨0, 0, 0, 0⟩)
  | _ => .Pass ⟨0, 0, 0, 0⟩
def k_HoldError : Mi.ClD := ⟨"HoldError", [], ["HoldError", "ValueError"], false, none, [], .val, "HoldError.__init__", defArgs (ini (top 1)), defBody (ini (top 1)), defScope (ini (top 1))⟩
def k_TurnError : Mi.ClD := ⟨"TurnError", [], ["TurnError", "RuntimeError"], false, none, [], .run, "TurnError.__init__", defArgs (ini (top 2)), defBody (ini (top 2)), defScope (ini (top 2))⟩
def k_AbsentError : Mi.ClD := ⟨"AbsentError", [], ["AbsentError", "LookupError"], false, none, [], .look, "AbsentError.__init__", defArgs (ini (top 3)), defBody (ini (top 3)), defScope (ini (top 3))⟩
def k_SizeError : Mi.ClD := ⟨"SizeError", [], ["SizeError", "OverflowError"], false, none, [], .over, "SizeError.__init__", defArgs (ini (top 4)), defBody (ini (top 4)), defScope (ini (top 4))⟩
def k_InvalidKey : Mi.ClD := ⟨"InvalidKey", ["value"], ["InvalidKey", "HoldError", "ValueError"], true, none, [(["value"], [0])], .val, "InvalidKey.__init__", defArgs (ini (top 5)), defBody (ini (top 5)), defScope (ini (top 5))⟩
def k_InvalidValue : Mi.ClD := ⟨"InvalidValue", ["value"], ["InvalidValue", "HoldError", "ValueError"], true, none, [(["value"], [0])], .val, "InvalidValue.__init__", defArgs (ini (top 6)), defBody (ini (top 6)), defScope (ini (top 6))⟩
def k_InvalidView : Mi.ClD := ⟨"InvalidView", ["value"], ["InvalidView", "HoldError", "ValueError"], true, none, [(["value"], [0])], .val, "InvalidView.__init__", defArgs (ini (top 7)), defBody (ini (top 7)), defScope (ini (top 7))⟩
def k_InvalidLoss : Mi.ClD := ⟨"InvalidLoss", ["value"], ["InvalidLoss", "HoldError", "ValueError"], true, none, [(["value"], [0])], .val, "InvalidLoss.__init__", defArgs (ini (top 8)), defBody (ini (top 8)), defScope (ini (top 8))⟩
def k_InvalidPages : Mi.ClD := ⟨"InvalidPages", ["value"], ["InvalidPages", "HoldError", "ValueError"], true, none, [(["value"], [0])], .val, "InvalidPages.__init__", defArgs (ini (top 9)), defBody (ini (top 9)), defScope (ini (top 9))⟩
def k_InvalidRow : Mi.ClD := ⟨"InvalidRow", ["index"], ["InvalidRow", "HoldError", "ValueError"], true, none, [(["index"], [0])], .val, "InvalidRow.__init__", defArgs (ini (top 10)), defBody (ini (top 10)), defScope (ini (top 10))⟩
def k_InvalidText : Mi.ClD := ⟨"InvalidText", ["line", "word"], ["InvalidText", "HoldError", "ValueError"], true, none, [(["word", "line"], [1, 0])], .val, "InvalidText.__init__", defArgs (ini (top 11)), defBody (ini (top 11)), defScope (ini (top 11))⟩
def k_Barred : Mi.ClD := ⟨"Barred", ["bar"], ["Barred", "HoldError", "ValueError"], true, none, [(["bar"], [0])], .val, "Barred.__init__", defArgs (ini (top 12)), defBody (ini (top 12)), defScope (ini (top 12))⟩
def k_Unplayed : Mi.ClD := ⟨"Unplayed", ["index"], ["Unplayed", "HoldError", "ValueError"], true, none, [(["index"], [0])], .val, "Unplayed.__init__", defArgs (ini (top 13)), defBody (ini (top 13)), defScope (ini (top 13))⟩
def k_InvalidAccounts : Mi.ClD := ⟨"InvalidAccounts", ["index"], ["InvalidAccounts", "HoldError", "ValueError"], true, none, [(["index"], [0])], .val, "InvalidAccounts.__init__", defArgs (ini (top 14)), defBody (ini (top 14)), defScope (ini (top 14))⟩
def k_Unfit : Mi.ClD := ⟨"Unfit", ["account", "run"], ["Unfit", "HoldError", "ValueError"], true, none, [(["run", "account"], [1, 0])], .val, "Unfit.__init__", defArgs (ini (top 15)), defBody (ini (top 15)), defScope (ini (top 15))⟩
def k_InvalidQuestion : Mi.ClD := ⟨"InvalidQuestion", ["value"], ["InvalidQuestion", "HoldError", "ValueError"], true, none, [(["value"], [0])], .val, "InvalidQuestion.__init__", defArgs (ini (top 16)), defBody (ini (top 16)), defScope (ini (top 16))⟩
def k_InvalidMoment : Mi.ClD := ⟨"InvalidMoment", ["moment"], ["InvalidMoment", "HoldError", "ValueError"], true, none, [(["moment"], [0])], .val, "InvalidMoment.__init__", defArgs (ini (top 17)), defBody (ini (top 17)), defScope (ini (top 17))⟩
def k_InvalidMost : Mi.ClD := ⟨"InvalidMost", ["most"], ["InvalidMost", "HoldError", "ValueError"], true, none, [(["most"], [0])], .val, "InvalidMost.__init__", defArgs (ini (top 18)), defBody (ini (top 18)), defScope (ini (top 18))⟩
def k_Lied : Mi.ClD := ⟨"Lied", ["lie"], ["Lied", "HoldError", "ValueError"], true, none, [(["lie"], [0])], .val, "Lied.__init__", defArgs (ini (top 19)), defBody (ini (top 19)), defScope (ini (top 19))⟩
def k_UnknownCommand : Mi.ClD := ⟨"UnknownCommand", [], ["UnknownCommand", "HoldError", "ValueError"], true, none, [], .val, "UnknownCommand.__init__", defArgs (ini (top 20)), defBody (ini (top 20)), defScope (ini (top 20))⟩
def k_NameTaken : Mi.ClD := ⟨"NameTaken", ["name"], ["NameTaken", "HoldError", "ValueError"], true, none, [(["name"], [0])], .val, "NameTaken.__init__", defArgs (ini (top 21)), defBody (ini (top 21)), defScope (ini (top 21))⟩
def k_Ended : Mi.ClD := ⟨"Ended", [], ["Ended", "TurnError", "RuntimeError"], true, none, [], .run, "Ended.__init__", defArgs (ini (top 22)), defBody (ini (top 22)), defScope (ini (top 22))⟩
def k_NotOuter : Mi.ClD := ⟨"NotOuter", [], ["NotOuter", "TurnError", "RuntimeError"], true, none, [], .run, "NotOuter.__init__", defArgs (ini (top 23)), defBody (ini (top 23)), defScope (ini (top 23))⟩
def k_Unasked : Mi.ClD := ⟨"Unasked", ["account", "run", "note"], ["Unasked", "TurnError", "RuntimeError"], true, none, [(["note", "run", "account"], [2, 1, 0])], .run, "Unasked.__init__", defArgs (ini (top 24)), defBody (ini (top 24)), defScope (ini (top 24))⟩
def k_Occupied : Mi.ClD := ⟨"Occupied", [], ["Occupied", "TurnError", "RuntimeError"], true, none, [], .run, "Occupied.__init__", defArgs (ini (top 25)), defBody (ini (top 25)), defScope (ini (top 25))⟩
def k_Busy : Mi.ClD := ⟨"Busy", ["number"], ["Busy", "TurnError", "RuntimeError"], true, none, [(["number"], [0])], .run, "Busy.__init__", defArgs (ini (top 26)), defBody (ini (top 26)), defScope (ini (top 26))⟩
def k_Blocked : Mi.ClD := ⟨"Blocked", ["number"], ["Blocked", "TurnError", "RuntimeError"], true, none, [(["number"], [0])], .run, "Blocked.__init__", defArgs (ini (top 27)), defBody (ini (top 27)), defScope (ini (top 27))⟩
def k_Taken : Mi.ClD := ⟨"Taken", ["key"], ["Taken", "TurnError", "RuntimeError"], true, none, [(["key"], [0])], .run, "Taken.__init__", defArgs (ini (top 28)), defBody (ini (top 28)), defScope (ini (top 28))⟩
def k_NoKey : Mi.ClD := ⟨"NoKey", ["key"], ["NoKey", "AbsentError", "LookupError"], true, none, [(["key"], [0])], .look, "NoKey.__init__", defArgs (ini (top 29)), defBody (ini (top 29)), defScope (ini (top 29))⟩
def k_NoPage : Mi.ClD := ⟨"NoPage", ["page"], ["NoPage", "AbsentError", "LookupError"], true, none, [(["page"], [0])], .look, "NoPage.__init__", defArgs (ini (top 30)), defBody (ini (top 30)), defScope (ini (top 30))⟩
def k_NoSlot : Mi.ClD := ⟨"NoSlot", ["slot"], ["NoSlot", "AbsentError", "LookupError"], true, none, [(["slot"], [0])], .look, "NoSlot.__init__", defArgs (ini (top 31)), defBody (ini (top 31)), defScope (ini (top 31))⟩
def k_NotDead : Mi.ClD := ⟨"NotDead", ["slot"], ["NotDead", "AbsentError", "LookupError"], true, none, [(["slot"], [0])], .look, "NotDead.__init__", defArgs (ini (top 32)), defBody (ini (top 32)), defScope (ini (top 32))⟩
def k_NotPrepared : Mi.ClD := ⟨"NotPrepared", ["number"], ["NotPrepared", "AbsentError", "LookupError"], true, none, [(["number"], [0])], .look, "NotPrepared.__init__", defArgs (ini (top 33)), defBody (ini (top 33)), defScope (ini (top 33))⟩
def k_NotSpan : Mi.ClD := ⟨"NotSpan", ["row"], ["NotSpan", "AbsentError", "LookupError"], true, none, [(["row"], [0])], .look, "NotSpan.__init__", defArgs (ini (top 34)), defBody (ini (top 34)), defScope (ini (top 34))⟩
def k_NotCleaning : Mi.ClD := ⟨"NotCleaning", ["row"], ["NotCleaning", "AbsentError", "LookupError"], true, none, [(["row"], [0])], .look, "NotCleaning.__init__", defArgs (ini (top 35)), defBody (ini (top 35)), defScope (ini (top 35))⟩
def k_NoNumber : Mi.ClD := ⟨"NoNumber", ["number"], ["NoNumber", "AbsentError", "LookupError"], true, none, [(["number"], [0])], .look, "NoNumber.__init__", defArgs (ini (top 36)), defBody (ini (top 36)), defScope (ini (top 36))⟩
def k_NoTransaction : Mi.ClD := ⟨"NoTransaction", ["number"], ["NoTransaction", "AbsentError", "LookupError"], true, none, [(["number"], [0])], .look, "NoTransaction.__init__", defArgs (ini (top 37)), defBody (ini (top 37)), defScope (ini (top 37))⟩
def k_NoRun : Mi.ClD := ⟨"NoRun", ["account", "run"], ["NoRun", "AbsentError", "LookupError"], true, none, [(["run", "account"], [1, 0])], .look, "NoRun.__init__", defArgs (ini (top 38)), defBody (ini (top 38)), defScope (ini (top 38))⟩
def k_NoAccount : Mi.ClD := ⟨"NoAccount", ["name"], ["NoAccount", "AbsentError", "LookupError"], true, none, [(["name"], [0])], .look, "NoAccount.__init__", defArgs (ini (top 39)), defBody (ini (top 39)), defScope (ini (top 39))⟩
def k_Full : Mi.ClD := ⟨"Full", [], ["Full", "SizeError", "OverflowError"], true, none, [], .over, "Full.__init__", defArgs (ini (top 40)), defBody (ini (top 40)), defScope (ini (top 40))⟩
def k_TooDeep : Mi.ClD := ⟨"TooDeep", ["limit"], ["TooDeep", "SizeError", "OverflowError"], true, none, [(["limit"], [0])], .over, "TooDeep.__init__", defArgs (ini (top 41)), defBody (ini (top 41)), defScope (ini (top 41))⟩
def k_TooLong : Mi.ClD := ⟨"TooLong", ["limit"], ["TooLong", "SizeError", "OverflowError"], true, none, [(["limit"], [0])], .over, "TooLong.__init__", defArgs (ini (top 42)), defBody (ini (top 42)), defScope (ini (top 42))⟩
def k_OverflowError : Mi.ClD := ⟨"OverflowError", [], [], false, some "OverflowError", [], .val, "", defArgs (.Pass ⟨0, 0, 0, 0⟩), [], defScope (.Pass ⟨0, 0, 0, 0⟩)⟩
def k_LookupError : Mi.ClD := ⟨"LookupError", [], [], false, some "LookupError", [], .val, "", defArgs (.Pass ⟨0, 0, 0, 0⟩), [], defScope (.Pass ⟨0, 0, 0, 0⟩)⟩
def k_RuntimeError : Mi.ClD := ⟨"RuntimeError", [], [], false, some "RuntimeError", [], .val, "", defArgs (.Pass ⟨0, 0, 0, 0⟩), [], defScope (.Pass ⟨0, 0, 0, 0⟩)⟩
def k_ValueError : Mi.ClD := ⟨"ValueError", [], [], false, some "ValueError", [], .val, "", defArgs (.Pass ⟨0, 0, 0, 0⟩), [], defScope (.Pass ⟨0, 0, 0, 0⟩)⟩
def cds : List Mi.ClD := [k_HoldError, k_TurnError, k_AbsentError, k_SizeError, k_InvalidKey, k_InvalidValue, k_InvalidView, k_InvalidLoss, k_InvalidPages, k_InvalidRow, k_InvalidText, k_Barred, k_Unplayed, k_InvalidAccounts, k_Unfit, k_InvalidQuestion, k_InvalidMoment, k_InvalidMost, k_Lied, k_UnknownCommand, k_NameTaken, k_Ended, k_NotOuter, k_Unasked, k_Occupied, k_Busy, k_Blocked, k_Taken, k_NoKey, k_NoPage, k_NoSlot, k_NotDead, k_NotPrepared, k_NotSpan, k_NotCleaning, k_NoNumber, k_NoTransaction, k_NoRun, k_NoAccount, k_Full, k_TooDeep, k_TooLong, k_OverflowError, k_LookupError, k_RuntimeError, k_ValueError]
abbrev file : Str := (prg.main.file : Str)
abbrev hok : PySem.W.Hook := Mi.hookX 4 file fcs dfs cds
def obs (s : PySem.W.SharedT) : Mi.AlY := Mi.obsXG 4 file fcs dfs cds (HandSHeadRun.getT s)
theorem obs_eq (s : PySem.W.SharedT) : obs s = hok.obs s.abs := Mi.obsXG_eq (HandSHeadRun.getT_eq s)
theorem run (w : World) : HandSHeadRun.RunEq row (PySem.W.view row.prog [53]) hok obs 60000 lse w := by
  intro os
  kernel_rfl
end Lwk01
set_option Elab.async false
set_option linter.all false
set_option maxRecDepth 100000
set_option maxHeartbeats 2000000
/-! M1: plain data, what it looks like in the abstract heap, slots -/
namespace Mi
open PySem L2

/-- plain data -/
inductive D where
  | non | bl (b : Bool) | int (i : Int) | str (s : List Nat) | lst (xs : List D) | tup (xs : List D) | dct (kvs : List (D × D)) | frz (xs : List D) | ref (l : Nat) | exc (c : Str) (fs : List (Str × D))

/-- the written part, and the addresses that may be written -/
structure RC where
  K : PySem.W.Frag
  M : Addr → Prop

def LsAt (R : RC) (H : Hp) (a : Addr) (xs : List V) : Prop := H a = some (.lst xs) ∧ ¬ R.M a
/-- a list that is known to the object, read and never written -/
def FzAt (R : RC) (H : Hp) (a : Addr) (xs : List V) : Prop := ((∃ o, H a = some (.frz o (.lst xs))) ∧ ¬ R.M a) ∨ SqL R.K (fun _ => none) a xs
def DcAt (R : RC) (H : Hp) (a : Addr) (kvs : List (Key × V)) : Prop := H a = some (.dK kvs) ∧ ¬ R.M a
/-- an exception that is held as a value: its class, its dict -/
def exw (a C : Addr) (d : Option Addr) : HO := .ext fun h => ∃ (oe : Obj) (fv : Array Value), h.get? a = some oe ∧ oe.cls = .ref C ∧ oe.dict = d ∧ oe.data = .fields fv
def ExAt (R : RC) (H : Hp) (a : Addr) (c : Str) (vs : List (Str × V)) : Prop := ∃ d, H a = some (exw a (He.ga R.K c) d) ∧ ¬ R.M a ∧ ((vs = [] ∧ d = none) ∨ ∃ dd, d = some dd ∧ H dd = some (.xd vs) ∧ ¬ R.M dd)
def TpAt (R : RC) (H : Hp) (a : Addr) (xs : List V) : Prop := (Rd H a (.tup xs) ∧ ¬ R.M a) ∨ SqT R.K (fun _ => none) a xs
theorem LsAt.sq {R : RC} {H : Hp} {a : Addr} {xs : List V} (h : LsAt R H a xs) : SqL R.K H a xs := .inl (.inl h.1)
theorem FzAt.sq {R : RC} {H : Hp} {a : Addr} {xs : List V} (h : FzAt R H a xs) : SqL R.K H a xs := by
  rcases h with ⟨h, _⟩ | h | h
  · exact .inl (.inr h)
  · rcases h with h | ⟨_, h⟩ <;> cases h
  · exact .inr h
theorem TpAt.sq {R : RC} {H : Hp} {a : Addr} {xs : List V} (h : TpAt R H a xs) : SqT R.K H a xs := by
  rcases h with ⟨h, _⟩ | h | h
  · exact .inl h
  · rcases h with h | ⟨_, h⟩ <;> cases h
  · exact .inr h

mutual
inductive DR (R : RC) (H : Hp) : D → V → Prop
  | non : DR R H .non .non
  | bl (b : Bool) : DR R H (.bl b) (.bl b)
  | int (i : Int) : DR R H (.int i) (.int i)
  | str (s : List Nat) : DR R H (.str s) (.str ⟨s.toArray⟩)
  | lst {a : Addr} {xs : List V} {ds : List D} : LsAt R H a xs → DRs R H ds xs → DR R H (.lst ds) (.ref a)
  | tup {a : Addr} {xs : List V} {ds : List D} : TpAt R H a xs → DRs R H ds xs → DR R H (.tup ds) (.ref a)
  | frz {a : Addr} {xs : List V} {ds : List D} : FzAt R H a xs → DRs R H ds xs → DR R H (.frz ds) (.ref a)
  | dct {a : Addr} {kvs : List (Key × V)} {ds : List (D × D)} : DcAt R H a kvs → DRs R H (ds.map (·.1)) (kvs.map fun p => kV p.1) → DRs R H (ds.map (·.2)) (kvs.map (·.2)) → DR R H (.dct ds) (.ref a)
  | exc {a : Addr} {c : Str} {vs : List (Str × V)} {fs : List (Str × D)} : ExAt R H a c vs → vs.map (·.1) = fs.map (·.1) → DRs R H (fs.map (·.2)) (vs.map (·.2)) → DR R H (.exc c fs) (.ref a)
inductive DRs (R : RC) (H : Hp) : List D → List V → Prop
  | nil : DRs R H [] []
  | cons {d : D} {v : V} {ds : List D} {vs : List V} : DR R H d v → DRs R H ds vs → DRs R H (d :: ds) (v :: vs)
end

/-- all that is tracked outside O stays, but for the tables -/
def Keep (O : Addr → Prop) (H H' : Hp) : Prop := ∀ a o, H a = some o → ¬ O a → (∀ ps, o ≠ .tbl ps) → H' a = some o
theorem Keep.refl {O : Addr → Prop} {H : Hp} : Keep O H H := fun _ _ h _ _ => h
theorem Keep.of_ex {O : Addr → Prop} {H H' : Hp} (e : Evl.Ex H H') : Keep O H H' := fun a o h _ _ => e a o h
theorem Keep.trans {O O1 : Addr → Prop} {H H1 H2 : Hp} (a : Keep O H H1) (b : Keep O1 H1 H2) (s : ∀ x, O1 x → O x ∨ H x = none) : Keep O H H2 := fun x o h n t =>
  b x o (a x o h n t) (fun z => (s x z).elim n fun q => by rw [h] at q; cases q) t
theorem Keep.mono {O O1 : Addr → Prop} {H H1 : Hp} (a : Keep O H H1) (s : ∀ x, O x → O1 x) : Keep O1 H H1 := fun x o h n => a x o h fun z => n (s x z)

/-- from one context to a later one -/
structure To (R : RC) (H : Hp) (R' : RC) (H' : Hp) : Prop where
  k : R'.K = R.K
  m : ∀ a, R'.M a → R.M a ∨ H a = none
  h : Keep R.M H H'
theorem To.refl {R : RC} {H : Hp} : To R H R H := ⟨rfl, fun _ h => .inl h, Keep.refl⟩
theorem rd_some {H : Hp} {a : Addr} {u : HO} (h : Rd H a u) : ∃ o, H a = some o := by
  rcases h with h | ⟨o, h⟩
  · exact ⟨_, h⟩
  · exact ⟨_, h⟩
theorem Rd.to {R R' : RC} {H H' : Hp} {a : Addr} {u : HO} (t : To R H R' H') (h : Rd H a u) (n : ¬ R.M a) (nt : ∀ ps, u ≠ .tbl ps) : Rd H' a u ∧ ¬ R'.M a := by
  refine ⟨?_, fun z => ?_⟩
  · rcases h with h | ⟨o, h⟩
    · exact .inl (t.h _ _ h n nt)
    · exact .inr ⟨o, t.h _ _ h n nofun⟩
  · obtain ⟨o, e⟩ := rd_some h
    rcases t.m a z with q | q
    · exact n q
    · rw [e] at q; cases q
theorem LsAt.to {R R' : RC} {H H' : Hp} {a : Addr} {xs : List V} (t : To R H R' H') (h : LsAt R H a xs) : LsAt R' H' a xs :=
  ⟨t.h _ _ h.1 h.2 nofun, (Rd.to t (.inl h.1) h.2 nofun).2⟩
theorem DcAt.to {R R' : RC} {H H' : Hp} {a : Addr} {xs : List (Key × V)} (t : To R H R' H') (h : DcAt R H a xs) : DcAt R' H' a xs :=
  ⟨t.h _ _ h.1 h.2 nofun, (Rd.to t (.inl h.1) h.2 nofun).2⟩
theorem FzAt.to {R R' : RC} {H H' : Hp} {a : Addr} {xs : List V} (t : To R H R' H') (h : FzAt R H a xs) : FzAt R' H' a xs := by
  rcases h with ⟨⟨o, h⟩, n⟩ | h
  · exact .inl ⟨⟨o, t.h _ _ h n nofun⟩, (Rd.to t (.inl h) n nofun).2⟩
  · exact .inr (by rw [t.k]; exact h)
theorem TpAt.to {R R' : RC} {H H' : Hp} {a : Addr} {xs : List V} (t : To R H R' H') (h : TpAt R H a xs) : TpAt R' H' a xs := by
  rcases h with ⟨h, n⟩ | h
  · exact .inl (Rd.to t h n nofun)
  · exact .inr (by rw [t.k]; exact h)
theorem exw_nt {a C : Addr} {d : Option Addr} (ps : Array Value) : exw a C d ≠ .tbl ps := fun z => by
  unfold exw at z
  cases z
theorem ExAt.to {R R' : RC} {H H' : Hp} {a : Addr} {c : Str} {vs : List (Str × V)} (t : To R H R' H') (h : ExAt R H a c vs) : ExAt R' H' a c vs := by
  obtain ⟨d, h1, h2, h3⟩ := h
  refine ⟨d, by rw [t.k]; exact t.h _ _ h1 h2 exw_nt, (Rd.to t (.inl h1) h2 exw_nt).2, ?_⟩
  rcases h3 with h3 | ⟨dd, rfl, h4, h5⟩
  · exact .inl h3
  · exact .inr ⟨dd, rfl, t.h _ _ h4 h5 nofun, (Rd.to t (.inl h4) h5 nofun).2⟩
mutual
theorem DR.to {R R' : RC} {H H' : Hp} (t : To R H R' H') : ∀ {d : D} {v : V}, DR R H d v → DR R' H' d v
  | .non, _, .non => .non
  | .bl _, _, .bl b => .bl b
  | .int _, _, .int i => .int i
  | .str _, _, .str s => .str s
  | .lst _, _, .lst h1 h2 => .lst (h1.to t) (DRs.to t h2)
  | .tup _, _, .tup h1 h2 => .tup (h1.to t) (DRs.to t h2)
  | .frz _, _, .frz h1 h2 => .frz (h1.to t) (DRs.to t h2)
  | .dct _, _, .dct h1 h2 h3 => .dct (h1.to t) (DRs.to t h2) (DRs.to t h3)
  | .exc _ _, _, .exc h1 h2 h3 => .exc (h1.to t) h2 (DRs.to t h3)
theorem DRs.to {R R' : RC} {H H' : Hp} (t : To R H R' H') : ∀ {ds : List D} {vs : List V}, DRs R H ds vs → DRs R' H' ds vs
  | [], _, .nil => .nil
  | _ :: _, _, .cons h1 h2 => .cons (DR.to t h1) (DRs.to t h2)
end
theorem To.trans {R R1 R2 : RC} {H H1 H2 : Hp} (a : To R H R1 H1) (b : To R1 H1 R2 H2) (hn : ∀ x, H1 x = none → H x = none) : To R H R2 H2 := by
  refine ⟨b.k.trans a.k, fun x h => ?_, Keep.trans a.h b.h fun x h => a.m x h⟩
  rcases b.m x h with q | q
  · exact a.m x q
  · exact .inr (hn x q)
theorem DRs.len {R : RC} {H : Hp} : ∀ {ds : List D} {vs : List V}, DRs R H ds vs → ds.length = vs.length
  | _, _, .nil => rfl
  | _, _, .cons _ h => by simp [DRs.len h]
theorem DRs.get {R : RC} {H : Hp} : ∀ {ds : List D} {vs : List V} {i : Nat} {d : D}, DRs R H ds vs → ds[i]? = some d → ∃ v, vs[i]? = some v ∧ DR R H d v
  | _, _, _, _, .nil, e => by simp at e
  | _, _, 0, _, .cons r _, e => by
    simp at e; subst e; exact ⟨_, rfl, r⟩
  | _, _, i + 1, d, .cons _ t, e => by
    obtain ⟨v, h1, h2⟩ := DRs.get (i := i) (d := d) t (by simpa using e)
    exact ⟨v, by simpa using h1, h2⟩
theorem DRs.getV {R : RC} {H : Hp} : ∀ {ds : List D} {vs : List V} {i : Nat} {v : V}, DRs R H ds vs → vs[i]? = some v → ∃ d, ds[i]? = some d ∧ DR R H d v
  | _, _, _, _, .nil, e => by simp at e
  | _, _, 0, _, .cons r _, e => by
    simp at e; subst e; exact ⟨_, rfl, r⟩
  | _, _, i + 1, v, .cons _ t, e => by
    obtain ⟨d, h1, h2⟩ := DRs.getV (i := i) (v := v) t (by simpa using e)
    exact ⟨d, by simpa using h1, h2⟩
theorem DRs.append {R : RC} {H : Hp} : ∀ {ds es : List D} {vs ws : List V}, DRs R H ds vs → DRs R H es ws → DRs R H (ds ++ es) (vs ++ ws)
  | _, _, _, _, .nil, s => s
  | _, _, _, _, .cons r t, s => .cons r (DRs.append t s)
theorem DRs.take {R : RC} {H : Hp} : ∀ {ds : List D} {vs : List V} (n : Nat), DRs R H ds vs → DRs R H (ds.take n) (vs.take n)
  | _, _, 0, _ => .nil
  | _, _, _ + 1, .nil => .nil
  | _, _, n + 1, .cons r t => .cons r (DRs.take n t)
theorem DRs.drop {R : RC} {H : Hp} : ∀ {ds : List D} {vs : List V} (n : Nat), DRs R H ds vs → DRs R H (ds.drop n) (vs.drop n)
  | _, _, 0, r => r
  | _, _, _ + 1, .nil => .nil
  | _, _, n + 1, .cons _ t => DRs.drop n t
theorem DRs.set {R : RC} {H : Hp} {d : D} {v : V} (r : DR R H d v) : ∀ {ds : List D} {vs : List V} (i : Nat), DRs R H ds vs → DRs R H (ds.set i d) (vs.set i v)
  | _, _, _, .nil => .nil
  | _, _, 0, .cons _ t => .cons r t
  | _, _, i + 1, .cons q t => .cons q (DRs.set r i t)
theorem DRs.reverse {R : RC} {H : Hp} {ds : List D} {vs : List V} (h : DRs R H ds vs) : DRs R H ds.reverse vs.reverse := by
  induction ds generalizing vs with
  | nil => cases h; exact .nil
  | cons d ds ih =>
    cases h with
    | cons r t =>
      rw [List.reverse_cons, List.reverse_cons]
      exact (ih t).append (.cons r .nil)

/-- what a container of one's own holds -/
inductive Ow where
  | lst (xs : List D) | dct (kvs : List (D × D))
def Ow.toD : Ow → D
  | .lst xs => .lst xs
  | .dct kvs => .dct kvs
/-- a slot: empty; plain data; a container of one's own (l: lent by the caller) -/
inductive Sl where
  | no | v (d : D) | own (l : Bool) (o : Ow)
abbrev En := List Sl

def OwR (R : RC) (H : Hp) : Ow → Addr → Prop
  | .lst ds, a => R.M a ∧ ∃ xs, H a = some (.lst xs) ∧ DRs R H ds xs
  | .dct ds, a => R.M a ∧ ∃ kvs, H a = some (.dK kvs) ∧ DRs R H (ds.map (·.1)) (kvs.map fun p => kV p.1) ∧ DRs R H (ds.map (·.2)) (kvs.map (·.2))
theorem OwR.m {R : RC} {H : Hp} {o : Ow} {a : Addr} (h : OwR R H o a) : R.M a := by
  cases o with
  | lst ds => exact h.1
  | dct kvs => exact h.1
theorem OwR.nt {R : RC} {H : Hp} {o : Ow} {a : Addr} (h : OwR R H o a) {ob : HO} (e : H a = some ob) (ps : Array Value) : ob ≠ .tbl ps := fun z => by
  subst z
  cases o with
  | lst ds =>
    obtain ⟨_, xs, h2, _⟩ := h
    rw [h2] at e
    cases e
  | dct kvs =>
    obtain ⟨_, xs, h2, _⟩ := h
    rw [h2] at e
    cases e
theorem OwR.nx {R : RC} {H : Hp} {o : Ow} {a : Addr} (h : OwR R H o a) {ob : HO} (e : H a = some ob) (φ : Heap → Prop) : ob ≠ .ext φ := fun z => by
  subst z
  cases o with
  | lst ds =>
    obtain ⟨_, xs, h2, _⟩ := h
    rw [h2] at e
    cases e
  | dct kvs =>
    obtain ⟨_, xs, h2, _⟩ := h
    rw [h2] at e
    cases e
/-- the same in a later context, where it stands as it was -/
theorem OwR.to {R R' : RC} {H H' : Hp} (t : To R H R' H') {o : Ow} {a : Addr} (h : OwR R H o a) (m : R'.M a) (e : H' a = H a) : OwR R' H' o a := by
  cases o with
  | lst ds =>
    obtain ⟨h1, xs, h2, h3⟩ := h
    exact ⟨m, xs, e.trans h2, h3.to t⟩
  | dct ds =>
    obtain ⟨h1, kvs, h2, h3, h4⟩ := h
    exact ⟨m, kvs, e.trans h2, h3.to t, h4.to t⟩
/-- it becomes plain data -/
theorem OwR.dr {R : RC} {H : Hp} {o : Ow} {a : Addr} (h : OwR R H o a) {R' : RC} (t : To R H R' H) (n : ¬ R'.M a) : DR R' H (match o with | .lst xs => .lst xs | .dct kvs => .dct kvs) (.ref a) := by
  cases o with
  | lst ds =>
    obtain ⟨h1, xs, h2, h3⟩ := h
    exact .lst ⟨h2, n⟩ (h3.to t)
  | dct ds =>
    obtain ⟨h1, kvs, h2, h3, h4⟩ := h
    exact .dct ⟨h2, n⟩ (h3.to t) (h4.to t)
def SlR (R : RC) (H : Hp) : Sl → Option V → Prop
  | .no, _ => True
  | .v d, y => ∃ x, y = some x ∧ DR R H d x
  | .own _ o, y => ∃ a, y = some (.ref a) ∧ OwR R H o a

/-- an address that a slot owns -/
def Owns (ρ : En) (σ : St) (a : Addr) : Prop := ∃ (i : Nat) (l : Bool) (o : Ow), ρ[i]? = some (.own l o) ∧ σ[i]? = some (some (.ref a))

/-- the slots as they stand -/
structure EnR (R : RC) (H : Hp) (ρ : En) (σ : St) : Prop where
  len : ρ.length = σ.length
  sl : ∀ (i : Nat) (s : Sl), ρ[i]? = some s → ∃ y, σ[i]? = some y ∧ SlR R H s y
  ap : ∀ (i j : Nat) (l m : Bool) (o u : Ow), i ≠ j → ρ[i]? = some (.own l o) → ρ[j]? = some (.own m u) → σ[i]? ≠ σ[j]?
  tr : ∀ a, R.M a → ∃ o, H a = some o
  tb : LamX.Tabs (tblT R.K) H
  nt : ∀ a ps, R.M a → H a ≠ some (.tbl ps)
theorem EnR.own_m {R : RC} {H : Hp} {ρ : En} {σ : St} (e : EnR R H ρ σ) {a : Addr} (h : Owns ρ σ a) : R.M a := by
  obtain ⟨i, l, o, h1, h2⟩ := h
  obtain ⟨y, h3, a', h4, h5⟩ := e.sl i _ h1
  rw [h2] at h3
  cases h3
  cases h4
  exact h5.m
theorem EnR.fresh {R : RC} {H : Hp} {ρ : En} {σ : St} (e : EnR R H ρ σ) {a : Addr} (h : H a = none) : ¬ R.M a := fun z => by
  obtain ⟨o, q⟩ := e.tr a z
  rw [h] at q; cases q

/-- behind an expression -/
structure Nx (R : RC) (ρ : En) (σ : St) (H : Hp) (R' : RC) (ρ' : En) (H' : Hp) : Prop where
  en : EnR R' H' ρ' σ
  k : R'.K = R.K
  m : ∀ a, R'.M a → R.M a
  cov : ∀ a, R.M a → R'.M a ∨ Owns ρ σ a
  h : Keep (Owns ρ σ) H H'
  own : ∀ (i : Nat) (l : Bool) (o : Ow), ρ'[i]? = some (.own l o) → ∃ u, ρ[i]? = some (.own l u)
  al : ∀ a o, H a = some o → ∃ u, H' a = some u
theorem Nx.owns {R R' : RC} {ρ ρ' : En} {σ : St} {H H' : Hp} (n : Nx R ρ σ H R' ρ' H') {a : Addr} (h : Owns ρ' σ a) : Owns ρ σ a := by
  obtain ⟨i, l, o, h1, h2⟩ := h
  obtain ⟨u, h3⟩ := n.own i l o h1
  exact ⟨i, l, u, h3, h2⟩
theorem Nx.trans {R R1 R2 : RC} {ρ ρ1 ρ2 : En} {σ : St} {H H1 H2 : Hp} (a : Nx R ρ σ H R1 ρ1 H1) (b : Nx R1 ρ1 σ H1 R2 ρ2 H2) : Nx R ρ σ H R2 ρ2 H2 where
  en := b.en
  k := b.k.trans a.k
  m := fun x h => a.m x (b.m x h)
  cov := fun x h => by
    rcases a.cov x h with q | q
    · rcases b.cov x q with q | q
      · exact .inl q
      · exact .inr (a.owns q)
    · exact .inr q
  h := Keep.trans a.h b.h fun x h => .inl (a.owns h)
  own := fun i l o h => by
    obtain ⟨u, h1⟩ := b.own i l o h
    exact a.own i l u h1
  al := fun x o h => by
    obtain ⟨u, h1⟩ := a.al x o h
    exact b.al x u h1
theorem Nx.refl {R : RC} {ρ : En} {σ : St} {H : Hp} (e : EnR R H ρ σ) : Nx R ρ σ H R ρ H := ⟨e, rfl, fun _ h => h, fun _ h => .inl h, Keep.refl, fun _ _ o h => ⟨o, h⟩, fun _ o h => ⟨o, h⟩⟩
theorem Nx.to {R R' : RC} {ρ ρ' : En} {σ : St} {H H' : Hp} (e : EnR R H ρ σ) (n : Nx R ρ σ H R' ρ' H') : To R H R' H' :=
  ⟨n.k, fun a h => .inl (n.m a h), n.h.mono fun a h => e.own_m h⟩
theorem DR.nx {R R' : RC} {ρ ρ' : En} {σ : St} {H H' : Hp} {d : D} {v : V} (r : DR R H d v) (e : EnR R H ρ σ) (n : Nx R ρ σ H R' ρ' H') : DR R' H' d v := r.to (n.to e)
theorem DRs.nx {R R' : RC} {ρ ρ' : En} {σ : St} {H H' : Hp} {d : List D} {v : List V} (r : DRs R H d v) (e : EnR R H ρ σ) (n : Nx R ρ σ H R' ρ' H') : DRs R' H' d v := r.to (n.to e)

/-- the heap only grows -/
theorem To.ex {R : RC} {H H' : Hp} (e : Evl.Ex H H') : To R H R H' := ⟨rfl, fun _ h => .inl h, Keep.of_ex e⟩
theorem OwR.ex {R : RC} {H H' : Hp} (e : Evl.Ex H H') {o : Ow} {a : Addr} (h : OwR R H o a) : OwR R H' o a := by
  refine h.to (To.ex e) h.m ?_
  cases o with
  | lst ds =>
    obtain ⟨h1, xs, h2, h3⟩ := h
    rw [h2, e _ _ h2]
  | dct ds =>
    obtain ⟨h1, kvs, h2, h3⟩ := h
    rw [h2, e _ _ h2]
theorem SlR.ex {R : RC} {H H' : Hp} (e : Evl.Ex H H') {s : Sl} {y : Option V} (h : SlR R H s y) : SlR R H' s y := by
  cases s with
  | no => trivial
  | v d =>
    obtain ⟨x, h1, h2⟩ := h
    exact ⟨x, h1, h2.to (To.ex e)⟩
  | own l o =>
    obtain ⟨a, h1, h2⟩ := h
    exact ⟨a, h1, h2.ex e⟩
theorem EnR.ex {R : RC} {H H' : Hp} {ρ : En} {σ : St} (e : Evl.Ex H H') (h : EnR R H ρ σ) : EnR R H' ρ σ where
  len := h.len
  sl := fun i s q => by
    obtain ⟨y, h1, h2⟩ := h.sl i s q
    exact ⟨y, h1, h2.ex e⟩
  ap := h.ap
  tr := fun a m => by
    obtain ⟨o, q⟩ := h.tr a m
    exact ⟨o, e _ _ q⟩
  tb := h.tb.ext e
  nt := fun a ps m z => by
    obtain ⟨o, q⟩ := h.tr a m
    rw [e _ _ q] at z
    exact h.nt a ps m (q.trans z)
/-- the tables stand where nothing but containers is written -/
theorem tabs_of {T : List (Addr × Str)} {H H' : Hp} (t : LamX.Tabs T H) (h : ∀ b o, H b = some o → ((∃ ps, o = .tbl ps) ∨ ∃ φ, o = .ext φ) → H' b = some o) : LamX.Tabs T H' := fun p hp => by
  obtain ⟨ps, h1, h2, h3⟩ := t p hp
  refine ⟨ps, h _ _ h1 (.inl ⟨_, rfl⟩), h2, fun pos cv hc => ?_⟩
  obtain ⟨c, e1, e2⟩ := h3 pos cv hc
  exact ⟨c, e1, h _ _ e2 (.inr ⟨_, rfl⟩)⟩
theorem tabs_upd {T : List (Addr × Str)} {H : Hp} {a : Addr} {u : HO} (t : LamX.Tabs T H) (n1 : ∀ o, H a = some o → ∀ ps, o ≠ .tbl ps) (n2 : ∀ o, H a = some o → ∀ φ, o ≠ .ext φ) : LamX.Tabs T (upd H a u) := tabs_of t fun b o hb hk => by
  have : b ≠ a := fun z => by
    subst z
    rcases hk with ⟨ps, e⟩ | ⟨φ, e⟩
    · exact n1 o hb ps e
    · exact n2 o hb φ e
  rw [upd_ne this]
  exact hb
theorem Nx.ex {R : RC} {ρ : En} {σ : St} {H H' : Hp} (h : EnR R H ρ σ) (e : Evl.Ex H H') : Nx R ρ σ H R ρ H' :=
  ⟨h.ex e, rfl, fun _ h => h, fun _ h => .inl h, Keep.of_ex e, fun _ _ o h => ⟨o, h⟩, fun a o h => ⟨o, e a o h⟩⟩
end Mi
set_option Elab.async false
set_option linter.all false
set_option maxRecDepth 100000
set_option maxHeartbeats 2000000
/-! M2: results, handles, readings -/
namespace Mi
open PySem L2

/-- an exception: its class by name, its fields -/
structure Xc where
  c : Str
  fs : List (Str × D)
inductive R3 (α : Type) where
  | ok (a : α) (ρ : En)
  | ex (x : Xc) (ρ : En)
abbrev Mo (α : Type) := En → Option (R3 α)
def Mo.bind {α β : Type} (m : Mo α) (k : α → Mo β) : Mo β := fun ρ => match m ρ with
  | some (.ok a ρ') => k a ρ'
  | some (.ex x ρ') => some (.ex x ρ')
  | none => none
def Mo.pure {α : Type} (a : α) : Mo α := fun ρ => some (.ok a ρ)
def Mo.lift {α : Type} (o : Option α) : Mo α := fun ρ => match o with
  | some a => some (.ok a ρ)
  | none => none

/-- plain data, or what a slot holds -/
inductive Hd where
  | val (d : D) | slot (i : Nat)
def deref1 (ρ : En) : Hd → Option D
  | .val d => some d
  | .slot i => match ρ[i]? with
    | some (.own _ o) => some o.toD
    | some (.v d) => some d
    | _ => none
def deref (h : Hd) : Mo D := fun ρ => match deref1 ρ h with
  | some d => some (.ok d ρ)
  | none => none
def derefs1 (ρ : En) : List Hd → Option (List D)
  | [] => some []
  | h :: hs => match deref1 ρ h, derefs1 ρ hs with
    | some d, some ds => some (d :: ds)
    | _, _ => none
def derefs (hs : List Hd) : Mo (List D) := fun ρ => match derefs1 ρ hs with
  | some d => some (.ok d ρ)
  | none => none
/-- the container of a slot becomes plain data for good -/
def freeze (h : Hd) : Mo D := fun ρ => match h with
  | .val d => some (.ok d ρ)
  | .slot i => match ρ[i]? with
    | some (.own false o) => some (.ok o.toD (ρ.set i (.v o.toD)))
    | some (.v d) => some (.ok d ρ)
    | _ => none
def freezes : List Hd → Mo (List D)
  | [] => Mo.pure []
  | h :: hs => Mo.bind (freeze h) fun d => Mo.bind (freezes hs) fun ds => Mo.pure (d :: ds)

def HdR (R : RC) (H : Hp) (σ : St) : Hd → V → Prop
  | .val d, x => DR R H d x
  | .slot i, x => σ[i]? = some (some x)
theorem HdR.to {R R' : RC} {H H' : Hp} {σ : St} (t : To R H R' H') {h : Hd} {x : V} (r : HdR R H σ h x) : HdR R' H' σ h x := by
  cases h with
  | val d => exact DR.to t r
  | slot i => exact r
inductive HdRs (R : RC) (H : Hp) (σ : St) : List Hd → List V → Prop
  | nil : HdRs R H σ [] []
  | cons {h : Hd} {x : V} {hs : List Hd} {xs : List V} : HdR R H σ h x → HdRs R H σ hs xs → HdRs R H σ (h :: hs) (x :: xs)
theorem HdRs.to {R R' : RC} {H H' : Hp} {σ : St} (t : To R H R' H') : ∀ {h : List Hd} {x : List V}, HdRs R H σ h x → HdRs R' H' σ h x
  | _, _, .nil => .nil
  | _, _, .cons a b => .cons (a.to t) (HdRs.to t b)
/-- an argument: plain data, or a container as it stands -/
def AR (R : RC) (H : Hp) (d : D) (x : V) : Prop := DR R H d x ∨ ∃ o a, d = Ow.toD o ∧ x = .ref a ∧ OwR R H o a
inductive ARs (R : RC) (H : Hp) : List D → List V → Prop
  | nil : ARs R H [] []
  | cons {d : D} {x : V} {ds : List D} {xs : List V} : AR R H d x → ARs R H ds xs → ARs R H (d :: ds) (x :: xs)
theorem deref1_ok {R : RC} {H : Hp} {ρ : En} {σ : St} (e : EnR R H ρ σ) {h : Hd} {x : V} {d : D} (r : HdR R H σ h x) (q : deref1 ρ h = some d) : AR R H d x := by
  cases h with
  | val d' =>
    cases q
    exact .inl r
  | slot i =>
    unfold deref1 at q
    have r' : σ[i]? = some (some x) := r
    cases hs : ρ[i]? with
    | none => simp [hs] at q
    | some s =>
      obtain ⟨y, h1, h2⟩ := e.sl i s hs
      rw [r'] at h1
      cases h1
      cases s with
      | no => simp [hs] at q
      | v d' =>
        simp [hs] at q
        subst q
        obtain ⟨x', h3, h4⟩ := h2
        cases h3
        exact .inl h4
      | own l o =>
        simp [hs] at q
        subst q
        obtain ⟨a, h3, h4⟩ := h2
        cases h3
        exact .inr ⟨o, a, rfl, rfl, h4⟩
theorem derefs1_ok {R : RC} {H : Hp} {ρ : En} {σ : St} (e : EnR R H ρ σ) : ∀ {hs : List Hd} {xs : List V} {ds : List D}, HdRs R H σ hs xs → derefs1 ρ hs = some ds → ARs R H ds xs
  | _, _, _, .nil, q => by
    cases q
    exact .nil
  | _, _, ds, .cons (h := h) (hs := hs) a b, q => by
    unfold derefs1 at q
    cases h1 : deref1 ρ h with
    | none => simp [h1] at q
    | some d =>
      cases h2 : derefs1 ρ hs with
      | none => simp [h1, h2] at q
      | some ds' =>
        simp [h1, h2] at q
        subst q
        exact .cons (deref1_ok e a h1) (derefs1_ok e b h2)

theorem set_get {α : Type} {l : List α} {i j : Nat} {x y : α} (h : (l.set i x)[j]? = some y) : (i = j ∧ y = x ∧ i < l.length) ∨ (i ≠ j ∧ l[j]? = some y) := by
  by_cases hij : i = j
  · subst hij
    by_cases hl : i < l.length
    · rw [List.getElem?_set_self hl] at h
      cases h
      exact .inl ⟨rfl, rfl, hl⟩
    · rw [List.getElem?_eq_none (by simpa using hl)] at h
      cases h
  · rw [List.getElem?_set_ne hij] at h
    exact .inr ⟨hij, h⟩
/-- the addresses but one -/
def RC.but (R : RC) (a : Addr) : RC := ⟨R.K, fun b => R.M b ∧ b ≠ a⟩
theorem to_but {R : RC} {H : Hp} {a : Addr} : To R H (R.but a) H := ⟨rfl, fun _ h => .inl h.1, Keep.refl⟩
theorem OwR.but {R : RC} {H : Hp} {a b : Addr} {o : Ow} (h : OwR R H o b) (n : b ≠ a) : OwR (R.but a) H o b := h.to to_but ⟨h.m, n⟩ rfl
theorem freeze_ok {R : RC} {H : Hp} {ρ ρ' : En} {σ : St} (e : EnR R H ρ σ) {h : Hd} {x : V} {d : D} (r : HdR R H σ h x) (q : freeze h ρ = some (.ok d ρ')) : ∃ R', Nx R ρ σ H R' ρ' H ∧ DR R' H d x := by
  cases h with
  | val d' =>
    cases q
    exact ⟨R, Nx.refl e, r⟩
  | slot i =>
    unfold freeze at q
    have r' : σ[i]? = some (some x) := r
    cases hs : ρ[i]? with
    | none => simp [hs] at q
    | some s =>
      obtain ⟨y, h1, h2⟩ := e.sl i s hs
      rw [r'] at h1
      cases h1
      cases s with
      | no => simp [hs] at q
      | v d' =>
        simp [hs] at q
        obtain ⟨q1, q2⟩ := q
        subst q1; subst q2
        obtain ⟨x', h3, h4⟩ := h2
        cases h3
        exact ⟨R, Nx.refl e, h4⟩
      | own l o =>
        cases l with
        | true => simp [hs] at q
        | false =>
          simp [hs] at q
          obtain ⟨q1, q2⟩ := q
          subst q1; subst q2
          obtain ⟨a, h3, h4⟩ := h2
          cases h3
          have dr : DR (R.but a) H o.toD (.ref a) := by
            have := h4.dr to_but (fun z => z.2 rfl)
            cases o <;> exact this
          refine ⟨R.but a, ⟨⟨by rw [List.length_set]; exact e.len, fun j s hj => ?_, fun j k l m o1 u hjk hj hk => ?_, fun b hb => e.tr b hb.1, e.tb, fun b ps hb => e.nt b ps hb.1⟩, rfl, fun b hb => hb.1, fun b hb => ?_, Keep.refl, fun j l o1 hj => ?_, fun _ o h => ⟨o, h⟩⟩, dr⟩
          · rcases set_get hj with ⟨rfl, rfl, _⟩ | ⟨hne, hj⟩
            · exact ⟨_, r', _, rfl, dr⟩
            · obtain ⟨y, k1, k2⟩ := e.sl j s hj
              refine ⟨y, k1, ?_⟩
              cases s with
              | no => trivial
              | v d1 =>
                obtain ⟨x1, k3, k4⟩ := k2
                exact ⟨x1, k3, k4.to to_but⟩
              | own l1 o1 =>
                obtain ⟨b, k3, k4⟩ := k2
                refine ⟨b, k3, k4.but fun z => ?_⟩
                subst z
                exact e.ap i j _ _ _ _ hne hs hj (by rw [r', k1, k3])
          · rcases set_get hj with ⟨_, z, _⟩ | ⟨_, hj⟩
            · cases z
            · rcases set_get hk with ⟨_, z, _⟩ | ⟨_, hk⟩
              · cases z
              · exact e.ap j k l m o1 u hjk hj hk
          · by_cases hba : b = a
            · subst hba
              exact .inr ⟨i, false, o, hs, r'⟩
            · exact .inl ⟨hb, hba⟩
          · rcases set_get hj with ⟨_, z, _⟩ | ⟨_, hj⟩
            · cases z
            · exact ⟨o1, hj⟩
theorem freeze_no {h : Hd} {ρ ρ' : En} {x : Xc} (q : freeze h ρ = some (.ex x ρ')) : False := by
  cases h with
  | val d => cases q
  | slot i =>
    unfold freeze at q
    cases hs : ρ[i]? with
    | none => simp [hs] at q
    | some s =>
      cases s with
      | no => simp [hs] at q
      | v d' => simp [hs] at q
      | own l o => cases l <;> simp [hs] at q
theorem bind_ok {α β : Type} {m : Mo α} {k : α → Mo β} {ρ : En} {r : R3 β} (h : Mo.bind m k ρ = some r) : (∃ a ρ', m ρ = some (.ok a ρ') ∧ k a ρ' = some r) ∨ ∃ x ρ', m ρ = some (.ex x ρ') ∧ r = .ex x ρ' := by
  unfold Mo.bind at h
  cases hm : m ρ with
  | none => simp [hm] at h
  | some r' =>
    cases r' with
    | ok a ρ' => exact .inl ⟨a, ρ', rfl, by simpa [hm] using h⟩
    | ex x ρ' => exact .inr ⟨x, ρ', rfl, by simpa [hm] using h.symm⟩
theorem freezes_ok {σ : St} {H : Hp} : ∀ {hs : List Hd} {xs : List V} {R : RC} {ρ : En} {r : R3 (List D)}, EnR R H ρ σ → HdRs R H σ hs xs → freezes hs ρ = some r → ∃ ds ρ', r = .ok ds ρ' ∧ ∃ R', Nx R ρ σ H R' ρ' H ∧ DRs R' H ds xs
  | _, _, R, ρ, r, e, .nil, q => by
    cases q
    exact ⟨_, _, rfl, R, Nx.refl e, .nil⟩
  | _, _, R, ρ, r, e, .cons (h := h) (hs := hs) a b, q => by
    unfold freezes at q
    rcases bind_ok q with ⟨d, ρ1, q1, q2⟩ | ⟨x, ρ1, q1, _⟩
    · obtain ⟨R1, n1, r1⟩ := freeze_ok e a q1
      rcases bind_ok q2 with ⟨ds, ρ2, q3, q4⟩ | ⟨x, ρ2, q3, _⟩
      · obtain ⟨ds', ρ2', z, R2, n2, r2⟩ := freezes_ok n1.en (b.to (n1.to e)) q3
        cases z
        cases q4
        exact ⟨_, _, rfl, R2, n1.trans n2, .cons (r1.nx n1.en n2) r2⟩
      · obtain ⟨ds', ρ2', z, _⟩ := freezes_ok n1.en (b.to (n1.to e)) q3
        cases z
    · exact (freeze_no q1).elim

/-! ### readings -/
/-- an exception as it stands: its class and its dict -/
def ExR (R : RC) (H : Hp) (x : Xc) (cls : Value) (d : Option Addr) : Prop :=
  cls = .ref (He.ga R.K x.c) ∧ ((x.fs = [] ∧ d = none) ∨ ∃ (dd : Addr) (fs : List (Str × V)), d = some dd ∧ H dd = some (.xd fs) ∧ ¬ R.M dd ∧ fs.map (·.1) = x.fs.map (·.1) ∧ DRs R H (x.fs.map (·.2)) (fs.map (·.2)))
/-- what follows an expression's result -/
def After (W : WX) (R : RC) (ρ : En) (σ : St) (H : Hp) {α β : Type} (rel : RC → Hp → α → β → Prop) (Q : β → Hp → Prop) : R3 α → Prop
  | .ok a ρ' => ∀ R' x H', Nx R ρ σ H R' ρ' H' → rel R' H' a x → Q x H'
  | .ex x ρ' => ∀ R' H' cls d, Nx R ρ σ H R' ρ' H' → ExR R' H' x cls d → W cls d σ H'
def tA (K : PySem.W.Frag) (W : WX) (f : Mo Hd) : TE := fun σ H Q => ∃ R ρ r, R.K = K ∧ EnR R H ρ σ ∧ f ρ = some r ∧ After W R ρ σ H (fun R H => HdR R H σ) Q r
def tAs (K : PySem.W.Frag) (W : WX) (f : Mo (List Hd)) : TA := fun σ H Q => ∃ R ρ r, R.K = K ∧ EnR R H ρ σ ∧ f ρ = some r ∧ After W R ρ σ H (fun R H => HdRs R H σ) Q r
def tD (K : PySem.W.Frag) (W : WX) (f : Mo D) : TE := fun σ H Q => ∃ R ρ r, R.K = K ∧ EnR R H ρ σ ∧ f ρ = some r ∧ After W R ρ σ H DR Q r
/-- a test -/
def tB (K : PySem.W.Frag) (W : WX) (f : Mo Bool) : TT := fun σ H Q => ∃ R ρ r, R.K = K ∧ EnR R H ρ σ ∧ f ρ = some r ∧ After W R ρ σ H (fun _ _ (a b : Bool) => a = b) Q r
section
variable {W : WX} {R R1 : RC} {ρ ρ1 : En} {σ : St} {H H1 : Hp} {α β : Type} {rel : RC → Hp → α → β → Prop} {Q : β → Hp → Prop} {r : R3 α}
theorem After.nx (n : Nx R ρ σ H R1 ρ1 H1) (h : After W R ρ σ H rel Q r) : After W R1 ρ1 σ H1 rel Q r := by
  cases r with
  | ok a ρ' => exact fun R' x H' m q => h R' x H' (n.trans m) q
  | ex x ρ' => exact fun R' H' cls d m q => h R' H' cls d (n.trans m) q
end
theorem PE.imp {X : Cx} {e : Expr} {t t' : TE} (h : PE X e t) (i : ∀ σ H Q, t' σ H Q → t σ H Q) : PE X e t' := ⟨fun pins s σ H Q I q => h.run pins s σ H Q I (i σ H Q q)⟩
theorem PT.imp {X : Cx} {e : Expr} {t t' : TT} (h : PT X e t) (i : ∀ σ H Q, t' σ H Q → t σ H Q) : PT X e t' := ⟨fun pins s σ H Q I q => h.run pins s σ H Q I (i σ H Q q)⟩
theorem PA.imp {X : Cx} {e : List Expr} {t t' : TA} (h : PA X e t) (i : ∀ σ H Q, t' σ H Q → t σ H Q) : PA X e t' := ⟨fun pos pins s σ H Q I q => h.run pos pins s σ H Q I (i σ H Q q)⟩
theorem PS.imp {X : Cx} {e : Stmt} {t t' : TS} (h : PS X e t) (i : ∀ D σ H, t' D σ H → t D σ H) : PS X e t' := ⟨fun pins s σ H D I q => h.run pins s σ H D I (i D σ H q)⟩
theorem PSs.imp {X : Cx} {e : List Stmt} {t t' : TS} (h : PSs X e t) (i : ∀ D σ H, t' D σ H → t D σ H) : PSs X e t' := ⟨fun pins s σ H D I q => h.run pins s σ H D I (i D σ H q)⟩

/-! ### one expression, then another -/
section
variable {K : PySem.W.Frag} {W : WX}
/-- args in a row -/
theorem tAs_cons {f : Mo Hd} {g : Mo (List Hd)} {σ : St} {H : Hp} {Q : List V → Hp → Prop}
    (h : tAs K W (Mo.bind f fun a => Mo.bind g fun as => Mo.pure (a :: as)) σ H Q) : tCons (tA K W f) (tAs K W g) σ H Q := by
  obtain ⟨R, ρ, r, hk, e, hf, q⟩ := h
  rcases bind_ok hf with ⟨a, ρ1, h1, h2⟩ | ⟨x, ρ1, h1, rfl⟩
  · refine ⟨R, ρ, _, hk, e, h1, fun R1 x H1 n1 r1 => ?_⟩
    rcases bind_ok h2 with ⟨as, ρ2, h3, h4⟩ | ⟨x, ρ2, h3, rfl⟩
    · cases h4
      exact ⟨R1, ρ1, _, n1.k.trans hk, n1.en, h3, fun R2 xs H2 n2 r2 => q R2 (x :: xs) H2 (n1.trans n2) (.cons (HdR.to (n2.to n1.en) r1) r2)⟩
    · exact ⟨R1, ρ1, _, n1.k.trans hk, n1.en, h3, fun R2 H2 cls d n2 r2 => q R2 H2 cls d (n1.trans n2) r2⟩
  · exact ⟨R, ρ, _, hk, e, h1, q⟩
theorem tAs_nil {σ : St} {H : Hp} {Q : List V → Hp → Prop} (h : tAs K W (Mo.pure []) σ H Q) : tNil σ H Q := by
  obtain ⟨R, ρ, r, hk, e, hf, q⟩ := h
  cases hf
  exact q R [] H (Nx.refl e) .nil
/-- an operation on values: what it gives of arguments -/
def OpS (K : PySem.W.Frag) (r : R2) (op : D → D → Option D) : Prop := ∀ (R : RC) (H : Hp) (x y : V) (a b d : D) (Q : VK), R.K = K → (∀ z, R.M z → ∃ o, H z = some o) → AR R H a x → AR R H b y → op a b = some d →
  (∀ z H', Evl.Ex H H' → DR R H' d z → Q z H') → r x y H Q
theorem op_ok {r : R2} {op : D → D → Option D} (ho : OpS K r op) {f g : Mo Hd} {σ : St} {H : Hp} {Q : VK}
    (h : tA K W (Mo.bind f fun a => Mo.bind g fun b => Mo.bind (deref a) fun x => Mo.bind (deref b) fun y => Mo.bind (Mo.lift (op x y)) fun d => Mo.pure (.val d)) σ H Q) : tOp r (tA K W f) (tA K W g) σ H Q := by
  obtain ⟨R, ρ, rr, hk, e, hf, q⟩ := h
  rcases bind_ok hf with ⟨a, ρ1, h1, h2⟩ | ⟨x, ρ1, h1, rfl⟩
  · refine ⟨R, ρ, _, hk, e, h1, fun R1 x H1 n1 r1 => ?_⟩
    rcases bind_ok h2 with ⟨b, ρ2, h3, h4⟩ | ⟨z, ρ2, h3, rfl⟩
    · refine ⟨R1, ρ1, _, n1.k.trans hk, n1.en, h3, fun R2 y H2 n2 r2 => ?_⟩
      have r1' := HdR.to (n2.to n1.en) r1
      unfold Mo.bind deref at h4
      cases k1 : deref1 ρ2 a with
      | none => simp [k1] at h4
      | some da =>
        cases k2 : deref1 ρ2 b with
        | none => simp [k1, k2] at h4
        | some db =>
          cases k3 : op da db with
          | none => simp [k1, k2, k3, Mo.lift] at h4
          | some d =>
            simp [k1, k2, k3, Mo.lift, Mo.pure] at h4
            subst h4
            refine ho R2 H2 x y da db d Q ((n2.k.trans n1.k).trans hk) n2.en.tr (deref1_ok n2.en r1' k1) (deref1_ok n2.en r2 k2) k3 fun z H3 ex dr => ?_
            exact q R2 z H3 ((n1.trans n2).trans (Nx.ex n2.en ex)) dr
    · exact ⟨R1, ρ1, _, n1.k.trans hk, n1.en, h3, fun R2 H2 cls d n2 r2 => q R2 H2 cls d (n1.trans n2) r2⟩
  · exact ⟨R, ρ, _, hk, e, h1, q⟩
/-- a call on values -/
def CallS (K : PySem.W.Frag) (r : List V → Hp → VK → Prop) (fn : List D → Option D) : Prop := ∀ (R : RC) (H : Hp) (xs : List V) (ds : List D) (d : D) (Q : VK), R.K = K → (∀ z, R.M z → ∃ o, H z = some o) → ARs R H ds xs → fn ds = some d →
  (∀ z H', Evl.Ex H H' → DR R H' d z → Q z H') → r xs H Q
theorem call_ok {r : List V → Hp → VK → Prop} {fn : List D → Option D} (ho : CallS K r fn) {g : Mo (List Hd)} {σ : St} {H : Hp} {Q : VK}
    (h : tA K W (Mo.bind g fun hs => Mo.bind (derefs hs) fun ds => Mo.bind (Mo.lift (fn ds)) fun d => Mo.pure (.val d)) σ H Q) : tCB r (tAs K W g) σ H Q := by
  obtain ⟨R, ρ, rr, hk, e, hf, q⟩ := h
  rcases bind_ok hf with ⟨hs, ρ1, h1, h2⟩ | ⟨x, ρ1, h1, rfl⟩
  · refine ⟨R, ρ, _, hk, e, h1, fun R1 xs H1 n1 r1 => ?_⟩
    unfold Mo.bind derefs at h2
    cases k1 : derefs1 ρ1 hs with
    | none => simp [k1] at h2
    | some ds =>
      cases k2 : fn ds with
      | none => simp [k1, k2, Mo.lift] at h2
      | some d =>
        simp [k1, k2, Mo.lift, Mo.pure] at h2
        subst h2
        exact ho R1 H1 xs ds d Q (n1.k.trans hk) n1.en.tr (derefs1_ok n1.en r1 k1) k2 fun z H3 ex dr => q R1 z H3 (n1.trans (Nx.ex n1.en ex)) dr
  · exact ⟨R, ρ, _, hk, e, h1, q⟩
/-- plain data of a handle -/
theorem tD_of {f : Mo Hd} {σ : St} {H : Hp} {Q : VK} (h : tD K W (Mo.bind f freeze) σ H Q) : tA K W f σ H Q := by
  obtain ⟨R, ρ, rr, hk, e, hf, q⟩ := h
  rcases bind_ok hf with ⟨a, ρ1, h1, h2⟩ | ⟨x, ρ1, h1, rfl⟩
  · refine ⟨R, ρ, _, hk, e, h1, fun R1 x H1 n1 r1 => ?_⟩
    cases rr with
    | ok d ρ2 =>
      obtain ⟨R2, n2, r2⟩ := freeze_ok n1.en r1 h2
      exact q R2 x H1 (n1.trans n2) r2
    | ex x' ρ2 => exact (freeze_no h2).elim
  · exact ⟨R, ρ, _, hk, e, h1, q⟩
theorem tA_val {f : Mo D} {σ : St} {H : Hp} {Q : VK} (h : tA K W (Mo.bind f fun d => Mo.pure (.val d)) σ H Q) : tD K W f σ H Q := by
  obtain ⟨R, ρ, rr, hk, e, hf, q⟩ := h
  rcases bind_ok hf with ⟨a, ρ1, h1, h2⟩ | ⟨x, ρ1, h1, rfl⟩
  · cases h2
    exact ⟨R, ρ, _, hk, e, h1, fun R1 x H1 n1 r1 => q R1 x H1 n1 r1⟩
  · exact ⟨R, ρ, _, hk, e, h1, q⟩
/-- a tuple, a list of written items -/
theorem tup_ok {g : Mo (List Hd)} {σ : St} {H : Hp} {Q : VK} (h : tA K W (Mo.bind g fun hs => Mo.bind (freezes hs) fun ds => Mo.bind (Mo.lift (if ds.length ≤ sizeLine then some (D.tup ds) else none)) fun d => Mo.pure (.val d)) σ H Q) : tTup (tAs K W g) σ H Q := by
  obtain ⟨R, ρ, rr, hk, e, hf, q⟩ := h
  rcases bind_ok hf with ⟨hs, ρ1, h1, h2⟩ | ⟨x, ρ1, h1, rfl⟩
  · refine ⟨R, ρ, _, hk, e, h1, fun R1 xs H1 n1 r1 => ?_⟩
    rcases bind_ok h2 with ⟨ds, ρ2, h3, h4⟩ | ⟨x, ρ2, h3, _⟩
    · obtain ⟨ds', ρ2', z, R2, n2, r2⟩ := freezes_ok n1.en r1 h3
      cases z
      unfold Mo.bind Mo.lift at h4
      by_cases hl : ds.length ≤ sizeLine
      · simp [hl, Mo.pure] at h4
        subst h4
        refine ⟨by rw [← r2.len]; exact hl, fun p hp => ?_⟩
        have ex : Evl.Ex H1 (upd H1 p (.tup xs)) := Evl.Ex.new hp
        exact q R2 (.ref p) _ ((n1.trans n2).trans (Nx.ex n2.en ex)) (DR.tup (.inl ⟨.inl upd_same, n2.en.fresh hp⟩) (r2.to (To.ex ex)))
      · simp [hl] at h4
    · obtain ⟨ds', ρ2', z, _⟩ := freezes_ok n1.en r1 h3
      cases z
  · exact ⟨R, ρ, _, hk, e, h1, q⟩
theorem lst_ok {g : Mo (List Hd)} {σ : St} {H : Hp} {Q : VK} (h : tA K W (Mo.bind g fun hs => Mo.bind (freezes hs) fun ds => Mo.bind (Mo.lift (if ds.length ≤ sizeLine then some (D.lst ds) else none)) fun d => Mo.pure (.val d)) σ H Q) : tLst (tAs K W g) σ H Q := by
  obtain ⟨R, ρ, rr, hk, e, hf, q⟩ := h
  rcases bind_ok hf with ⟨hs, ρ1, h1, h2⟩ | ⟨x, ρ1, h1, rfl⟩
  · refine ⟨R, ρ, _, hk, e, h1, fun R1 xs H1 n1 r1 => ?_⟩
    rcases bind_ok h2 with ⟨ds, ρ2, h3, h4⟩ | ⟨x, ρ2, h3, _⟩
    · obtain ⟨ds', ρ2', z, R2, n2, r2⟩ := freezes_ok n1.en r1 h3
      cases z
      unfold Mo.bind Mo.lift at h4
      by_cases hl : ds.length ≤ sizeLine
      · simp [hl, Mo.pure] at h4
        subst h4
        refine ⟨by rw [← r2.len]; exact hl, fun p hp => ?_⟩
        have ex : Evl.Ex H1 (upd H1 p (.lst xs)) := Evl.Ex.new hp
        exact q R2 (.ref p) _ ((n1.trans n2).trans (Nx.ex n2.en ex)) (DR.lst ⟨upd_same, n2.en.fresh hp⟩ (r2.to (To.ex ex)))
      · simp [hl] at h4
    · obtain ⟨ds', ρ2', z, _⟩ := freezes_ok n1.en r1 h3
      cases z
  · exact ⟨R, ρ, _, hk, e, h1, q⟩
/-- a name -/
def readVar (i : Nat) : Mo Hd := fun ρ => match ρ[i]? with
  | some (.v d) => some (.ok (.val d) ρ)
  | some (.own _ _) => some (.ok (.slot i) ρ)
  | _ => none
theorem var_ok {i : Nat} {σ : St} {H : Hp} {Q : VK} (h : tA K W (readVar i) σ H Q) : tVar i σ H Q := by
  obtain ⟨R, ρ, rr, hk, e, hf, q⟩ := h
  unfold readVar at hf
  cases hs : ρ[i]? with
  | none => simp [hs] at hf
  | some s =>
    obtain ⟨y, h1, h2⟩ := e.sl i s hs
    cases s with
    | no => simp [hs] at hf
    | v d =>
      simp [hs] at hf
      subst hf
      obtain ⟨x, rfl, dr⟩ := h2
      exact ⟨x, h1, q R x H (Nx.refl e) dr⟩
    | own l o =>
      simp [hs] at hf
      subst hf
      obtain ⟨a, rfl, _⟩ := h2
      exact ⟨_, h1, q R _ H (Nx.refl e) h1⟩
/-- what is constant -/
theorem con_ok {d : D} {x : V} (hx : ∀ R H, DR R H d x) {σ : St} {H : Hp} {Q : VK} (h : tA K W (Mo.pure (.val d)) σ H Q) : tC x σ H Q := by
  obtain ⟨R, ρ, rr, hk, e, hf, q⟩ := h
  cases hf
  exact q R x H (Nx.refl e) (hx R H)
end
end Mi
set_option Elab.async false
set_option linter.all false
set_option maxRecDepth 100000
set_option maxHeartbeats 2000000
/-! M3: statements' readings, a def's promise, calls -/
namespace Mi
open PySem L2

/-! ### results: plain data, or a container that nobody else has -/
inductive Fr where
  | dat (d : D) | new (o : Ow)
def Fr.toD : Fr → D
  | .dat d => d
  | .new o => o.toD
/-- one more address that may be written -/
def RC.wth (R : RC) (p : Addr) : RC := ⟨R.K, fun a => R.M a ∨ a = p⟩
/-- behind an expression that may have made containers of its own -/
structure Ny (R : RC) (ρ : En) (σ : St) (H : Hp) (R' : RC) (ρ' : En) (H' : Hp) : Prop where
  en : EnR R' H' ρ' σ
  k : R'.K = R.K
  m : ∀ a, R'.M a → R.M a ∨ H a = none
  cov : ∀ a, R.M a → R'.M a ∨ Owns ρ σ a
  h : Keep (Owns ρ σ) H H'
  own : ∀ (i : Nat) (l : Bool) (o : Ow), ρ'[i]? = some (.own l o) → ∃ u, ρ[i]? = some (.own l u)
  al : ∀ a o, H a = some o → ∃ u, H' a = some u
section
variable {R R1 R2 R' : RC} {ρ ρ1 ρ2 ρ' : En} {σ : St} {H H1 H2 H' : Hp}
theorem Nx.ny (n : Nx R ρ σ H R' ρ' H') : Ny R ρ σ H R' ρ' H' := ⟨n.en, n.k, fun a h => .inl (n.m a h), n.cov, n.h, n.own, n.al⟩
theorem Ny.nx (n : Ny R ρ σ H R' ρ' H') (m : ∀ a, R'.M a → R.M a) : Nx R ρ σ H R' ρ' H' := ⟨n.en, n.k, m, n.cov, n.h, n.own, n.al⟩
theorem Ny.owns (n : Ny R ρ σ H R' ρ' H') {a : Addr} (h : Owns ρ' σ a) : Owns ρ σ a := by
  obtain ⟨i, l, o, h1, h2⟩ := h
  obtain ⟨u, h3⟩ := n.own i l o h1
  exact ⟨i, l, u, h3, h2⟩
theorem Ny.to (e : EnR R H ρ σ) (n : Ny R ρ σ H R' ρ' H') : To R H R' H' := ⟨n.k, n.m, n.h.mono fun a h => e.own_m h⟩
theorem none_of {H H' : Hp} (al : ∀ a o, H a = some o → ∃ u, H' a = some u) {a : Addr} (h : H' a = none) : H a = none := by
  cases q : H a with
  | none => rfl
  | some o =>
    obtain ⟨u, z⟩ := al a o q
    rw [h] at z; cases z
theorem Ny.trans (a : Ny R ρ σ H R1 ρ1 H1) (b : Ny R1 ρ1 σ H1 R2 ρ2 H2) : Ny R ρ σ H R2 ρ2 H2 where
  en := b.en
  k := b.k.trans a.k
  m := fun x h => by
    rcases b.m x h with q | q
    · exact a.m x q
    · exact .inr (none_of a.al q)
  cov := fun x h => by
    rcases a.cov x h with q | q
    · rcases b.cov x q with q | q
      · exact .inl q
      · exact .inr (a.owns q)
    · exact .inr q
  h := Keep.trans a.h b.h fun x h => .inl (a.owns h)
  own := fun i l o h => by
    obtain ⟨u, h1⟩ := b.own i l o h
    exact a.own i l u h1
  al := fun x o h => by
    obtain ⟨u, h1⟩ := a.al x o h
    exact b.al x u h1
/-- a result as it stands: H0 is the heap of its beginning -/
def FrR (R : RC) (H : Hp) (ρ : En) (σ : St) (H0 : Hp) : Fr → V → Prop
  | .dat d, x => DR R H d x
  | .new o, x => ∃ p, x = .ref p ∧ OwR R H o p ∧ ¬ Owns ρ σ p ∧ H0 p = none
/-- what was made is let go as plain data -/
theorem fr_drop (e : EnR R H ρ σ) (n : Ny R ρ σ H R' ρ' H') {fr : Fr} {x : V} (r : FrR R' H' ρ' σ H fr x) : ∃ R2, Nx R ρ σ H R2 ρ' H' ∧ DR R2 H' fr.toD x := by
  have t : To R' H' ⟨R'.K, fun a => R'.M a ∧ R.M a⟩ H' := ⟨rfl, fun a h => .inl h.1, Keep.refl⟩
  refine ⟨⟨R'.K, fun a => R'.M a ∧ R.M a⟩, ⟨⟨n.en.len, fun i s h => ?_, n.en.ap, fun a h => n.en.tr a h.1, n.en.tb, fun a ps h => n.en.nt a ps h.1⟩, n.k, fun a h => h.2, fun a h => (n.cov a h).imp_left fun q => ⟨q, h⟩, n.h, n.own, n.al⟩, ?_⟩
  · obtain ⟨y, h1, h2⟩ := n.en.sl i s h
    refine ⟨y, h1, ?_⟩
    cases s with
    | no => trivial
    | v d =>
      obtain ⟨z, h3, h4⟩ := h2
      exact ⟨z, h3, h4.to t⟩
    | own l o =>
      obtain ⟨a, h3, h4⟩ := h2
      subst h3
      exact ⟨a, rfl, h4.to t ⟨h4.m, e.own_m (n.owns ⟨i, l, o, h, h1⟩)⟩ rfl⟩
  · cases fr with
    | dat d => exact DR.to t r
    | new o =>
      obtain ⟨p, rfl, h1, h2, h3⟩ := r
      have := h1.dr t fun z => e.fresh h3 z.2
      cases o <;> exact this
end
/-- an expression that may make a container of its own -/
def AfterN (W : WX) (R : RC) (ρ : En) (σ : St) (H : Hp) (Q : VK) : R3 Fr → Prop
  | .ok fr ρ' => ∀ R' x H', Ny R ρ σ H R' ρ' H' → FrR R' H' ρ' σ H fr x → Q x H'
  | .ex x ρ' => ∀ R' H' cls d, Nx R ρ σ H R' ρ' H' → ExR R' H' x cls d → W cls d σ H'
def tN (K : PySem.W.Frag) (W : WX) (f : Mo Fr) : TE := fun σ H Q => ∃ R ρ r, R.K = K ∧ EnR R H ρ σ ∧ f ρ = some r ∧ AfterN W R ρ σ H Q r
section
variable {K : PySem.W.Frag} {W : WX} {σ : St} {H : Hp} {Q : VK}
theorem tN_val {f : Mo Fr} (h : tA K W (Mo.bind f fun fr => Mo.pure (.val fr.toD)) σ H Q) : tN K W f σ H Q := by
  obtain ⟨R, ρ, rr, hk, e, hf, q⟩ := h
  rcases bind_ok hf with ⟨a, ρ1, h1, h2⟩ | ⟨x, ρ1, h1, rfl⟩
  · cases h2
    refine ⟨R, ρ, _, hk, e, h1, fun R' x H' n r => ?_⟩
    obtain ⟨R2, n2, r2⟩ := fr_drop e n r
    exact q R2 x H' n2 r2
  · exact ⟨R, ρ, _, hk, e, h1, q⟩
theorem tN_of {f : Mo Hd} (h : tN K W (Mo.bind f fun a => Mo.bind (freeze a) fun d => Mo.pure (.dat d)) σ H Q) : tA K W f σ H Q := by
  obtain ⟨R, ρ, rr, hk, e, hf, q⟩ := h
  rcases bind_ok hf with ⟨a, ρ1, h1, h2⟩ | ⟨x, ρ1, h1, rfl⟩
  · refine ⟨R, ρ, _, hk, e, h1, fun R1 x H1 n1 r1 => ?_⟩
    rcases bind_ok h2 with ⟨d, ρ2, h3, h4⟩ | ⟨x, ρ2, h3, _⟩
    · cases h4
      obtain ⟨R2, n2, r2⟩ := freeze_ok n1.en r1 h3
      exact q R2 x H1 (n1.trans n2).ny r2
    · exact (freeze_no h3).elim
  · exact ⟨R, ρ, _, hk, e, h1, q⟩
end

/-! ### statements -/
inductive Fl where
  | nx | bk | ct | rt (d : Fr)
/-- owned by a slot that is not lent -/
def OwnF (ρ : En) (σ : St) (a : Addr) : Prop := ∃ (i : Nat) (o : Ow), ρ[i]? = some (.own false o) ∧ σ[i]? = some (some (.ref a))
def FrE (R : RC) (H : Hp) (ρ0 : En) (σ0 : St) (H0 : Hp) : Fr → V → Prop
  | .dat d, x => DR R H d x
  | .new o, x => ∃ p, x = .ref p ∧ OwR R H o p ∧ (H0 p = none ∨ OwnF ρ0 σ0 p)
/-- behind a statement -/
structure Ns (R : RC) (ρ : En) (σ : St) (H : Hp) (R' : RC) (ρ' : En) (σ' : St) (H' : Hp) : Prop where
  en : EnR R' H' ρ' σ'
  k : R'.K = R.K
  m : ∀ a, R'.M a → R.M a ∨ H a = none
  cov : ∀ a, R.M a → R'.M a ∨ Owns ρ σ a
  h : Keep (Owns ρ σ) H H'
  own : ∀ a, Owns ρ' σ' a → Owns ρ σ a ∨ H a = none
  lent : ∀ (i : Nat) (o : Ow), ρ'[i]? = some (.own true o) → (∃ u, ρ[i]? = some (.own true u)) ∧ σ'[i]? = σ[i]?
  ownF : ∀ a, OwnF ρ' σ' a → OwnF ρ σ a ∨ H a = none
  al : ∀ a o, H a = some o → ∃ u, H' a = some u
theorem Nx.ns {R R' : RC} {ρ ρ' : En} {σ : St} {H H' : Hp} (n : Nx R ρ σ H R' ρ' H') : Ns R ρ σ H R' ρ' σ H' :=
  ⟨n.en, n.k, fun a h => .inl (n.m a h), n.cov, n.h, fun a h => .inl (n.owns h), fun i o h => ⟨n.own i true o h, rfl⟩, fun a ⟨i, o, h1, h2⟩ => .inl (by
    obtain ⟨u, h3⟩ := n.own i false o h1
    exact ⟨i, u, h3, h2⟩), n.al⟩
theorem al_none {H H' : Hp} (al : ∀ a o, H a = some o → ∃ u, H' a = some u) {a : Addr} (h : H' a = none) : H a = none := by
  cases q : H a with
  | none => rfl
  | some o =>
    obtain ⟨u, z⟩ := al a o q
    rw [h] at z; cases z
theorem Ns.refl {R : RC} {ρ : En} {σ : St} {H : Hp} (e : EnR R H ρ σ) : Ns R ρ σ H R ρ σ H := (Nx.refl e).ns
theorem Ns.trans {R R1 R2 : RC} {ρ ρ1 ρ2 : En} {σ σ1 σ2 : St} {H H1 H2 : Hp} (e : EnR R H ρ σ) (a : Ns R ρ σ H R1 ρ1 σ1 H1) (b : Ns R1 ρ1 σ1 H1 R2 ρ2 σ2 H2) : Ns R ρ σ H R2 ρ2 σ2 H2 where
  en := b.en
  k := b.k.trans a.k
  m := fun x h => by
    rcases b.m x h with q | q
    · exact a.m x q
    · exact .inr (al_none a.al q)
  cov := fun x h => by
    rcases a.cov x h with q | q
    · rcases b.cov x q with q | q
      · exact .inl q
      · rcases a.own x q with q | q
        · exact .inr q
        · obtain ⟨o, z⟩ := e.tr x h
          rw [q] at z; cases z
    · exact .inr q
  h := Keep.trans a.h b.h a.own
  own := fun x h => by
    rcases b.own x h with q | q
    · exact a.own x q
    · exact .inr (al_none a.al q)
  lent := fun i o h => by
    obtain ⟨⟨u, h1⟩, h2⟩ := b.lent i o h
    obtain ⟨h3, h4⟩ := a.lent i u h1
    exact ⟨h3, h2.trans h4⟩
  ownF := fun x h => by
    rcases b.ownF x h with q | q
    · exact a.ownF x q
    · exact .inr (al_none a.al q)
  al := fun x o h => by
    obtain ⟨u, h1⟩ := a.al x o h
    exact b.al x u h1
theorem Ns.to {R R' : RC} {ρ ρ' : En} {σ σ' : St} {H H' : Hp} (e : EnR R H ρ σ) (n : Ns R ρ σ H R' ρ' σ' H') : To R H R' H' :=
  ⟨n.k, n.m, n.h.mono fun a h => e.own_m h⟩
abbrev Ms := Mo Fl
def AfterS (W : WX) (R : RC) (ρ : En) (σ : St) (H : Hp) (D : Ends) : R3 Fl → Prop
  | .ok .nx ρ' => ∀ R' σ' H', Ns R ρ σ H R' ρ' σ' H' → D.nx σ' H'
  | .ok .bk ρ' => ∀ R' σ' H', Ns R ρ σ H R' ρ' σ' H' → D.bk σ' H'
  | .ok .ct ρ' => ∀ R' σ' H', Ns R ρ σ H R' ρ' σ' H' → D.ct σ' H'
  | .ok (.rt d) ρ' => ∀ R' σ' H' x, Ns R ρ σ H R' ρ' σ' H' → FrE R' H' ρ σ H d x → D.rt x H'
  | .ex x ρ' => ∀ R' σ' H' cls d, Ns R ρ σ H R' ρ' σ' H' → ExR R' H' x cls d → W cls d σ' H'
def tS (K : PySem.W.Frag) (W : WX) (f : Ms) : TS := fun D σ H => ∃ R ρ r, R.K = K ∧ EnR R H ρ σ ∧ f ρ = some r ∧ AfterS W R ρ σ H D r
theorem AfterS.ns {W : WX} {R R1 : RC} {ρ ρ1 : En} {σ σ1 : St} {H H1 : Hp} {D : Ends} {r : R3 Fl} (e : EnR R H ρ σ) (n : Ns R ρ σ H R1 ρ1 σ1 H1) (h : AfterS W R ρ σ H D r) : AfterS W R1 ρ1 σ1 H1 D r := by
  cases r with
  | ex x ρ' => exact fun R' σ' H' cls d m q => h R' σ' H' cls d (Ns.trans e n m) q
  | ok f ρ' =>
    cases f with
    | nx => exact fun R' σ' H' m => h R' σ' H' (Ns.trans e n m)
    | bk => exact fun R' σ' H' m => h R' σ' H' (Ns.trans e n m)
    | ct => exact fun R' σ' H' m => h R' σ' H' (Ns.trans e n m)
    | rt d =>
      refine fun R' σ' H' x m q => h R' σ' H' x (Ns.trans e n m) ?_
      cases d with
      | dat d => exact q
      | new o =>
        obtain ⟨p, h1, h2, h3⟩ := q
        refine ⟨p, h1, h2, ?_⟩
        rcases h3 with h3 | h3
        · exact .inl (al_none n.al h3)
        · exact (n.ownF p h3).symm

/-! ### a def's promise -/
abbrev Fn := List Sl → Option (R3 Fr)
def RetR (R : RC) (sl : List Sl) (vs : List V) (H : Hp) (Q : VK) (E : XK) : R3 Fr → Prop
  | .ok (.dat d) sl' => ∀ x H', Nx R sl (vs.map some) H R sl' H' → DR R H' d x → Q x H'
  | .ok (.new o) sl' => ∀ p H', H p = none → Ny R sl (vs.map some) H (R.wth p) sl' H' → OwR (R.wth p) H' o p → Q (.ref p) H'
  | .ex x sl' => ∀ H' cls d, Nx R sl (vs.map some) H R sl' H' → ExR R H' x cls d → E cls d H'
def spF (K : PySem.W.Frag) (F : Fn) : Sp := fun vs H Q E => ∃ R sl r, R.K = K ∧ EnR R H sl (vs.map some) ∧ F sl = some r ∧ RetR R sl vs H Q E r
/-- a def that does what F says, where no repr runs -/
structure FnG (P : Program) (w : World) (K : PySem.W.Frag) (mg : Str → Option Value) (base : Heap) (k : Nat) (f : Addr) (fd : FuncData) (ps : List Str) (F : Fn) : Prop where
  len : ∀ sl r, F sl = some r → sl.length = ps.length
  run : ∀ (A : Around) (outer : List Env) (s : Shared) (H : Hp) (args : Args) (us : List Value) (vs : List V) (Q : VK) (E : XK), Room k A → A.guards = some [] → Env0 P w K mg base A outer s H → BindsTo s fd args (ps.zip us) → Vals vs us → spF K F vs H Q E →
    codeAny (model P w) A (.call (.ref f) args) (CR (L2.CX P w) outer P w H s Q E) s

/-! ### a call: what is lent, and back again -/
def lend1 (ρ : En) : Hd → Option Sl
  | .val d => some (.v d)
  | .slot i => match ρ[i]? with
    | some (.own _ o) => some (.own true o)
    | some (.v d) => some (.v d)
    | _ => none
def lend (ρ : En) : List Hd → Option (List Sl)
  | [] => some []
  | h :: hs => match lend1 ρ h, lend ρ hs with
    | some s, some sl => some (s :: sl)
    | _, _ => none
def slotIn (i : Nat) : List Hd → Bool
  | [] => false
  | .val _ :: hs => slotIn i hs
  | .slot j :: hs => i == j || slotIn i hs
def apart : List Hd → Bool
  | [] => true
  | .val _ :: hs => apart hs
  | .slot j :: hs => !slotIn j hs && apart hs
def back : En → List Hd → List Sl → Option En
  | ρ, [], [] => some ρ
  | ρ, .val _ :: hs, _ :: sl => back ρ hs sl
  | ρ, .slot i :: hs, s :: sl => match ρ[i]?, s with
    | some (.own l _), .own true o => back (ρ.set i (.own l o)) hs sl
    | some (.v _), .v _ => back ρ hs sl
    | _, _ => none
  | _, _, _ => none
def callF (F : Fn) (hs : List Hd) : Mo Fr := fun ρ => match lend ρ hs, apart hs with
  | some sl, true => match F sl with
    | some (.ok d sl') => (back ρ hs sl').map fun ρ' => .ok d ρ'
    | some (.ex x sl') => (back ρ hs sl').map fun ρ' => .ex x ρ'
    | none => none
  | _, _ => none

theorem slotIn_mem {i : Nat} : ∀ {hs : List Hd}, slotIn i hs = true ↔ Hd.slot i ∈ hs
  | [] => by simp [slotIn]
  | .val _ :: hs => by simp [slotIn, slotIn_mem (hs := hs)]
  | .slot j :: hs => by simp [slotIn, slotIn_mem (hs := hs)]
theorem lend_get {ρ : En} : ∀ {hs : List Hd} {sl : List Sl} {k : Nat} {s : Sl}, lend ρ hs = some sl → sl[k]? = some s → ∃ h, hs[k]? = some h ∧ lend1 ρ h = some s
  | [], sl, k, s, e, q => by
    cases e
    simp at q
  | h :: hs, sl, k, s, e, q => by
    unfold lend at e
    cases h1 : lend1 ρ h with
    | none => simp [h1] at e
    | some s0 =>
      cases h2 : lend ρ hs with
      | none => simp [h1, h2] at e
      | some sl0 =>
        simp [h1, h2] at e
        subst e
        cases k with
        | zero =>
          simp at q
          subst q
          exact ⟨h, rfl, h1⟩
        | succ k =>
          obtain ⟨h', e1, e2⟩ := lend_get h2 (by simpa using q)
          exact ⟨h', by simpa using e1, e2⟩
theorem lend_len {ρ : En} : ∀ {hs : List Hd} {sl : List Sl}, lend ρ hs = some sl → sl.length = hs.length
  | [], sl, e => by
    cases e
    rfl
  | h :: hs, sl, e => by
    unfold lend at e
    cases h1 : lend1 ρ h with
    | none => simp [h1] at e
    | some s0 =>
      cases h2 : lend ρ hs with
      | none => simp [h1, h2] at e
      | some sl0 =>
        simp [h1, h2] at e
        subst e
        simp [lend_len h2]
theorem HdRs.len {R : RC} {H : Hp} {σ : St} : ∀ {hs : List Hd} {xs : List V}, HdRs R H σ hs xs → hs.length = xs.length
  | _, _, .nil => rfl
  | _, _, .cons _ t => by simp [HdRs.len t]
theorem HdRs.get {R : RC} {H : Hp} {σ : St} : ∀ {hs : List Hd} {xs : List V} {k : Nat} {h : Hd}, HdRs R H σ hs xs → hs[k]? = some h → ∃ x, xs[k]? = some x ∧ HdR R H σ h x
  | _, _, _, _, .nil, e => by simp at e
  | _, _, 0, _, .cons r _, e => by
    simp at e; subst e; exact ⟨_, rfl, r⟩
  | _, _, k + 1, h, .cons _ t, e => by
    obtain ⟨v, h1, h2⟩ := HdRs.get (k := k) (h := h) t (by simpa using e)
    exact ⟨v, by simpa using h1, h2⟩
theorem apart_ix : ∀ {hs : List Hd} {j k i : Nat}, apart hs = true → hs[j]? = some (.slot i) → hs[k]? = some (.slot i) → j = k
  | [], j, k, i, _, e, _ => by simp at e
  | h :: hs, 0, 0, i, _, _, _ => rfl
  | h :: hs, 0, k + 1, i, a, e1, e2 => by
    simp at e1 e2
    subst e1
    simp [apart] at a
    have : slotIn i hs = true := slotIn_mem.mpr (List.mem_of_getElem? e2)
    rw [a.1] at this; cases this
  | h :: hs, j + 1, 0, i, a, e1, e2 => by
    simp at e1 e2
    subst e2
    simp [apart] at a
    have : slotIn i hs = true := slotIn_mem.mpr (List.mem_of_getElem? e1)
    rw [a.1] at this; cases this
  | h :: hs, j + 1, k + 1, i, a, e1, e2 => by
    have a' : apart hs = true := by
      cases h with
      | val d => simpa [apart] using a
      | slot n => simp [apart] at a; exact a.2
    have z : j = k := apart_ix (i := i) a' (by simpa using e1) (by simpa using e2)
    rw [z]
/-- the arguments as the callee has them -/
theorem lend_en {R : RC} {H : Hp} {ρ : En} {σ : St} {hs : List Hd} {xs : List V} {sl : List Sl} (e : EnR R H ρ σ) (r : HdRs R H σ hs xs) (l : lend ρ hs = some sl) (ap : apart hs = true) : EnR R H sl (xs.map some) where
  tb := e.tb
  nt := e.nt
  len := by rw [List.length_map, lend_len l, r.len]
  sl := fun k s q => by
    obtain ⟨h, h1, h2⟩ := lend_get l q
    obtain ⟨x, h3, h4⟩ := r.get h1
    refine ⟨some x, by rw [List.getElem?_map, h3]; rfl, ?_⟩
    cases h with
    | val d =>
      cases h2
      exact ⟨x, rfl, h4⟩
    | slot i =>
      have h4' : σ[i]? = some (some x) := h4
      unfold lend1 at h2
      cases hs1 : ρ[i]? with
      | none => simp [hs1] at h2
      | some s1 =>
        obtain ⟨y, g1, g2⟩ := e.sl i s1 hs1
        rw [h4'] at g1
        cases g1
        cases s1 with
        | no => simp [hs1] at h2
        | v d =>
          simp [hs1] at h2
          subst h2
          exact g2
        | own l o =>
          simp [hs1] at h2
          subst h2
          exact g2
  ap := fun i j l1 m o u hij hi hj => by
    obtain ⟨h, h1, h2⟩ := lend_get l hi
    obtain ⟨h', h3, h4⟩ := lend_get l hj
    obtain ⟨x, g1, g2⟩ := r.get h1
    obtain ⟨y, g3, g4⟩ := r.get h3
    cases h with
    | val d => cases h2
    | slot n =>
      cases h' with
      | val d => cases h4
      | slot n' =>
        have hn : n ≠ n' := fun z => by
          subst z
          exact hij (apart_ix ap h1 h3)
        have ow : ∀ {n : Nat} {l1 : Bool} {o : Ow}, lend1 ρ (.slot n) = some (.own l1 o) → ∃ l2, ρ[n]? = some (.own l2 o) := fun {n l1 o} z => by
          unfold lend1 at z
          cases hs1 : ρ[n]? with
          | none => simp [hs1] at z
          | some s1 =>
            cases s1 with
            | no => simp [hs1] at z
            | v d => simp [hs1] at z
            | own l2 o2 =>
              simp [hs1] at z
              exact ⟨l2, by rw [z.2]⟩
        obtain ⟨l2, k1⟩ := ow h2
        obtain ⟨l3, k2⟩ := ow h4
        have z := e.ap n n' l2 l3 o u hn k1 k2
        have g2' : σ[n]? = some (some x) := g2
        have g4' : σ[n']? = some (some y) := g4
        rw [g2', g4'] at z
        rw [List.getElem?_map, List.getElem?_map, g1, g3]
        exact z
  tr := e.tr
theorem back_get {sl0 : List Sl} : ∀ {hs : List Hd} {ρ ρ' : En} {sl : List Sl}, back ρ hs sl = some ρ' → apart hs = true → ρ'.length = ρ.length ∧ ∀ (j : Nat) (s : Sl), ρ'[j]? = some s →
    (ρ[j]? = some s ∧ ∀ l o, s = .own l o → slotIn j hs = false) ∨ ∃ (k : Nat) (l : Bool) (o u : Ow), hs[k]? = some (.slot j) ∧ sl[k]? = some (.own true o) ∧ s = .own l o ∧ ρ[j]? = some (.own l u)
  | [], ρ, ρ', sl, b, a => by
    cases sl with
    | nil =>
      cases b
      exact ⟨rfl, fun j s e => .inl ⟨e, fun _ _ _ => rfl⟩⟩
    | cons x sl => cases b
  | .val d :: hs, ρ, ρ', sl, b, a => by
    cases sl with
    | nil => cases b
    | cons s0 sl =>
      obtain ⟨h1, h2⟩ := back_get (sl0 := sl0) (hs := hs) (ρ := ρ) (ρ' := ρ') (sl := sl) b (by simpa [apart] using a)
      refine ⟨h1, fun j s e => ?_⟩
      rcases h2 j s e with h | ⟨k, l, o, u, e1, e2, e3, e4⟩
      · exact .inl ⟨h.1, fun l o z => by simpa [slotIn] using h.2 l o z⟩
      · exact .inr ⟨k + 1, l, o, u, by simpa using e1, by simpa using e2, e3, e4⟩
  | .slot i :: hs, ρ, ρ', sl, b, a => by
    cases sl with
    | nil => cases b
    | cons s0 sl =>
      have a' : slotIn i hs = false ∧ apart hs = true := by simpa [apart] using a
      unfold back at b
      cases hr : ρ[i]? with
      | none => simp [hr] at b
      | some t =>
        cases t with
        | no => simp [hr] at b
        | v d =>
          cases s0 with
          | no => simp [hr] at b
          | own l o => simp [hr] at b
          | v d' =>
            simp [hr] at b
            obtain ⟨h1, h2⟩ := back_get (sl0 := sl0) (hs := hs) b a'.2
            refine ⟨h1, fun j s e => ?_⟩
            rcases h2 j s e with h | ⟨k, l, o, u, e1, e2, e3, e4⟩
            · refine .inl ⟨h.1, fun l o z => ?_⟩
              have z2 := h.2 l o z
              by_cases hji : j = i
              · subst hji
                rw [hr] at h
                rw [z] at h
                cases h.1
              · simp [slotIn, z2, hji]
            · exact .inr ⟨k + 1, l, o, u, by simpa using e1, by simpa using e2, e3, e4⟩
        | own l o =>
          cases s0 with
          | no => simp [hr] at b
          | v d => simp [hr] at b
          | own l' o' =>
            cases l' with
            | false => simp [hr] at b
            | true =>
              simp [hr] at b
              obtain ⟨h1, h2⟩ := back_get (sl0 := sl0) (hs := hs) b a'.2
              refine ⟨by simpa using h1, fun j s e => ?_⟩
              rcases h2 j s e with ⟨g1, g2⟩ | ⟨k, l1, o1, u, e1, e2, e3, e4⟩
              · rcases set_get g1 with ⟨rfl, rfl, _⟩ | ⟨hne, g1⟩
                · exact .inr ⟨0, l, o', o, rfl, rfl, rfl, hr⟩
                · refine .inl ⟨g1, fun l1 o1 z => ?_⟩
                  simp [slotIn, g2 l1 o1 z, Ne.symm hne]
              · have hne : i ≠ j := fun z => by
                  subst z
                  have := slotIn_mem.mpr (List.mem_of_getElem? e1)
                  rw [a'.1] at this; cases this
                rcases set_get e4 with ⟨z, _⟩ | ⟨_, e4⟩
                · exact absurd z hne
                · exact .inr ⟨k + 1, l1, o1, u, by simpa using e1, by simpa using e2, e3, e4⟩
/-- behind the call -/
theorem back_ny {R R' : RC} {H H' : Hp} {ρ ρ' : En} {σ : St} {hs : List Hd} {xs : List V} {sl sl' : List Sl} (e : EnR R H ρ σ) (r : HdRs R H σ hs xs) (l : lend ρ hs = some sl) (ap : apart hs = true)
    (n : Ny R sl (xs.map some) H R' sl' H') (b : back ρ hs sl' = some ρ') : Ny R ρ σ H R' ρ' H' := by
  obtain ⟨bl, bg⟩ := back_get (sl0 := sl) b ap
  have le := lend_en e r l ap
  have t : To R H R' H' := n.to le
  -- what the callee owns is owned here
  have ow : ∀ {n : Nat} {l1 : Bool} {o : Ow}, lend1 ρ (.slot n) = some (.own l1 o) → ∃ l2, ρ[n]? = some (.own l2 o) := fun {n l1 o} z => by
    unfold lend1 at z
    cases hs1 : ρ[n]? with
    | none => simp [hs1] at z
    | some s1 =>
      cases s1 with
      | no => simp [hs1] at z
      | v d => simp [hs1] at z
      | own l2 o2 =>
        simp [hs1] at z
        exact ⟨l2, by rw [z.2]⟩
  have up : ∀ a, Owns sl (xs.map some) a → ∃ (i k : Nat) (l2 : Bool) (o : Ow), hs[k]? = some (.slot i) ∧ ρ[i]? = some (.own l2 o) ∧ σ[i]? = some (some (.ref a)) := fun a ⟨k, l1, o, h1, h2⟩ => by
    obtain ⟨h, h3, h4⟩ := lend_get l h1
    obtain ⟨x, h5, h6⟩ := r.get h3
    rw [List.getElem?_map, h5] at h2
    cases h2
    cases h with
    | val d => cases h4
    | slot i =>
      obtain ⟨l2, k1⟩ := ow h4
      exact ⟨i, k, l2, o, h3, k1, h6⟩
  have upO : ∀ a, Owns sl (xs.map some) a → Owns ρ σ a := fun a h => by
    obtain ⟨i, k, l2, o, _, h2, h3⟩ := up a h
    exact ⟨i, l2, o, h2, h3⟩
  have sh : ∀ (j : Nat) (l1 : Bool) (o : Ow), ρ'[j]? = some (.own l1 o) → ∃ u, ρ[j]? = some (.own l1 u) := fun j l1 o h => by
    rcases bg j _ h with ⟨h1, _⟩ | ⟨k, l2, o2, u, _, _, h3, h4⟩
    · exact ⟨o, h1⟩
    · cases h3
      exact ⟨u, h4⟩
  refine ⟨⟨by rw [bl]; exact e.len, fun j s hj => ?_, fun i j l1 m o u hij hi hj => ?_, n.en.tr, n.en.tb, n.en.nt⟩, n.k, n.m, fun a h => (n.cov a h).imp_right (upO a), n.h.mono upO, sh, n.al⟩
  · rcases bg j s hj with ⟨h1, h2⟩ | ⟨k, l2, o2, u, h1, h2, h3, h4⟩
    · obtain ⟨y, h3, h4⟩ := e.sl j s h1
      refine ⟨y, h3, ?_⟩
      cases s with
      | no => trivial
      | v d =>
        obtain ⟨x, h5, h6⟩ := h4
        exact ⟨x, h5, h6.to t⟩
      | own l1 o =>
        obtain ⟨a, h5, h6⟩ := h4
        have no : ¬ Owns sl (xs.map some) a := fun z => by
          obtain ⟨i, k, l2, o2, g1, g2, g3⟩ := up a z
          have hne : j ≠ i := fun q => by
            subst q
            have := slotIn_mem.mpr (List.mem_of_getElem? g1)
            rw [h2 _ _ rfl] at this; cases this
          exact e.ap j i l1 l2 o o2 hne h1 g2 (by rw [h3, h5, g3])
        refine ⟨a, h5, h6.to t ((n.cov a h6.m).resolve_right no) ?_⟩
        obtain ⟨ob, h7⟩ := e.tr a h6.m
        rw [h7]
        exact n.h a ob h7 no (h6.nt h7)
    · obtain ⟨y, h5, h6⟩ := n.en.sl k _ h2
      obtain ⟨a, h7, h8⟩ := h6
      obtain ⟨x, h9, h10⟩ := r.get h1
      rw [List.getElem?_map, h9] at h5
      subst h7
      cases h5
      subst h3
      exact ⟨_, h10, a, rfl, h8⟩
  · obtain ⟨o', h1⟩ := sh i l1 o hi
    obtain ⟨u', h2⟩ := sh j m u hj
    exact e.ap i j l1 m o' u' hij h1 h2
theorem callF_ok {K : PySem.W.Frag} {W : WX} {F : Fn} {g : Mo (List Hd)} {σ : St} {H : Hp} {Q : VK} (h : tN K W (Mo.bind g fun hs => callF F hs) σ H Q) :
    tAs K W g σ H fun xs H1 => spF K F xs H1 Q (fun cls d H' => W cls d σ H') := by
  obtain ⟨R, ρ, rr, hk, e, hf, q⟩ := h
  rcases bind_ok hf with ⟨hs, ρ1, h1, h2⟩ | ⟨x, ρ1, h1, rfl⟩
  · refine ⟨R, ρ, _, hk, e, h1, fun R1 xs H1 n1 r1 => ?_⟩
    unfold callF at h2
    cases hl : lend ρ1 hs with
    | none => simp [hl] at h2
    | some sl =>
      cases ha : apart hs with
      | false => simp [hl, ha] at h2
      | true =>
        cases hF : F sl with
        | none => simp [hl, ha, hF] at h2
        | some r =>
          refine ⟨R1, sl, r, n1.k.trans hk, lend_en n1.en r1 hl ha, hF, ?_⟩
          cases r with
          | ok fr sl' =>
            cases hb : back ρ1 hs sl' with
            | none => simp [hl, ha, hF, hb] at h2
            | some ρ2 =>
              simp [hl, ha, hF, hb] at h2
              subst h2
              cases fr with
              | dat d =>
                intro x H' n dr
                exact q R1 x H' (n1.ny.trans (back_ny n1.en r1 hl ha n.ny hb)) dr
              | new o =>
                intro p H' hp n ow
                have n2 := back_ny n1.en r1 hl ha n hb
                refine q _ _ H' (n1.ny.trans n2) ⟨p, rfl, ow, fun z => ?_, none_of n1.al hp⟩
                obtain ⟨o, z⟩ := n1.en.tr p (n1.en.own_m (n2.owns z))
                rw [hp] at z; cases z
          | ex x sl' =>
            cases hb : back ρ1 hs sl' with
            | none => simp [hl, ha, hF, hb] at h2
            | some ρ2 =>
              simp [hl, ha, hF, hb] at h2
              subst h2
              intro H' cls d n dr
              have n2 := back_ny n1.en r1 hl ha n.ny hb
              exact q R1 H' cls d (n1.trans (n2.nx fun _ h => h)) dr
  · exact ⟨R, ρ, _, hk, e, h1, q⟩
end Mi
set_option Elab.async false
set_option linter.all false
set_option maxRecDepth 100000
set_option maxHeartbeats 2000000
/-! M4: a def by its body, a call -/
namespace Mi
open PySem L2

/-! ### a def by its body -/
def isLent : Sl → Bool
  | .own false _ => false
  | _ => true
def outSl : List Sl → En → Option (List Sl)
  | [], _ => some []
  | s :: sl, [] => none
  | .own _ _ :: sl, .own true o :: ρ => (outSl sl ρ).map fun r => .own true o :: r
  | .own _ _ :: sl, _ :: ρ => none
  | s :: sl, _ :: ρ => (outSl sl ρ).map fun r => s :: r
def runF (n np : Nat) (f : Ms) : Fn := fun sl => match sl.length == np && sl.all isLent with
  | false => none
  | true => match f (sl ++ List.replicate (n - np) .no) with
    | some (.ok .nx ρ) => (outSl sl ρ).map fun r => .ok (.dat .non) r
    | some (.ok (.rt d) ρ) => (outSl sl ρ).map fun r => .ok d r
    | some (.ex x ρ) => (outSl sl ρ).map fun r => .ex x r
    | _ => none
theorem outSl_get : ∀ {sl : List Sl} {ρ : En} {r : List Sl}, outSl sl ρ = some r → r.length = sl.length ∧ ∀ (i : Nat) (s : Sl), r[i]? = some s →
    (sl[i]? = some s ∧ ∀ l o, s ≠ .own l o) ∨ ∃ (l : Bool) (u o : Ow), sl[i]? = some (.own l u) ∧ ρ[i]? = some (.own true o) ∧ s = .own true o
  | [], ρ, r, h => by
    cases h
    exact ⟨rfl, fun i s e => by simp at e⟩
  | s :: sl, [], r, h => by
    cases s <;> cases h
  | s :: sl, t :: ρ, r, h => by
    have rest : ∀ {r0 : List Sl} {s0 : Sl}, outSl sl ρ = some r0 → r = s0 :: r0 → ((s0 = s ∧ ∀ l o, s0 ≠ .own l o) ∨ ∃ (l : Bool) (u o : Ow), s = .own l u ∧ t = .own true o ∧ s0 = .own true o) →
        r.length = (s :: sl).length ∧ ∀ (i : Nat) (x : Sl), r[i]? = some x → ((s :: sl)[i]? = some x ∧ ∀ l o, x ≠ .own l o) ∨ ∃ (l : Bool) (u o : Ow), (s :: sl)[i]? = some (.own l u) ∧ (t :: ρ)[i]? = some (.own true o) ∧ x = .own true o := by
      intro r0 s0 h0 hr hs
      obtain ⟨h1, h2⟩ := outSl_get h0
      subst hr
      refine ⟨by simp [h1], fun i x e => ?_⟩
      cases i with
      | zero =>
        simp at e
        subst e
        rcases hs with ⟨e1, e2⟩ | ⟨l, u, o, e1, e2, e3⟩
        · exact .inl ⟨by simp [e1], e2⟩
        · exact .inr ⟨l, u, o, by simp [e1], by simp [e2], e3⟩
      | succ i => simpa using h2 i x (by simpa using e)
    cases s with
    | no =>
      unfold outSl at h
      cases h0 : outSl sl ρ with
      | none => simp [h0] at h
      | some r0 =>
        simp [h0] at h
        exact rest h0 h.symm (.inl ⟨rfl, fun _ _ z => by cases z⟩)
    | v d =>
      unfold outSl at h
      cases h0 : outSl sl ρ with
      | none => simp [h0] at h
      | some r0 =>
        simp [h0] at h
        exact rest h0 h.symm (.inl ⟨rfl, fun _ _ z => by cases z⟩)
    | own l u =>
      cases t with
      | no => unfold outSl at h; cases h
      | v d => unfold outSl at h; cases h
      | own l2 o =>
        cases l2 with
        | false => unfold outSl at h; cases h
        | true =>
          unfold outSl at h
          cases h0 : outSl sl ρ with
          | none => simp [h0] at h
          | some r0 =>
            simp [h0] at h
            exact rest h0 h.symm (.inr ⟨l, u, o, rfl, rfl, rfl⟩)
theorem outSl_own {sl : List Sl} {ρ : En} {r : List Sl} (h : outSl sl ρ = some r) {i : Nat} {l : Bool} {u : Ow} (hi : sl[i]? = some (.own l u)) : ∃ o, ρ[i]? = some (.own true o) := by
  obtain ⟨h1, h2⟩ := outSl_get h
  have hl : i < r.length := by rw [h1]; exact (List.getElem?_eq_some_iff.mp hi).1
  rcases h2 i r[i] (by simp [hl]) with ⟨e1, e2⟩ | ⟨l1, u1, o, _, e2, _⟩
  · rw [hi] at e1
    exact absurd (Option.some.inj e1).symm (e2 l u)
  · exact ⟨o, e2⟩

theorem start_get {N : List Str} {vs : List V} {i : Nat} (hi : i < vs.length) : (start N vs)[i]? = (vs.map some)[i]? := by
  unfold L2.start
  rw [List.getElem?_append_left (by simpa using hi)]
theorem start_en {R : RC} {H : Hp} {sl : List Sl} {N : List Str} {vs : List V} {np : Nat} (e : EnR R H sl (vs.map some)) (hl : sl.length = np) (hn : np ≤ N.length) : EnR R H (sl ++ List.replicate (N.length - np) .no) (start N vs) where
  tb := e.tb
  nt := e.nt
  len := by
    have := e.len
    rw [List.length_map] at this
    unfold L2.start
    simp only [List.length_append, List.length_replicate, List.length_map]
    omega
  sl := fun i s h => by
    have hlen := e.len
    rw [List.length_map] at hlen
    by_cases hi : i < sl.length
    · rw [List.getElem?_append_left hi] at h
      obtain ⟨y, h1, h2⟩ := e.sl i s h
      exact ⟨y, by rw [start_get (by omega)]; exact h1, h2⟩
    · rw [List.getElem?_append_right (by omega), List.getElem?_replicate] at h
      split at h
      · cases h
        refine ⟨none, ?_, trivial⟩
        unfold L2.start
        rw [List.getElem?_append_right (by rw [List.length_map]; omega), List.getElem?_replicate, if_pos (by rw [List.length_map]; omega)]
      · cases h
  ap := fun i j l m o u hij hi hj => by
    have hlen := e.len
    rw [List.length_map] at hlen
    have small : ∀ {i : Nat} {l : Bool} {o : Ow}, (sl ++ List.replicate (N.length - np) Sl.no)[i]? = some (.own l o) → i < sl.length ∧ sl[i]? = some (.own l o) := fun {i l o} h => by
      by_cases hi : i < sl.length
      · rw [List.getElem?_append_left hi] at h
        exact ⟨hi, h⟩
      · rw [List.getElem?_append_right (by omega), List.getElem?_replicate] at h
        split at h <;> cases h
    obtain ⟨a1, a2⟩ := small hi
    obtain ⟨b1, b2⟩ := small hj
    rw [start_get (by omega), start_get (by omega)]
    exact e.ap i j l m o u hij a2 b2
  tr := e.tr
theorem start_owns {sl : List Sl} {N : List Str} {vs : List V} {n : Nat} (hlen : sl.length = vs.length) {a : Addr} (h : Owns (sl ++ List.replicate n .no) (start N vs) a) : Owns sl (vs.map some) a := by
  obtain ⟨i, l, o, h1, h2⟩ := h
  by_cases hi : i < sl.length
  · rw [List.getElem?_append_left hi] at h1
    rw [start_get (by omega)] at h2
    exact ⟨i, l, o, h1, h2⟩
  · rw [List.getElem?_append_right (by omega), List.getElem?_replicate] at h1
    split at h1 <;> cases h1
theorem end_ny {R R' R2 : RC} {H H' : Hp} {sl sl' : List Sl} {N : List Str} {vs : List V} {ρ' : En} {σ' : St} {np : Nat} (e : EnR R H sl (vs.map some)) (hl : sl.length = np) (hn : np ≤ N.length) (hla : sl.all isLent = true)
    (n : Ns R (sl ++ List.replicate (N.length - np) .no) (start N vs) H R' ρ' σ' H') (o : outSl sl ρ' = some sl') (k2 : R2.K = R.K) (m1 : ∀ a, R.M a → R2.M a) (m2 : ∀ a, R2.M a → R.M a ∨ (R'.M a ∧ H a = none)) : Ny R sl (vs.map some) H R2 sl' H' ∧ To R' H' R2 H' := by
  have hlen := e.len
  rw [List.length_map] at hlen
  have es := start_en (N := N) e hl hn
  obtain ⟨o1, o2⟩ := outSl_get o
  have ent : ∀ {i : Nat} {l : Bool} {u : Ow}, sl[i]? = some (.own l u) → ∃ a ob, (vs.map some)[i]? = some (some (.ref a)) ∧ σ'[i]? = some (some (.ref a)) ∧ ρ'[i]? = some (.own true ob) ∧ R.M a ∧ OwR R' H' ob a := fun {i l u} h => by
    obtain ⟨ob, h1⟩ := outSl_own o h
    obtain ⟨_, h2⟩ := n.lent i ob h1
    obtain ⟨y, h3, a, h4, h5⟩ := e.sl i _ h
    subst h4
    have hi : i < vs.length := by
      have := (List.getElem?_eq_some_iff.mp h).1
      omega
    rw [start_get hi, h3] at h2
    obtain ⟨y', h6, a', h7, h8⟩ := n.en.sl i _ h1
    rw [h2] at h6
    cases h6
    cases h7
    exact ⟨a, ob, h3, h2, h1, h5.m, h8⟩
  have hm : ∀ a, R.M a → R'.M a := fun a h => by
    rcases n.cov a h with q | q
    · exact q
    · obtain ⟨i, l, u, h1, h2⟩ := start_owns hlen q
      obtain ⟨a', ob, h3, _, _, _, h6⟩ := ent h1
      rw [h2] at h3
      cases h3
      exact h6.m
  have t2 : To R' H' R2 H' := ⟨k2.trans n.k.symm, fun a h => .inl ((m2 a h).elim (hm a) fun z => z.1), Keep.refl⟩
  have t : To R H R2 H' := ⟨k2, fun a h => (m2 a h).imp_right fun z => z.2, n.h.mono fun a h => es.own_m h⟩
  refine ⟨⟨⟨by rw [o1]; exact e.len, fun i s h => ?_, fun i j l m ow u hij hi hj => ?_, fun a h => ?_, by rw [k2, ← n.k]; exact n.en.tb, fun a ps h => n.en.nt a ps ((m2 a h).elim (hm a) fun z => z.1)⟩, k2, fun a h => (m2 a h).imp_right fun z => z.2, fun a h => .inl (m1 a h), n.h.mono fun a h => start_owns hlen h, fun i l ow h => ?_, n.al⟩, t2⟩
  · rcases o2 i s h with ⟨h1, h2⟩ | ⟨l, u, ob, h1, h2, h3⟩
    · obtain ⟨y, h3, h4⟩ := e.sl i s h1
      refine ⟨y, h3, ?_⟩
      cases s with
      | no => trivial
      | v d =>
        obtain ⟨x, h5, h6⟩ := h4
        exact ⟨x, h5, h6.to t⟩
      | own l ob => exact absurd rfl (h2 l ob)
    · obtain ⟨a, ob', h4, _, h6, h7, h8⟩ := ent h1
      rw [h2] at h6
      cases h6
      subst h3
      exact ⟨_, h4, a, rfl, h8.to t2 (m1 _ h7) rfl⟩
  · have ow' : ∀ {i : Nat} {l : Bool} {ow : Ow}, sl'[i]? = some (.own l ow) → ∃ l1 u1, sl[i]? = some (.own l1 u1) := fun {i l ow} h => by
      rcases o2 i _ h with ⟨_, h2⟩ | ⟨l1, u1, ob, h1, _, _⟩
      · exact absurd rfl (h2 l ow)
      · exact ⟨l1, u1, h1⟩
    obtain ⟨l1, u1, a1⟩ := ow' hi
    obtain ⟨l2, u2, a2⟩ := ow' hj
    exact e.ap i j l1 l2 u1 u2 hij a1 a2
  · rcases m2 a h with h | ⟨h, _⟩
    · obtain ⟨ob, h1⟩ := e.tr a h
      exact n.al a ob h1
    · exact n.en.tr a h
  · rcases o2 i _ h with ⟨_, h2⟩ | ⟨l1, u1, ob, h1, _, h3⟩
    · exact absurd rfl (h2 l ow)
    · cases h3
      have hb : isLent (.own l1 u1) = true := List.all_eq_true.mp hla _ (List.mem_of_getElem? h1)
      cases l1 with
      | true => exact ⟨u1, h1⟩
      | false => cases hb
theorem ExR.to {R R' : RC} {H H' : Hp} (t : To R H R' H') {x : Xc} {cls : Value} {d : Option Addr} (h : ExR R H x cls d) : ExR R' H' x cls d := by
  obtain ⟨h1, h2⟩ := h
  refine ⟨by rw [t.k]; exact h1, ?_⟩
  rcases h2 with h2 | ⟨dd, fs, h3, h4, h5, h6, h7⟩
  · exact .inl h2
  · refine .inr ⟨dd, fs, h3, t.h _ _ h4 h5 nofun, fun z => ?_, h6, h7.to t⟩
    rcases t.m dd z with q | q
    · exact h5 q
    · rw [h4] at q; cases q
section
variable {P : Program} {w : World} {K : PySem.W.Frag} {mg : Str → Option Value} {base : Heap} {k : Nat} {f : Addr}
/-- THE RULE for a def -/
theorem fnG_of {x qual : Str} {params : Arguments} {body : List Stmt} {scope : Scope} {dV kV doc pm cdv ct oc : Value} {an od : Option Addr} {osl : Array (Option Value)} {N ps : List Str} {fS : Ms}
    (lk : K.lookup f = some ⟨oc, od, .func (PySem.W.fnOf x qual params body scope dV kV doc pm an cdv ct), osl⟩) (hcd : PySem.W.codeIn K cdv qual = true) (S : FnScope N ps scope)
    (hb : ∀ (A : Around) (outer : List Env) (s : Shared) (H : Hp) (E : XK), Room k (A.deeper (PyProof.Rows.envOfC qual scope s.heap.objs.size f cdv)) → A.guards = some [] →
      PSs (cxOf (L2.CX P w) P w K mg base N qual scope f cdv A outer s H E) body (tS K (fun cls d _ H => E cls d H) fS)) :
    FnG P w K mg base (k + 1) f (PySem.W.fnOf x qual params body scope dV kV doc pm an cdv ct) ps (runF N.length ps.length fS) where
  len := fun sl r h => by
    unfold runF at h
    cases hc : sl.length == ps.length && sl.all isLent with
    | false => simp [hc] at h
    | true =>
      simp at hc
      exact hc.1
  run := fun A outer s H args us vs Q E hr hg e0 hbd r hsp => by
    obtain ⟨R, sl, rr, hk, e, hF, hq⟩ := hsp
    have hpl : ps.length ≤ N.length := by
      have := congrArg List.length S.pre
      rw [List.length_take] at this
      omega
    have hlen := e.len
    rw [List.length_map] at hlen
    unfold runF at hF
    cases hc : sl.length == ps.length && sl.all isLent with
    | false => simp [hc] at hF
    | true =>
      simp only [hc] at hF
      simp only [Bool.and_eq_true, beq_iff_eq] at hc
      obtain ⟨hl, hla⟩ := hc
      have hlv : vs.length = ps.length := by omega
      have hus : us.length = ps.length := by rw [← r.length]; exact hlv
      have KX : K.In s.heap := e0.mod.kin.keeps fun b o q => (e0.bs b o q).1
      have lim : s.heap.NoLimit := e0.mod.nolimit.keeps fun b o q => (e0.bs b o q).1
      have hkind : ∀ y ∈ ps.zip us, scope.names.lookup y.1 = some .local ∨ (scope.names.lookup y.1 = some .cell ∧ ((cellsFrom (s.heap.objs.size + 1) scope.names []).lookup y.1).isSome = true) := by
        rintro ⟨nm, v⟩ hy
        rcases S.par nm (List.of_mem_zip hy).1 with q | q
        · exact .inl q
        · exact .inr ⟨q, PySem.W.cellsFrom_some _ _ _ (.inl q)⟩
      refine codeAny_call_function hr.depth (KX _ _ lk) rfl S.co S.gen rfl (PySem.W.codeRec_of KX hcd) (hbd _ _ _ _ ?_)
      refine wpAny_newFunctionEnv_cells S.kind hkind fun en1 hen1 s1 x => ?_
      subst hen1
      refine ⟨lim.keeps x.toInCall.keep, codeAny_func ?_⟩
      have hroom : Room k (A.deeper (PyProof.Rows.envOfC qual scope s.heap.objs.size f cdv)) := hr.deeper _
      have I : Inv (cxOf (L2.CX P w) P w K mg base N qual scope f cdv A outer s H E) [] (start N vs) H s1 := inv_start S hr.hd e0 hlv r x
      have fin : ∀ {σ' : St} {H' : Hp} {v : V} {u : Value} {s' : Shared}, Inv (cxOf (L2.CX P w) P w K mg base N qual scope f cdv A outer s H E) [] σ' H' s' → RelV v u → Q v H' → CE outer P w H s Q u s' :=
        fun {σ' H' v u s'} J rv q => ⟨v, H', J.os, J.bare, J.base, J.hok, rv, q⟩
      have D : tS K (fun cls d _ H => E cls d H) fS { nx := fun _ H' => Q .non H', rt := Q } (start N vs) H := by
        cases hf : fS (sl ++ List.replicate (N.length - ps.length) .no) with
        | none => simp [hf] at hF
        | some z =>
          refine ⟨R, _, z, hk, start_en (N := N) e hl hpl, hf, ?_⟩
          cases z with
          | ex xc ρ' =>
            cases ho : outSl sl ρ' with
            | none => simp [hf, ho] at hF
            | some sl' =>
              simp [hf, ho] at hF
              subst hF
              intro R' σ' H' cls d n ex
              obtain ⟨n2, t2⟩ := end_ny e hl hpl hla n ho rfl (fun _ h => h) fun _ h => .inl h
              exact hq H' cls d (n2.nx fun _ h => h) (ex.to t2)
          | ok fl ρ' =>
            cases fl with
            | bk => simp [hf] at hF
            | ct => simp [hf] at hF
            | nx =>
              cases ho : outSl sl ρ' with
              | none => simp [hf, ho] at hF
              | some sl' =>
                simp [hf, ho] at hF
                subst hF
                intro R' σ' H' n
                obtain ⟨n2, t2⟩ := end_ny e hl hpl hla n ho rfl (fun _ h => h) fun _ h => .inl h
                exact hq .non H' (n2.nx fun _ h => h) .non
            | rt d =>
              cases ho : outSl sl ρ' with
              | none => simp [hf, ho] at hF
              | some sl' =>
                simp [hf, ho] at hF
                subst hF
                cases d with
                | dat d =>
                  intro R' σ' H' v n dr
                  obtain ⟨n2, t2⟩ := end_ny e hl hpl hla n ho rfl (fun _ h => h) fun _ h => .inl h
                  exact hq v H' (n2.nx fun _ h => h) (DR.to t2 dr)
                | new o =>
                  rintro R' σ' H' v n ⟨p, rfl, ow, hp0⟩
                  have hp : H p = none := hp0.resolve_right fun ⟨i, u, z, _⟩ => by
                    by_cases hi : i < sl.length
                    · rw [List.getElem?_append_left hi] at z
                      have hb : isLent (.own false u) = true := List.all_eq_true.mp hla _ (List.mem_of_getElem? z)
                      cases hb
                    · rw [List.getElem?_append_right (by omega), List.getElem?_replicate] at z
                      split at z <;> cases z
                  obtain ⟨n2, t2⟩ := end_ny (R2 := R.wth p) e hl hpl hla n ho rfl (fun _ h => .inl h) (by
                    rintro a (h | rfl)
                    · exact .inl h
                    · exact .inr ⟨ow.m, hp⟩)
                  exact hq p H' hp n2 (ow.to t2 (.inr rfl) rfl)
      refine wpAny_mono ((hb A outer s H E hroom hg).run [] s1 (start N vs) H _ I D) (fun fl s' hs => ?_) fun e s' hs => hs
      cases fl with
      | ret u =>
        obtain ⟨v, σ', H', J, rv, q⟩ := hs
        exact fin J rv q
      | next =>
        obtain ⟨σ', H', J, q⟩ := hs
        exact fin (v := V.non) (u := Value.none) J rfl q
      | brk => exact hs.elim fun _ z => z.elim fun _ z => z.2.elim
      | cont => exact hs.elim fun _ z => z.elim fun _ z => z.2.elim
end
/-! ### a call -/
section
variable {X : Cx} {k : Nat} {f : Addr} {fd : FuncData} {ps : List Str} {F : Fn} {W : WX} {x : Str} {p pos : Pos} {e : Expr} {es : List Expr} {g : Mo (List Hd)}
theorem run_fnG {pins : List (Addr × Obj)} {σ : St} {H : Hp} {s : Shared} {Q : VK} {us : List Value} {kw : List (Str × Value)} {ws : List Value} {vs : List V} (G : FnG X.prog X.w X.K X.mg X.base k f fd ps F) (hr : Room k X.A) (hg : X.A.guards = some []) (tk : Takes X W)
    (hb : ∀ s : Shared, X.K.In s.heap → ws.length = ps.length → BindsTo s fd ⟨us, kw⟩ (ps.zip ws)) (I : Inv X pins σ H s) (r : Vals vs ws) (h : spF X.K F vs H Q fun cls d H' => W cls d σ H') :
    wpAny (model X.prog X.w) X.A (call (.ref f) us kw) (EP X pins σ Q) X.xe s := by
  have hl : ws.length = ps.length := by
    obtain ⟨R, sl, rr, _, e, hF, _⟩ := h
    have h1 := G.len sl rr hF
    have h2 := e.len
    rw [List.length_map] at h2
    rw [← r.length, ← h2, h1]
  refine wpAny_call (codeAny_mono (G.run X.A X.stack s H ⟨us, kw⟩ ws vs Q _ hr hg I.env0 (hb s I.kIn hl) r h) fun z s' hq => ?_)
  cases z with
  | error ex => exact tk ex s' (XE.of_call I (fun _ _ _ q => q) hq)
  | ok fl =>
    cases fl with
    | ret u => exact I.after hq
    | next => exact False.elim hq
    | brk => exact False.elim hq
    | cont => exact False.elim hq
/-- f(e, ..) -/
theorem pe_callG (G : FnG X.prog X.w X.K X.mg X.base k f fd ps F) (hr : Room k X.A) (hg : X.A.guards = some []) (tk : Takes X W) (gl : Gl X x) (hm : X.mg x = some (.ref f)) (hk : PySem.W.keepIn X.K (.ref f) = true) (hb : Binds X.K fd ps [])
    (ha : PA X (e :: es) (tAs X.K W g)) (hdb : (x == ("__debug__" : Str)) = false) (he : starEach (e :: es) X.env = (false, eval e X.env) :: starEach es X.env) (hpl : (backTo pos (starEach es X.env)).any (·.1) = false) :
    PE X (.Call (.Name x p) (e :: es) [] pos) (tN X.K W (Mo.bind g fun hs => callF F hs)) := by
  refine ⟨fun pins s σ H Q I h => ?_⟩
  have h2 := callF_ok h
  refine wpAny_Call_Name_kw (ld_glob I gl hm ?_ hdb)
  refine PySem.W.callWith_K (h₀ := X.base) I.ok.mod.kin hk (thn (ha.run pos pins s σ H _ I h2) fun us s1 ⟨vs, H1, I1, r, q⟩ => ⟨I1.kIn, ?_⟩) he hpl
  exact run_fnG G hr hg tk (fun s hK hl => by
    have := hb s us hK (by simpa using hl)
    simpa using this) I1 r q
end
end Mi
set_option Elab.async false
set_option linter.all false
set_option maxRecDepth 100000
set_option maxHeartbeats 2000000
/-! M5: == of plain data -/
namespace Mi
open PySem L2

/-- all the same as far as both go, and of one length -/
def eqAll (f : D → D → Option Bool) : List D → List D → Option Bool
  | [], [] => some true
  | [], _ :: _ => some false
  | _ :: _, [] => some false
  | x :: xs, y :: ys => match f x y, eqAll f xs ys with
    | some a, some b => some (a && b)
    | _, _ => none
def eqF : Nat → D → D → Option Bool
  | 0, _, _ => none
  | n + 1, a, b => match a, b with
    | .lst xs, .lst ys => if xs.length == ys.length then eqAll (eqF n) xs ys else some false
    | .tup xs, .tup ys => eqAll (eqF n) xs ys
    | .non, .non => some true
    | .bl a, .bl b => some (a == b)
    | .bl a, .int j => some ((if a then 1 else 0) == j)
    | .int i, .bl b => some (i == (if b then 1 else 0))
    | .int i, .int j => some (i == j)
    | .str x, .str y => some (x == y)
    | .non, .bl _ => some false
    | .non, .int _ => some false
    | .non, .str _ => some false
    | .non, .lst _ => some false
    | .non, .tup _ => some false
    | .bl _, .non => some false
    | .bl _, .str _ => some false
    | .bl _, .lst _ => some false
    | .bl _, .tup _ => some false
    | .int _, .non => some false
    | .int _, .str _ => some false
    | .int _, .lst _ => some false
    | .int _, .tup _ => some false
    | .str _, .non => some false
    | .str _, .bl _ => some false
    | .str _, .int _ => some false
    | .str _, .lst _ => some false
    | .str _, .tup _ => some false
    | .lst _, .non => some false
    | .lst _, .bl _ => some false
    | .lst _, .int _ => some false
    | .lst _, .str _ => some false
    | .lst _, .tup _ => some false
    | .tup _, .non => some false
    | .tup _, .bl _ => some false
    | .tup _, .int _ => some false
    | .tup _, .str _ => some false
    | .tup _, .lst _ => some false
    | _, _ => none

def RC.z (R : RC) : RC := ⟨R.K, fun _ => False⟩
theorem to_z {R : RC} {H : Hp} : To R H R.z H := ⟨rfl, fun _ h => h.elim, Keep.refl⟩
theorem AR.z {R : RC} {H : Hp} {d : D} {x : V} (h : AR R H d x) : DR R.z H d x := by
  rcases h with h | ⟨o, a, rfl, rfl, h⟩
  · exact h.to to_z
  · have := h.dr to_z (fun z => z)
    cases o <;> exact this
theorem ARs.z {R : RC} {H : Hp} : ∀ {ds : List D} {xs : List V}, ARs R H ds xs → DRs R.z H ds xs
  | _, _, .nil => .nil
  | _, _, .cons a b => .cons a.z (ARs.z b)

theorem eqAll_fn {f : D → D → Option Bool} : ∀ {xs ys : List D} {e : Bool}, eqAll f xs ys = some e →
    ∃ g : Nat → Bool, (∀ (j : Nat) (x y : D), xs[j]? = some x → ys[j]? = some y → f x y = some (g j)) ∧ e = ((List.range (min xs.length ys.length)).all g && xs.length == ys.length)
  | [], [], e, h => by
    cases h
    exact ⟨fun _ => true, fun j x y h => by simp at h, rfl⟩
  | [], y :: ys, e, h => by
    cases h
    exact ⟨fun _ => true, fun j x y h => by simp at h, by simp⟩
  | x :: xs, [], e, h => by
    cases h
    exact ⟨fun _ => true, fun j x y _ h => by simp at h, by simp⟩
  | x :: xs, y :: ys, e, h => by
    unfold eqAll at h
    cases h1 : f x y with
    | none => simp [h1] at h
    | some a =>
      cases h2 : eqAll f xs ys with
      | none => simp [h1, h2] at h
      | some b =>
        simp [h1, h2] at h
        obtain ⟨g, g1, g2⟩ := eqAll_fn h2
        refine ⟨fun j => match j with | 0 => a | j + 1 => g j, fun j x' y' e1 e2 => ?_, ?_⟩
        · cases j with
          | zero =>
            simp at e1 e2
            subst e1 e2
            exact h1
          | succ j => exact g1 j x' y' (by simpa using e1) (by simpa using e2)
        · rw [← h, g2]
          have hm : min (x :: xs).length (y :: ys).length = min xs.length ys.length + 1 := by simp [Nat.succ_min_succ]
          rw [hm, List.range_succ_eq_map, List.all_cons, List.all_map]
          have : (fun j => match j with | 0 => a | j + 1 => g j) ∘ Nat.succ = g := rfl
          simp only [Function.comp_def, List.length_cons]
          simp [Bool.and_assoc]
theorem eqAll_same {f : D → D → Option Bool} (hf : ∀ x e, f x x = some e → e = true) : ∀ {xs : List D} {e : Bool}, eqAll f xs xs = some e → e = true
  | [], e, h => by
    cases h
    rfl
  | x :: xs, e, h => by
    unfold eqAll at h
    cases h1 : f x x with
    | none => simp [h1] at h
    | some a =>
      cases h2 : eqAll f xs xs with
      | none => simp [h1, h2] at h
      | some b =>
        simp [h1, h2] at h
        rw [← h, hf _ _ h1, eqAll_same hf h2]
        rfl
theorem eqF_same : ∀ {n : Nat} {x : D} {e : Bool}, eqF n x x = some e → e = true
  | 0, x, e, h => by cases h
  | n + 1, x, e, h => by
    cases x with
    | lst xs => simp only [eqF, beq_self_eq_true, if_true] at h; exact eqAll_same (fun _ _ q => eqF_same q) h
    | tup xs => simp only [eqF] at h; exact eqAll_same (fun _ _ q => eqF_same q) h
    | dct kvs => simp [eqF] at h
    | exc c fs => simp [eqF] at h
    | frz xs => simp [eqF] at h
    | ref l => simp [eqF] at h
    | non => simpa [eqF] using h.symm
    | bl b => simpa [eqF] using h.symm
    | int i => simpa [eqF] using h.symm
    | str s => simpa [eqF] using h.symm

/-! ### what stands there -/
inductive Fm (R : RC) (H : Hp) (s : Shared) : D → Value → Prop
  | non : Fm R H s .non .none
  | bl (b : Bool) : Fm R H s (.bl b) (.bool b)
  | int (i : Int) (t : Tok) : Fm R H s (.int i) (.int i t)
  | str (x : List Nat) (t : Tok) : Fm R H s (.str x) (.str ⟨x.toArray⟩ t)
  | lst {a : Addr} {its : List Value} {xs : List V} {ds : List D} : s.heap.IsList a its.toArray → Vals xs its → DRs R H ds xs → Fm R H s (.lst ds) (.ref a)
  | tup {a : Addr} {its : List Value} {xs : List V} {ds : List D} : s.heap.IsTuple a its.toArray → Vals xs its → DRs R H ds xs → Fm R H s (.tup ds) (.ref a)
  | frz {u : Value} {ds : List D} : Fm R H s (.frz ds) u
  | dct {u : Value} {ds : List (D × D)} : Fm R H s (.dct ds) u
  | exc {u : Value} {c : Str} {fs : List (Str × D)} : Fm R H s (.exc c fs) u
section
variable {X : Cx} {pins : List (Addr × Obj)} {σ : St} {H : Hp} {s : Shared} {R : RC}
theorem form_of (I : Inv X pins σ H s) (hK : R.K = X.K) {d : D} {x : V} {u : Value} (r : DR R H d x) (q : RelV x u) : Fm R H s d u := by
  cases r with
  | non => cases q; exact .non
  | bl b => cases q; exact .bl b
  | int i => obtain ⟨t, rfl⟩ := q; exact .int i t
  | str y => obtain ⟨t, rfl⟩ := q; exact .str y t
  | lst h1 h2 =>
    cases q
    obtain ⟨its, r, p, z⟩ := I.list (by rw [← hK]; exact h1.sq)
    exact .lst p.isList r h2
  | tup h1 h2 =>
    cases q
    obtain ⟨its, r, p, z⟩ := I.tuple (by rw [← hK]; exact h1.sq)
    exact .tup p r h2
  | frz h1 h2 => exact .frz
  | dct h1 h2 h3 => exact .dct
  | exc h1 h2 h3 => exact .exc
theorem arr_inj {a b : List Nat} (h : (⟨a.toArray⟩ : Str) = ⟨b.toArray⟩) : a = b := by
  have h1 : a.toArray = b.toArray := congrArg Str.cps h
  simpa using congrArg Array.toList h1
theorem DR.inv_str {z : Str} {d : D} (h : DR R H d (.str z)) : ∃ c, d = .str c ∧ z = ⟨c.toArray⟩ := by
  generalize hx : V.str z = x at h
  cases h <;> cases hx
  exact ⟨_, rfl, rfl⟩
theorem str_beq {a b : List Nat} : ((⟨a.toArray⟩ : Str) == ⟨b.toArray⟩) = (a == b) := by
  by_cases h : a = b
  · subst h
    simp
  · have h2 : ¬ (⟨a.toArray⟩ : Str) = ⟨b.toArray⟩ := fun z => h (arr_inj z)
    rw [beq_eq_false_iff_ne.mpr h, beq_eq_false_iff_ne.mpr h2]
theorem eqAll_one {f : D → D → Option Bool} (hf : ∀ d d' v e, f d d' = some e → DR R H d v → DR R H d' v → e = true) : ∀ {xs ys : List D} {vs : List V} {e : Bool}, eqAll f xs ys = some e → DRs R H xs vs → DRs R H ys vs → e = true
  | [], ys, vs, e, h, r, g => by
    cases r
    cases g
    cases h
    rfl
  | x :: xs, _, _, e, h, .cons a b, .cons c d => by
    unfold eqAll at h
    rename_i y ys _ _
    cases h1 : f x y with
    | none => simp [h1] at h
    | some p =>
      cases h2 : eqAll f xs ys with
      | none => simp [h1, h2] at h
      | some q =>
        simp [h1, h2] at h
        rw [← h, hf _ _ _ _ h1 a c, eqAll_one hf h2 b d]
        rfl
theorem eq_one (I : Inv X pins σ H s) (hK : R.K = X.K) : ∀ (n : Nat) (d d' : D) (v : V) (e : Bool), eqF n d d' = some e → DR R H d v → DR R H d' v → e = true
  | 0, _, _, _, _, h, _, _ => by cases h
  | n + 1, d, d', v, e, h, r, q => by
    cases v with
    | non => cases r; cases q; simpa [eqF] using h.symm
    | bl b => cases r; cases q; simpa [eqF] using h.symm
    | int i => cases r; cases q; simpa [eqF] using h.symm
    | str z =>
      obtain ⟨c, rfl, e1⟩ := r.inv_str
      obtain ⟨c', rfl, e2⟩ := q.inv_str
      have := arr_inj (e1.symm.trans e2)
      subst this
      simpa [eqF] using h.symm
    | ref a =>
      cases r with
      | lst h1 h2 =>
        cases q with
        | lst g1 g2 =>
          have z := h1.1.symm.trans g1.1
          cases z
          simp only [eqF] at h
          split at h
          · exact eqAll_one (eq_one I hK n) h h2 g2
          · rename_i hn
            rw [h2.len, g2.len] at hn
            simp at hn
        | tup g1 g2 =>
          obtain ⟨_, _, p, _⟩ := I.tuple (by rw [← hK]; exact g1.sq)
          obtain ⟨_, _, q, _⟩ := I.list (by rw [← hK]; exact h1.sq)
          obtain ⟨o, e1, c1, _⟩ := p
          obtain ⟨o2, n2, e2, c2, _⟩ := q
          rw [e1] at e2
          cases e2
          rw [c1] at c2
          exact absurd c2 (by decide)
        | frz g1 g2 => simp [eqF] at h
        | dct g1 g2 g3 => simp [eqF] at h
        | exc g1 g2 g3 => simp [eqF] at h
      | tup h1 h2 =>
        cases q with
        | tup g1 g2 =>
          have z := I.tuple_inj (by rw [← hK]; exact h1.sq) (by rw [← hK]; exact g1.sq)
          cases z
          simp only [eqF] at h
          exact eqAll_one (eq_one I hK n) h h2 g2
        | lst g1 g2 =>
          obtain ⟨_, _, p, _⟩ := I.tuple (by rw [← hK]; exact h1.sq)
          obtain ⟨_, _, q, _⟩ := I.list (by rw [← hK]; exact g1.sq)
          obtain ⟨o, e1, c1, _⟩ := p
          obtain ⟨o2, n2, e2, c2, _⟩ := q
          rw [e1] at e2
          cases e2
          rw [c1] at c2
          exact absurd c2 (by decide)
        | frz g1 g2 => simp [eqF] at h
        | dct g1 g2 g3 => simp [eqF] at h
        | exc g1 g2 g3 => simp [eqF] at h
      | frz h1 h2 => simp [eqF] at h
      | dct h1 h2 h3 => simp [eqF] at h
      | exc h1 h2 h3 => simp [eqF] at h
    | byt b => cases r
    | flt b => cases r
    | ty b => cases r
theorem RelV.inj2 {a : Addr} {x y : V} (r : RelV x (.ref a)) (q : RelV y (.ref a)) : x = y := RelV.inj r q
/-- what is asked of the items -/
def EqAtN (X : Cx) (R : RC) (H : Hp) (s : Shared) (n : Nat) : Prop := ∀ (A : Around) (a b : D) (x y : V) (u v : Value) (e : Bool), A.units + n < cLine → eqF n a b = some e → DR R H a x → DR R H b y → RelV x u → RelV y v → SeqAt.EqAt A s u v e
theorem items_eq {n : Nat} {A : Around} (ih : EqAtN X R H s n) (hu : A.units + n < cLine) {ds es : List D} {xs ys : List V} {its its2 : List Value} (va : Vals xs its) (vb : Vals ys its2) (da : DRs R H ds xs) (db : DRs R H es ys)
    {g : Nat → Bool} (hg : ∀ (j : Nat) (x y : D), ds[j]? = some x → es[j]? = some y → eqF n x y = some (g j)) (j : Nat) (h1 : j < its.toArray.size) (h2 : j < its2.toArray.size) : SeqAt.EqAt A s its.toArray[j] its2.toArray[j] (g j) := by
  simp only [List.size_toArray] at h1 h2
  have l1 := va.length
  have l2 := vb.length
  have e1 : xs[j]? = some xs[j] := by simp [l1, h1]
  have e2 : ys[j]? = some ys[j] := by simp [l2, h2]
  obtain ⟨d, k1, k2⟩ := da.getV e1
  obtain ⟨d', k3, k4⟩ := db.getV e2
  obtain ⟨u, m1, m2⟩ := va.get e1
  obtain ⟨v, m3, m4⟩ := vb.get e2
  have z1 : its[j] = u := by
    rw [List.getElem?_eq_getElem h1] at m1
    exact Option.some.inj m1
  have z2 : its2[j] = v := by
    rw [List.getElem?_eq_getElem h2] at m3
    exact Option.some.inj m3
  simp only [List.getElem_toArray]
  rw [z1, z2]
  exact ih A d d' _ _ u v (g j) hu (hg j d d' k1 k3) k2 k4 m2 m4
theorem in1_units {A : Around} {n : Nat} (hu : A.units + (n + 1) < cLine) : A.in1.units + n < cLine := by
  show A.units + 1 + n < cLine
  omega
theorem rc_lists (I : Inv X pins σ H s) (hK : R.K = X.K) {n : Nat} {A : Around} (ih : EqAtN X R H s n) (hu : A.units + (n + 1) < cLine) {a1 a2 : Addr} {ds es : List D} {xs ys : List V} {its its2 : List Value} {e : Bool} (pa : s.heap.IsList a1 its.toArray) (pb : s.heap.IsList a2 its2.toArray) (va : Vals xs its) (vb : Vals ys its2) (da : DRs R H ds xs) (db : DRs R H es ys)
    (h : eqF (n + 1) (.lst ds) (.lst es) = some e) : SeqAt.RcAt A s (.ref a1) (.ref a2) e ∧ SeqAt.RcNeAt A s (.ref a1) (.ref a2) (!e) := by
  have l1 := va.length
  have l2 := vb.length
  have l3 := da.len
  have l4 := db.len
  have hu0 : A.units < cLine := by omega
  simp only [eqF] at h
  split at h
  · rename_i hl
    have hl' : ds.length = es.length := by simpa using hl
    obtain ⟨g, g1, g2⟩ := eqAll_fn h
    have hs : its.toArray.size = its2.toArray.size := by simp only [List.size_toArray]; omega
    have hm : e = (List.range its.toArray.size).all g := by
      rw [g2]
      have : min ds.length es.length = its.toArray.size := by simp only [List.size_toArray]; omega
      rw [this]
      simp [hl']
    rw [hm]
    exact ⟨SeqAt.RcAt.lists pa pb hs hu0 fun j h1 h2 => items_eq ih (in1_units hu) va vb da db g1 j h1 h2, SeqAt.RcNeAt.lists pa pb hs hu0 fun j h1 h2 => items_eq ih (in1_units hu) va vb da db g1 j h1 h2⟩
  · rename_i hl
    have hl' : ¬ ds.length = es.length := by simpa using hl
    cases h
    have hs : (its.toArray.size != its2.toArray.size) = true := by
      simp only [List.size_toArray, bne_iff_ne, ne_eq]
      omega
    exact ⟨SeqAt.RcAt.lists_lengths pa pb hs hu0, SeqAt.RcNeAt.lists_lengths pa pb hs hu0⟩
theorem rc_tuples (I : Inv X pins σ H s) (hK : R.K = X.K) {n : Nat} {A : Around} (ih : EqAtN X R H s n) (hu : A.units + (n + 1) < cLine) {a1 a2 : Addr} {ds es : List D} {xs ys : List V} {its its2 : List Value} {e : Bool} (pa : s.heap.IsTuple a1 its.toArray) (pb : s.heap.IsTuple a2 its2.toArray) (va : Vals xs its) (vb : Vals ys its2) (da : DRs R H ds xs) (db : DRs R H es ys)
    (h : eqF (n + 1) (.tup ds) (.tup es) = some e) : SeqAt.RcAt A s (.ref a1) (.ref a2) e ∧ SeqAt.RcNeAt A s (.ref a1) (.ref a2) (!e) := by
  have l1 := va.length
  have l2 := vb.length
  have l3 := da.len
  have l4 := db.len
  have hu0 : A.units < cLine := by omega
  simp only [eqF] at h
  obtain ⟨g, g1, g2⟩ := eqAll_fn h
  have hm : e = ((List.range (min its.toArray.size its2.toArray.size)).all g && its.toArray.size == its2.toArray.size) := by
    rw [g2]
    have e1 : ds.length = its.toArray.size := by simp only [List.size_toArray]; omega
    have e2 : es.length = its2.toArray.size := by simp only [List.size_toArray]; omega
    rw [e1, e2]
  rw [hm]
  exact ⟨SeqAt.RcAt.tuples pa pb hu0 fun j h1 h2 => items_eq ih (in1_units hu) va vb da db g1 j h1 h2, SeqAt.RcNeAt.tuples pa pb hu0 fun j h1 h2 => items_eq ih (in1_units hu) va vb da db g1 j h1 h2⟩
theorem eq_at (I : Inv X pins σ H s) (hK : R.K = X.K) : ∀ (n : Nat), EqAtN X R H s n
  | 0, A, a, b, x, y, u, v, e, hu, h, r, q, ru, rv => by cases h
  | n + 1, A, a, b, x, y, u, v, e, hu, h, r, q, ru, rv => by
    have hu0 : A.units < cLine := by omega
    have fa := form_of I hK r ru
    have fb := form_of I hK q rv
    cases fa with
    | non =>
      cases fb with
      | non =>
        simp only [eqF, Option.some.injEq] at h
        rw [← h]
        exact SeqAt.EqAt.same _
      | bl b2 =>
        simp only [eqF, Option.some.injEq] at h
        rw [← h]
        exact SeqAt.EqAt.none_bool b2 
      | int i2 t2 =>
        simp only [eqF, Option.some.injEq] at h
        rw [← h]
        exact SeqAt.EqAt.none_int i2 t2 
      | str x2 t2 =>
        simp only [eqF, Option.some.injEq] at h
        rw [← h]
        exact SeqAt.EqAt.none_str ⟨x2.toArray⟩ t2 
      | lst pb vb db =>
        simp only [eqF, Option.some.injEq] at h
        rw [← h]
        exact SeqAt.EqAt.none_list  pb hu0
      | tup pb vb db =>
        simp only [eqF, Option.some.injEq] at h
        rw [← h]
        exact SeqAt.EqAt.none_tuple  pb hu0
      | frz => simp [eqF] at h
      | dct => simp [eqF] at h
      | exc => simp [eqF] at h
    | bl b =>
      cases fb with
      | non =>
        simp only [eqF, Option.some.injEq] at h
        rw [← h]
        exact SeqAt.EqAt.bool_none b 
      | bl b2 =>
        simp only [eqF, Option.some.injEq] at h
        rw [← h]
        exact SeqAt.EqAt.bool_bool b b2 
      | int i2 t2 =>
        simp only [eqF, Option.some.injEq] at h
        rw [← h]
        exact SeqAt.EqAt.bool_int b i2 t2 
      | str x2 t2 =>
        simp only [eqF, Option.some.injEq] at h
        rw [← h]
        exact SeqAt.EqAt.bool_str b ⟨x2.toArray⟩ t2 
      | lst pb vb db =>
        simp only [eqF, Option.some.injEq] at h
        rw [← h]
        exact SeqAt.EqAt.bool_list b pb hu0
      | tup pb vb db =>
        simp only [eqF, Option.some.injEq] at h
        rw [← h]
        exact SeqAt.EqAt.bool_tuple b pb hu0
      | frz => simp [eqF] at h
      | dct => simp [eqF] at h
      | exc => simp [eqF] at h
    | int i t =>
      cases fb with
      | non =>
        simp only [eqF, Option.some.injEq] at h
        rw [← h]
        exact SeqAt.EqAt.int_none i t 
      | bl b2 =>
        simp only [eqF, Option.some.injEq] at h
        rw [← h]
        exact SeqAt.EqAt.int_bool i t b2 
      | int i2 t2 =>
        simp only [eqF, Option.some.injEq] at h
        rw [← h]
        exact SeqAt.EqAt.int_int i t i2 t2 
      | str x2 t2 =>
        simp only [eqF, Option.some.injEq] at h
        rw [← h]
        exact SeqAt.EqAt.int_str i t ⟨x2.toArray⟩ t2 
      | lst pb vb db =>
        simp only [eqF, Option.some.injEq] at h
        rw [← h]
        exact SeqAt.EqAt.int_list i t pb hu0
      | tup pb vb db =>
        simp only [eqF, Option.some.injEq] at h
        rw [← h]
        exact SeqAt.EqAt.int_tuple i t pb hu0
      | frz => simp [eqF] at h
      | dct => simp [eqF] at h
      | exc => simp [eqF] at h
    | str x t =>
      cases fb with
      | non =>
        simp only [eqF, Option.some.injEq] at h
        rw [← h]
        exact SeqAt.EqAt.str_none ⟨x.toArray⟩ t 
      | bl b2 =>
        simp only [eqF, Option.some.injEq] at h
        rw [← h]
        exact SeqAt.EqAt.str_bool ⟨x.toArray⟩ t b2 
      | int i2 t2 =>
        simp only [eqF, Option.some.injEq] at h
        rw [← h]
        exact SeqAt.EqAt.str_int ⟨x.toArray⟩ t i2 t2 
      | str x2 t2 =>
        simp only [eqF, Option.some.injEq] at h
        rw [← h, ← str_beq]
        exact SeqAt.EqAt.str_str ⟨x.toArray⟩ t ⟨x2.toArray⟩ t2 
      | lst pb vb db =>
        simp only [eqF, Option.some.injEq] at h
        rw [← h]
        exact SeqAt.EqAt.str_list ⟨x.toArray⟩ t pb hu0
      | tup pb vb db =>
        simp only [eqF, Option.some.injEq] at h
        rw [← h]
        exact SeqAt.EqAt.str_tuple ⟨x.toArray⟩ t pb hu0
      | frz => simp [eqF] at h
      | dct => simp [eqF] at h
      | exc => simp [eqF] at h
    | lst pa va da =>
      cases fb with
      | non =>
        simp only [eqF, Option.some.injEq] at h
        rw [← h]
        exact SeqAt.EqAt.list_none  pa hu0
      | bl b2 =>
        simp only [eqF, Option.some.injEq] at h
        rw [← h]
        exact SeqAt.EqAt.list_bool b2 pa hu0
      | int i2 t2 =>
        simp only [eqF, Option.some.injEq] at h
        rw [← h]
        exact SeqAt.EqAt.list_int i2 t2 pa hu0
      | str x2 t2 =>
        simp only [eqF, Option.some.injEq] at h
        rw [← h]
        exact SeqAt.EqAt.list_str ⟨x2.toArray⟩ t2 pa hu0
      | lst pb vb db =>
        rename_i a1 its xs ds a2 its2 ys es
        by_cases hab : a1 = a2
        · subst hab
          rw [eq_one I hK (n + 1) _ _ _ _ h r (by rw [RelV.inj2 ru rv]; exact q)]
          exact SeqAt.EqAt.same _
        · exact SeqAt.EqAt.of_refs hab (rc_lists I hK (fun A a b x y u v e k1 k2 k3 k4 k5 k6 => eq_at I hK n A a b x y u v e k1 k2 k3 k4 k5 k6) hu pa pb va vb da db h).1
      | tup pb vb db =>
        simp only [eqF, Option.some.injEq] at h
        rw [← h]
        exact SeqAt.EqAt.list_tuple  pa pb hu0
      | frz => simp [eqF] at h
      | dct => simp [eqF] at h
      | exc => simp [eqF] at h
    | tup pa va da =>
      cases fb with
      | non =>
        simp only [eqF, Option.some.injEq] at h
        rw [← h]
        exact SeqAt.EqAt.tuple_none  pa hu0
      | bl b2 =>
        simp only [eqF, Option.some.injEq] at h
        rw [← h]
        exact SeqAt.EqAt.tuple_bool b2 pa hu0
      | int i2 t2 =>
        simp only [eqF, Option.some.injEq] at h
        rw [← h]
        exact SeqAt.EqAt.tuple_int i2 t2 pa hu0
      | str x2 t2 =>
        simp only [eqF, Option.some.injEq] at h
        rw [← h]
        exact SeqAt.EqAt.tuple_str ⟨x2.toArray⟩ t2 pa hu0
      | lst pb vb db =>
        simp only [eqF, Option.some.injEq] at h
        rw [← h]
        exact SeqAt.EqAt.tuple_list  pa pb hu0
      | tup pb vb db =>
        rename_i a1 its xs ds a2 its2 ys es
        by_cases hab : a1 = a2
        · subst hab
          rw [eq_one I hK (n + 1) _ _ _ _ h r (by rw [RelV.inj2 ru rv]; exact q)]
          exact SeqAt.EqAt.same _
        · exact SeqAt.EqAt.of_refs hab (rc_tuples I hK (fun A a b x y u v e k1 k2 k3 k4 k5 k6 => eq_at I hK n A a b x y u v e k1 k2 k3 k4 k5 k6) hu pa pb va vb da db h).1
      | frz => simp [eqF] at h
      | dct => simp [eqF] at h
      | exc => simp [eqF] at h
    | frz => simp [eqF] at h
    | dct => simp [eqF] at h
    | exc => simp [eqF] at h
theorem rc_at (I : Inv X pins σ H s) (hK : R.K = X.K) {n : Nat} {A : Around} {a b : D} {x y : V} {u v : Value} {e : Bool} (hu : A.units + (n + 1) < cLine) (h : eqF (n + 1) a b = some e) (r : DR R H a x) (q : DR R H b y) (ru : RelV x u) (rv : RelV y v) : SeqAt.RcAt A s u v e := by
    have hu0 : A.units < cLine := by omega
    have fa := form_of I hK r ru
    have fb := form_of I hK q rv
    cases fa with
    | non =>
      cases fb with
      | non =>
        simp only [eqF, Option.some.injEq] at h
        rw [← h]
        exact SeqAt.RcAt.none_none  
      | bl b2 =>
        simp only [eqF, Option.some.injEq] at h
        rw [← h]
        exact SeqAt.RcAt.none_bool b2 
      | int i2 t2 =>
        simp only [eqF, Option.some.injEq] at h
        rw [← h]
        exact SeqAt.RcAt.none_int i2 t2 
      | str x2 t2 =>
        simp only [eqF, Option.some.injEq] at h
        rw [← h]
        exact SeqAt.RcAt.none_str ⟨x2.toArray⟩ t2 
      | lst pb vb db =>
        simp only [eqF, Option.some.injEq] at h
        rw [← h]
        exact SeqAt.RcAt.none_list  pb hu0
      | tup pb vb db =>
        simp only [eqF, Option.some.injEq] at h
        rw [← h]
        exact SeqAt.RcAt.none_tuple  pb hu0
      | frz => simp [eqF] at h
      | dct => simp [eqF] at h
      | exc => simp [eqF] at h
    | bl b =>
      cases fb with
      | non =>
        simp only [eqF, Option.some.injEq] at h
        rw [← h]
        exact SeqAt.RcAt.bool_none b 
      | bl b2 =>
        simp only [eqF, Option.some.injEq] at h
        rw [← h]
        exact SeqAt.RcAt.bool_bool b b2 
      | int i2 t2 =>
        simp only [eqF, Option.some.injEq] at h
        rw [← h]
        exact SeqAt.RcAt.bool_int b i2 t2 
      | str x2 t2 =>
        simp only [eqF, Option.some.injEq] at h
        rw [← h]
        exact SeqAt.RcAt.bool_str b ⟨x2.toArray⟩ t2 
      | lst pb vb db =>
        simp only [eqF, Option.some.injEq] at h
        rw [← h]
        exact SeqAt.RcAt.bool_list b pb hu0
      | tup pb vb db =>
        simp only [eqF, Option.some.injEq] at h
        rw [← h]
        exact SeqAt.RcAt.bool_tuple b pb hu0
      | frz => simp [eqF] at h
      | dct => simp [eqF] at h
      | exc => simp [eqF] at h
    | int i t =>
      cases fb with
      | non =>
        simp only [eqF, Option.some.injEq] at h
        rw [← h]
        exact SeqAt.RcAt.int_none i t 
      | bl b2 =>
        simp only [eqF, Option.some.injEq] at h
        rw [← h]
        exact SeqAt.RcAt.int_bool i t b2 
      | int i2 t2 =>
        simp only [eqF, Option.some.injEq] at h
        rw [← h]
        exact SeqAt.RcAt.int_int i t i2 t2 
      | str x2 t2 =>
        simp only [eqF, Option.some.injEq] at h
        rw [← h]
        exact SeqAt.RcAt.int_str i t ⟨x2.toArray⟩ t2 
      | lst pb vb db =>
        simp only [eqF, Option.some.injEq] at h
        rw [← h]
        exact SeqAt.RcAt.int_list i t pb hu0
      | tup pb vb db =>
        simp only [eqF, Option.some.injEq] at h
        rw [← h]
        exact SeqAt.RcAt.int_tuple i t pb hu0
      | frz => simp [eqF] at h
      | dct => simp [eqF] at h
      | exc => simp [eqF] at h
    | str x t =>
      cases fb with
      | non =>
        simp only [eqF, Option.some.injEq] at h
        rw [← h]
        exact SeqAt.RcAt.str_none ⟨x.toArray⟩ t 
      | bl b2 =>
        simp only [eqF, Option.some.injEq] at h
        rw [← h]
        exact SeqAt.RcAt.str_bool ⟨x.toArray⟩ t b2 
      | int i2 t2 =>
        simp only [eqF, Option.some.injEq] at h
        rw [← h]
        exact SeqAt.RcAt.str_int ⟨x.toArray⟩ t i2 t2 
      | str x2 t2 =>
        simp only [eqF, Option.some.injEq] at h
        rw [← h, ← str_beq]
        exact SeqAt.RcAt.str_str ⟨x.toArray⟩ t ⟨x2.toArray⟩ t2 
      | lst pb vb db =>
        simp only [eqF, Option.some.injEq] at h
        rw [← h]
        exact SeqAt.RcAt.str_list ⟨x.toArray⟩ t pb hu0
      | tup pb vb db =>
        simp only [eqF, Option.some.injEq] at h
        rw [← h]
        exact SeqAt.RcAt.str_tuple ⟨x.toArray⟩ t pb hu0
      | frz => simp [eqF] at h
      | dct => simp [eqF] at h
      | exc => simp [eqF] at h
    | lst pa va da =>
      cases fb with
      | non =>
        simp only [eqF, Option.some.injEq] at h
        rw [← h]
        exact SeqAt.RcAt.list_none  pa hu0
      | bl b2 =>
        simp only [eqF, Option.some.injEq] at h
        rw [← h]
        exact SeqAt.RcAt.list_bool b2 pa hu0
      | int i2 t2 =>
        simp only [eqF, Option.some.injEq] at h
        rw [← h]
        exact SeqAt.RcAt.list_int i2 t2 pa hu0
      | str x2 t2 =>
        simp only [eqF, Option.some.injEq] at h
        rw [← h]
        exact SeqAt.RcAt.list_str ⟨x2.toArray⟩ t2 pa hu0
      | lst pb vb db =>
        exact (rc_lists I hK (eq_at I hK n) hu pa pb va vb da db h).1
      | tup pb vb db =>
        simp only [eqF, Option.some.injEq] at h
        rw [← h]
        exact SeqAt.RcAt.list_tuple  pa pb hu0
      | frz => simp [eqF] at h
      | dct => simp [eqF] at h
      | exc => simp [eqF] at h
    | tup pa va da =>
      cases fb with
      | non =>
        simp only [eqF, Option.some.injEq] at h
        rw [← h]
        exact SeqAt.RcAt.tuple_none  pa hu0
      | bl b2 =>
        simp only [eqF, Option.some.injEq] at h
        rw [← h]
        exact SeqAt.RcAt.tuple_bool b2 pa hu0
      | int i2 t2 =>
        simp only [eqF, Option.some.injEq] at h
        rw [← h]
        exact SeqAt.RcAt.tuple_int i2 t2 pa hu0
      | str x2 t2 =>
        simp only [eqF, Option.some.injEq] at h
        rw [← h]
        exact SeqAt.RcAt.tuple_str ⟨x2.toArray⟩ t2 pa hu0
      | lst pb vb db =>
        simp only [eqF, Option.some.injEq] at h
        rw [← h]
        exact SeqAt.RcAt.tuple_list  pa pb hu0
      | tup pb vb db =>
        exact (rc_tuples I hK (eq_at I hK n) hu pa pb va vb da db h).1
      | frz => simp [eqF] at h
      | dct => simp [eqF] at h
      | exc => simp [eqF] at h
    | frz => simp [eqF] at h
    | dct => simp [eqF] at h
    | exc => simp [eqF] at h
theorem ne_at (I : Inv X pins σ H s) (hK : R.K = X.K) {n : Nat} {A : Around} {a b : D} {x y : V} {u v : Value} {e : Bool} (hu : A.units + (n + 1) < cLine) (h : eqF (n + 1) a b = some e) (r : DR R H a x) (q : DR R H b y) (ru : RelV x u) (rv : RelV y v) : SeqAt.RcNeAt A s u v (!e) := by
    have hu0 : A.units < cLine := by omega
    have fa := form_of I hK r ru
    have fb := form_of I hK q rv
    cases fa with
    | non =>
      cases fb with
      | non =>
        simp only [eqF, Option.some.injEq] at h
        rw [← h]
        exact SeqAt.RcNeAt.none_none  
      | bl b2 =>
        simp only [eqF, Option.some.injEq] at h
        rw [← h]
        exact SeqAt.RcNeAt.none_bool b2 
      | int i2 t2 =>
        simp only [eqF, Option.some.injEq] at h
        rw [← h]
        exact SeqAt.RcNeAt.none_int i2 t2 
      | str x2 t2 =>
        simp only [eqF, Option.some.injEq] at h
        rw [← h]
        exact SeqAt.RcNeAt.none_str ⟨x2.toArray⟩ t2 
      | lst pb vb db =>
        simp only [eqF, Option.some.injEq] at h
        rw [← h]
        exact SeqAt.RcNeAt.none_list  pb hu0
      | tup pb vb db =>
        simp only [eqF, Option.some.injEq] at h
        rw [← h]
        exact SeqAt.RcNeAt.none_tuple  pb hu0
      | frz => simp [eqF] at h
      | dct => simp [eqF] at h
      | exc => simp [eqF] at h
    | bl b =>
      cases fb with
      | non =>
        simp only [eqF, Option.some.injEq] at h
        rw [← h]
        exact SeqAt.RcNeAt.bool_none b 
      | bl b2 =>
        simp only [eqF, Option.some.injEq] at h
        rw [← h]
        exact SeqAt.RcNeAt.bool_bool b b2 
      | int i2 t2 =>
        simp only [eqF, Option.some.injEq] at h
        rw [← h]
        exact SeqAt.RcNeAt.bool_int b i2 t2 
      | str x2 t2 =>
        simp only [eqF, Option.some.injEq] at h
        rw [← h]
        exact SeqAt.RcNeAt.bool_str b ⟨x2.toArray⟩ t2 
      | lst pb vb db =>
        simp only [eqF, Option.some.injEq] at h
        rw [← h]
        exact SeqAt.RcNeAt.bool_list b pb hu0
      | tup pb vb db =>
        simp only [eqF, Option.some.injEq] at h
        rw [← h]
        exact SeqAt.RcNeAt.bool_tuple b pb hu0
      | frz => simp [eqF] at h
      | dct => simp [eqF] at h
      | exc => simp [eqF] at h
    | int i t =>
      cases fb with
      | non =>
        simp only [eqF, Option.some.injEq] at h
        rw [← h]
        exact SeqAt.RcNeAt.int_none i t 
      | bl b2 =>
        simp only [eqF, Option.some.injEq] at h
        rw [← h]
        exact SeqAt.RcNeAt.int_bool i t b2 
      | int i2 t2 =>
        simp only [eqF, Option.some.injEq] at h
        rw [← h]
        exact SeqAt.RcNeAt.int_int i t i2 t2 
      | str x2 t2 =>
        simp only [eqF, Option.some.injEq] at h
        rw [← h]
        exact SeqAt.RcNeAt.int_str i t ⟨x2.toArray⟩ t2 
      | lst pb vb db =>
        simp only [eqF, Option.some.injEq] at h
        rw [← h]
        exact SeqAt.RcNeAt.int_list i t pb hu0
      | tup pb vb db =>
        simp only [eqF, Option.some.injEq] at h
        rw [← h]
        exact SeqAt.RcNeAt.int_tuple i t pb hu0
      | frz => simp [eqF] at h
      | dct => simp [eqF] at h
      | exc => simp [eqF] at h
    | str x t =>
      cases fb with
      | non =>
        simp only [eqF, Option.some.injEq] at h
        rw [← h]
        exact SeqAt.RcNeAt.str_none ⟨x.toArray⟩ t 
      | bl b2 =>
        simp only [eqF, Option.some.injEq] at h
        rw [← h]
        exact SeqAt.RcNeAt.str_bool ⟨x.toArray⟩ t b2 
      | int i2 t2 =>
        simp only [eqF, Option.some.injEq] at h
        rw [← h]
        exact SeqAt.RcNeAt.str_int ⟨x.toArray⟩ t i2 t2 
      | str x2 t2 =>
        simp only [eqF, Option.some.injEq] at h
        rw [← h, ← str_beq]
        exact SeqAt.RcNeAt.str_str ⟨x.toArray⟩ t ⟨x2.toArray⟩ t2 
      | lst pb vb db =>
        simp only [eqF, Option.some.injEq] at h
        rw [← h]
        exact SeqAt.RcNeAt.str_list ⟨x.toArray⟩ t pb hu0
      | tup pb vb db =>
        simp only [eqF, Option.some.injEq] at h
        rw [← h]
        exact SeqAt.RcNeAt.str_tuple ⟨x.toArray⟩ t pb hu0
      | frz => simp [eqF] at h
      | dct => simp [eqF] at h
      | exc => simp [eqF] at h
    | lst pa va da =>
      cases fb with
      | non =>
        simp only [eqF, Option.some.injEq] at h
        rw [← h]
        exact SeqAt.RcNeAt.list_none  pa hu0
      | bl b2 =>
        simp only [eqF, Option.some.injEq] at h
        rw [← h]
        exact SeqAt.RcNeAt.list_bool b2 pa hu0
      | int i2 t2 =>
        simp only [eqF, Option.some.injEq] at h
        rw [← h]
        exact SeqAt.RcNeAt.list_int i2 t2 pa hu0
      | str x2 t2 =>
        simp only [eqF, Option.some.injEq] at h
        rw [← h]
        exact SeqAt.RcNeAt.list_str ⟨x2.toArray⟩ t2 pa hu0
      | lst pb vb db =>
        exact (rc_lists I hK (eq_at I hK n) hu pa pb va vb da db h).2
      | tup pb vb db =>
        simp only [eqF, Option.some.injEq] at h
        rw [← h]
        exact SeqAt.RcNeAt.list_tuple  pa pb hu0
      | frz => simp [eqF] at h
      | dct => simp [eqF] at h
      | exc => simp [eqF] at h
    | tup pa va da =>
      cases fb with
      | non =>
        simp only [eqF, Option.some.injEq] at h
        rw [← h]
        exact SeqAt.RcNeAt.tuple_none  pa hu0
      | bl b2 =>
        simp only [eqF, Option.some.injEq] at h
        rw [← h]
        exact SeqAt.RcNeAt.tuple_bool b2 pa hu0
      | int i2 t2 =>
        simp only [eqF, Option.some.injEq] at h
        rw [← h]
        exact SeqAt.RcNeAt.tuple_int i2 t2 pa hu0
      | str x2 t2 =>
        simp only [eqF, Option.some.injEq] at h
        rw [← h]
        exact SeqAt.RcNeAt.tuple_str ⟨x2.toArray⟩ t2 pa hu0
      | lst pb vb db =>
        simp only [eqF, Option.some.injEq] at h
        rw [← h]
        exact SeqAt.RcNeAt.tuple_list  pa pb hu0
      | tup pb vb db =>
        exact (rc_tuples I hK (eq_at I hK n) hu pa pb va vb da db h).2
      | frz => simp [eqF] at h
      | dct => simp [eqF] at h
      | exc => simp [eqF] at h
    | frz => simp [eqF] at h
    | dct => simp [eqF] at h
    | exc => simp [eqF] at h
end
/-- x == y, x != y -/
def rEqF (R0 : PySem.W.Frag) (neg : Bool) : R2 := fun x y H Q => ∃ a b e, DR ⟨R0, fun _ => False⟩ H a x ∧ DR ⟨R0, fun _ => False⟩ H b y ∧ eqF 60 a b = some e ∧ Q (.bl (if neg then !e else e)) H
section
variable {X : Cx}
theorem op_eqF (hu : X.A.units + 64 < cLine) : OpR X (compareOp .Eq) (rEqF X.K false) := by
  intro pins s σ H x y v u Q I rx ry h
  obtain ⟨a, b, e, r1, r2, h1, q⟩ := h
  exact rc_at (n := 59) I rfl (by omega) h1 r1 r2 rx ry _ _ _ _ ⟨.bl e, H, I, rfl, q⟩
theorem op_neF (hu : X.A.units + 64 < cLine) : OpR X (compareOp .NotEq) (rEqF X.K true) := by
  intro pins s σ H x y v u Q I rx ry h
  obtain ⟨a, b, e, r1, r2, h1, q⟩ := h
  exact ne_at (n := 59) I rfl (by omega) h1 r1 r2 rx ry _ _ _ _ ⟨.bl (!e), H, I, rfl, q⟩
end
theorem eqF_op {K : PySem.W.Frag} {neg : Bool} : OpS K (rEqF K neg) fun a b => (eqF 60 a b).map fun e => .bl (if neg then !e else e) := by
  intro R H x y a b d Q hk tr ra rb h q
  cases he : eqF 60 a b with
  | none => simp [he] at h
  | some e =>
    simp [he] at h
    subst h
    have e1 : R.z = ⟨K, fun _ => False⟩ := by unfold RC.z; rw [hk]
    exact ⟨a, b, e, by rw [← e1]; exact ra.z, by rw [← e1]; exact rb.z, he, q _ H (Evl.Ex.refl H) (.bl _)⟩
end Mi
set_option Elab.async false
set_option linter.all false
set_option maxRecDepth 100000
set_option maxHeartbeats 2000000
/-! M6: operations and built-ins on plain data -/
namespace Mi
open PySem L2

/-! ### arguments by their kind -/
section
variable {R : RC} {H : Hp} {x : V} {d : D}
theorem AR.int {i : Int} (h : AR R H (.int i) x) : x = .int i := by
  rcases h with h | ⟨o, a, e, _, _⟩
  · cases h; rfl
  · cases o <;> cases e
theorem AR.bl {i : Bool} (h : AR R H (.bl i) x) : x = .bl i := by
  rcases h with h | ⟨o, a, e, _, _⟩
  · cases h; rfl
  · cases o <;> cases e
theorem AR.non (h : AR R H .non x) : x = .non := by
  rcases h with h | ⟨o, a, e, _, _⟩
  · cases h; rfl
  · cases o <;> cases e
theorem AR.str {s : List Nat} (h : AR R H (.str s) x) : x = .str ⟨s.toArray⟩ := by
  rcases h with h | ⟨o, a, e, _, _⟩
  · cases h; rfl
  · cases o <;> cases e
theorem AR.lst {ds : List D} (h : AR R H (.lst ds) x) : ∃ a xs, x = .ref a ∧ H a = some (.lst xs) ∧ DRs R H ds xs := by
  rcases h with h | ⟨o, a, e, rfl, h⟩
  · cases h with
    | lst h1 h2 => exact ⟨_, _, rfl, h1.1, h2⟩
  · cases o with
    | lst es =>
      cases e
      obtain ⟨_, xs, h1, h2⟩ := h
      exact ⟨a, xs, rfl, h1, h2⟩
    | dct kvs => cases e
theorem AR.tup {ds : List D} (h : AR R H (.tup ds) x) : ∃ a xs, x = .ref a ∧ TpAt R H a xs ∧ DRs R H ds xs := by
  rcases h with h | ⟨o, a, e, _, _⟩
  · cases h with
    | tup h1 h2 => exact ⟨_, _, rfl, h1, h2⟩
  · cases o <;> cases e
theorem AR.frz {ds : List D} (h : AR R H (.frz ds) x) : ∃ a xs, x = .ref a ∧ FzAt R H a xs ∧ DRs R H ds xs := by
  rcases h with h | ⟨o, a, e, _, _⟩
  · cases h with
    | frz h1 h2 => exact ⟨_, _, rfl, h1, h2⟩
  · cases o <;> cases e
theorem AR.dct {ds : List (D × D)} (h : AR R H (.dct ds) x) : ∃ a kvs, x = .ref a ∧ H a = some (.dK kvs) ∧ DRs R H (ds.map (·.1)) (kvs.map fun p => kV p.1) ∧ DRs R H (ds.map (·.2)) (kvs.map (·.2)) := by
  rcases h with h | ⟨o, a, e, rfl, h⟩
  · cases h with
    | dct h1 h2 h3 => exact ⟨_, _, rfl, h1.1, h2, h3⟩
  · cases o with
    | lst es => cases e
    | dct kvs =>
      cases e
      obtain ⟨_, kv, h1, h2, h3⟩ := h
      exact ⟨a, kv, rfl, h1, h2, h3⟩
/-- a new list, a new tuple -/
theorem new_lst {R : RC} {H : Hp} (tr : ∀ z, R.M z → ∃ o, H z = some o) {p : Addr} (hp : H p = none) {xs : List V} {ds : List D} (r : DRs R H ds xs) : Evl.Ex H (upd H p (.lst xs)) ∧ DR R (upd H p (.lst xs)) (.lst ds) (.ref p) := by
  have ex : Evl.Ex H (upd H p (.lst xs)) := Evl.Ex.new hp
  refine ⟨ex, .lst ⟨upd_same, fun z => ?_⟩ (r.to (To.ex ex))⟩
  obtain ⟨o, q⟩ := tr p z
  rw [hp] at q
  cases q
theorem new_tup {R : RC} {H : Hp} (tr : ∀ z, R.M z → ∃ o, H z = some o) {p : Addr} (hp : H p = none) {xs : List V} {ds : List D} (r : DRs R H ds xs) : Evl.Ex H (upd H p (.tup xs)) ∧ DR R (upd H p (.tup xs)) (.tup ds) (.ref p) := by
  have ex : Evl.Ex H (upd H p (.tup xs)) := Evl.Ex.new hp
  refine ⟨ex, .tup (.inl ⟨.inl upd_same, fun z => ?_⟩) (r.to (To.ex ex))⟩
  obtain ⟨o, q⟩ := tr p z
  rw [hp] at q
  cases q
end
theorem OpS.or {K : PySem.W.Frag} {r r' : R2} {f g : D → D → Option D} (h : OpS K r f) (h' : OpS K r' g) : OpS K (fun x y H Q => r x y H Q ∨ r' x y H Q) (fun a b => (f a b).or (g a b)) := by
  intro R H x y a b d Q hk tr ra rb e q
  dsimp only at e
  cases hf : f a b with
  | some d' =>
    rw [hf] at e
    cases e
    exact .inl (h R H x y a b d Q hk tr ra rb hf q)
  | none =>
    rw [hf] at e
    exact .inr (h' R H x y a b d Q hk tr ra rb e q)
theorem OpS.imp {K : PySem.W.Frag} {r : R2} {f g : D → D → Option D} (h : OpS K r f) (e : ∀ a b d, g a b = some d → f a b = some d) : OpS K r g := fun R H x y a b d Q hk tr ra rb q k => h R H x y a b d Q hk tr ra rb (e a b d q) k
theorem CallS.or {K : PySem.W.Frag} {r r' : List V → Hp → VK → Prop} {f g : List D → Option D} (h : CallS K r f) (h' : CallS K r' g) : CallS K (fun x H Q => r x H Q ∨ r' x H Q) (fun a => (f a).or (g a)) := by
  intro R H x a d Q hk tr ra e q
  dsimp only at e
  cases hf : f a with
  | some d' =>
    rw [hf] at e
    cases e
    exact .inl (h R H x a d Q hk tr ra hf q)
  | none =>
    rw [hf] at e
    exact .inr (h' R H x a d Q hk tr ra e q)
/-- ints by ints -/
def intOp (c : Int → Int → Bool) (f : Int → Int → D) : D → D → Option D
  | .int i, .int j => if c i j then some (f i j) else none
  | _, _ => none
theorem intOp_ok {K : PySem.W.Frag} {C : Int → Int → Prop} {c : Int → Int → Bool} {g : Int → Int → V} {f : Int → Int → D} (hc : ∀ i j, c i j = true → C i j) (hf : ∀ R H i j, DR R H (f i j) (g i j)) : OpS K (rI C g) (intOp c f) := by
  intro R H x y a b d Q hk tr ra rb e q
  unfold intOp at e
  split at e
  · split at e
    · cases e
      exact ⟨_, _, ra.int, rb.int, hc _ _ ‹_›, q _ H (Evl.Ex.refl H) (hf R H _ _)⟩
    · cases e
  · cases e
theorem intOp0_ok {K : PySem.W.Frag} {g : Int → Int → V} {f : Int → Int → D} (hf : ∀ R H i j, DR R H (f i j) (g i j)) : OpS K (rI0 g) (intOp (fun _ _ => true) f) := by
  intro R H x y a b d Q hk tr ra rb e q
  unfold intOp at e
  split at e
  · cases e
    exact ⟨_, _, ra.int, rb.int, q _ H (Evl.Ex.refl H) (hf R H _ _)⟩
  · cases e
/-! ### + -/
def catStr : D → D → Option D
  | .str a, .str b => if a.length + b.length ≤ sizeLine then some (.str (a ++ b)) else none
  | _, _ => none
abbrev rCatS : R2 := fun x y H Q => ∃ i j, x = .str i ∧ y = .str j ∧ i.length + j.length ≤ sizeLine ∧ Q (.str (i ++ j)) H
theorem len_str (a : List Nat) : (⟨a.toArray⟩ : Str).length = a.length := by
  show a.toArray.size = a.length
  simp
theorem app_str (a b : List Nat) : (⟨a.toArray⟩ : Str) ++ ⟨b.toArray⟩ = ⟨(a ++ b).toArray⟩ := by
  show (⟨a.toArray ++ b.toArray⟩ : Str) = _
  simp
theorem catStr_ok {K : PySem.W.Frag} : OpS K rCatS catStr := by
  intro R H x y a b d Q hk tr ra rb e q
  unfold catStr at e
  split at e
  · split at e
    · cases e
      refine ⟨_, _, ra.str, rb.str, by rw [len_str, len_str]; assumption, ?_⟩
      rw [app_str]
      exact q _ H (Evl.Ex.refl H) (.str _)
    · cases e
  · cases e
def catLst : D → D → Option D
  | .lst a, .lst b => if a.length + b.length ≤ sizeLine then some (.lst (a ++ b)) else none
  | _, _ => none
theorem catLst_ok {K : PySem.W.Frag} : OpS K rCat catLst := by
  intro R H x y a b d Q hk tr ra rb e q
  unfold catLst at e
  split at e
  · split at e
    · cases e
      obtain ⟨a1, xs, rfl, h1, r1⟩ := ra.lst
      obtain ⟨a2, ys, rfl, h2, r2⟩ := rb.lst
      refine ⟨_, _, _, _, rfl, rfl, h1, h2, by rw [← r1.len, ← r2.len]; assumption, fun p hp => ?_⟩
      obtain ⟨ex, dr⟩ := new_lst tr hp (r1.append r2)
      exact q _ _ ex dr
    · cases e
  · cases e
def catTup : D → D → Option D
  | .tup a, .tup b => if a.length + b.length ≤ sizeLine then some (.tup (a ++ b)) else none
  | _, _ => none
theorem DRs.nil_iff {R : RC} {H : Hp} {ds : List D} {xs : List V} (r : DRs R H ds xs) : xs = [] ↔ ds = [] := by
  have := r.len
  cases ds <;> cases xs <;> simp at this ⊢
theorem catTup_ok {K : PySem.W.Frag} : OpS K (rCatA K) catTup := by
  intro R H x y a b d Q hk tr ra rb e q
  unfold catTup at e
  split at e
  · split at e
    · cases e
      have ra0 := ra
      have rb0 := rb
      obtain ⟨a1, xs, rfl, h1, r1⟩ := ra.tup
      obtain ⟨a2, ys, rfl, h2, r2⟩ := rb.tup
      refine ⟨_, _, _, _, rfl, rfl, by rw [← hk]; exact h1.sq, by rw [← hk]; exact h2.sq, by rw [← r1.len, ← r2.len]; assumption, fun z => ?_, fun _ z => ?_, fun _ _ p hp => ?_⟩
      · rw [r1.nil_iff.mp z, List.nil_append] at q
        exact q _ H (Evl.Ex.refl H) (.tup h2 r2)
      · rw [r2.nil_iff.mp z, List.append_nil] at q
        exact q _ H (Evl.Ex.refl H) (.tup h1 r1)
      · obtain ⟨ex, dr⟩ := new_tup tr hp (r1.append r2)
        exact q _ _ ex dr
    · cases e
  · cases e
def addD (a b : D) : Option D := (intOp (fun _ _ => true) (fun i j => .int (i + j)) a b).or ((catStr a b).or ((catLst a b).or (catTup a b)))
def rAddD (K : PySem.W.Frag) : R2 := fun x y H Q => rI0 (fun i j => .int (i + j)) x y H Q ∨ rCatS x y H Q ∨ rCat x y H Q ∨ rCatA K x y H Q
theorem addD_ok {K : PySem.W.Frag} : OpS K (rAddD K) addD := OpS.or (intOp0_ok fun _ _ _ _ => .int _) (OpS.or catStr_ok (OpS.or catLst_ok catTup_ok))
theorem op_addD {X : Cx} : OpR X (binaryOp .Add) (rAddD X.K) := op_add.or (op_add_str.or (op_cat.or op_catA))
/-! ### - * // % ** -/
def subD (a b : D) : Option D := intOp (fun _ _ => true) (fun i j => .int (i - j)) a b
theorem subD_ok {K : PySem.W.Frag} : OpS K (rI0 fun i j => .int (i - j)) subD := intOp0_ok fun _ _ _ _ => .int _
def mulB (i j : Int) : Bool := (decide (-(2 ^ 64) < i) && decide (i < 2 ^ 64)) || (decide (-(2 ^ 64) < j) && decide (j < 2 ^ 64))
theorem mulB_ok {i j : Int} (h : mulB i j = true) : CMul i j := by
  unfold mulB at h
  simp only [Bool.or_eq_true, Bool.and_eq_true, decide_eq_true_eq] at h
  exact h
def repLst : D → D → Option D
  | .lst a, .int k => if -(2 ^ 63) ≤ k ∧ k < 2 ^ 63 ∧ a.length * k.toNat ≤ sizeLine then some (.lst (List.replicate k.toNat a).flatten) else none
  | _, _ => none
theorem DRs.rep {R : RC} {H : Hp} {ds : List D} {xs : List V} (r : DRs R H ds xs) : ∀ k : Nat, DRs R H (List.replicate k ds).flatten (List.replicate k xs).flatten
  | 0 => .nil
  | k + 1 => by
    rw [List.replicate_succ, List.replicate_succ, List.flatten_cons, List.flatten_cons]
    exact r.append (DRs.rep r k)
theorem repLst_ok {K : PySem.W.Frag} : OpS K rRep repLst := by
  intro R H x y a b d Q hk tr ra rb e q
  unfold repLst at e
  split at e
  · split at e
    · rename_i hc
      cases e
      obtain ⟨a1, xs, rfl, h1, r1⟩ := ra.lst
      refine ⟨_, _, _, rfl, rb.int, h1, hc.1, hc.2.1, by rw [← r1.len]; exact hc.2.2, fun p hp => ?_⟩
      obtain ⟨ex, dr⟩ := new_lst tr hp (r1.rep _)
      exact q _ _ ex dr
    · cases e
  · cases e
def mulD (a b : D) : Option D := (intOp mulB (fun i j => .int (i * j)) a b).or (repLst a b)
def rMulD : R2 := fun x y H Q => rI CMul (fun i j => .int (i * j)) x y H Q ∨ rRep x y H Q
theorem mulD_ok {K : PySem.W.Frag} : OpS K rMulD mulD := OpS.or (intOp_ok (fun _ _ h => mulB_ok h) fun _ _ _ _ => .int _) repLst_ok
theorem op_mulD {X : Cx} : OpR X (binaryOp .Mult) rMulD := op_mul.or op_rep
def divB (i j : Int) : Bool := decide (j ≠ 0) && decide (j.natAbs < 1073741824)
def fdivD (a b : D) : Option D := intOp divB (fun i j => .int (i.fdiv j)) a b
theorem fdivD_ok {K : PySem.W.Frag} : OpS K (rI CDivN fun i j => .int (i.fdiv j)) fdivD := intOp_ok (fun i j h => by
  unfold divB at h
  simp only [Bool.and_eq_true, decide_eq_true_eq] at h
  exact h) fun _ _ _ _ => .int _
def modD (a b : D) : Option D := intOp (fun _ j => decide (j ≠ 0)) (fun i j => .int (i.fmod j)) a b
theorem modD_ok {K : PySem.W.Frag} : OpS K (rI (fun _ j => j ≠ 0) fun i j => .int (i.fmod j)) modD := intOp_ok (fun i j h => by simpa using h) fun _ _ _ _ => .int _
def powB (i j : Int) : Bool := decide (0 ≤ j) && decide (j ≤ 1000000) && decide (i.natAbs < 2 ^ 64)
def powD (a b : D) : Option D := intOp powB (fun i j => .int (i ^ j.toNat)) a b
theorem powD_ok {K : PySem.W.Frag} : OpS K (rI CPow fun i j => .int (i ^ j.toNat)) powD := intOp_ok (fun i j h => by
  unfold powB at h
  simp only [Bool.and_eq_true, decide_eq_true_eq] at h
  exact ⟨h.1.1, h.1.2, h.2⟩) fun _ _ _ _ => .int _

/-! ### comparisons -/
def strLt : List Nat → List Nat → Bool := fun a b => decide (a < b)
def strOp (f : List Nat → List Nat → Bool) : D → D → Option D
  | .str a, .str b => some (.bl (f a b))
  | _, _ => none
theorem strOp_ok {K : PySem.W.Frag} {g : Str → Str → Bool} {f : List Nat → List Nat → Bool} (hf : ∀ a b, g ⟨a.toArray⟩ ⟨b.toArray⟩ = f a b) : OpS K (fun x y H Q => ∃ i j, x = V.str i ∧ y = V.str j ∧ Q (.bl (g i j)) H) (strOp f) := by
  intro R H x y a b d Q hk tr ra rb e q
  unfold strOp at e
  split at e
  · cases e
    refine ⟨_, _, ra.str, rb.str, ?_⟩
    rw [hf]
    exact q _ H (Evl.Ex.refl H) (.bl _)
  · cases e
def cmpD (ci : Int → Int → Bool) (cs : List Nat → List Nat → Bool) (a b : D) : Option D := (intOp (fun _ _ => true) (fun i j => .bl (ci i j)) a b).or (strOp cs a b)
def ltD (a b : D) : Option D := cmpD (fun i j => decide (i < j)) strLt a b
def leD (a b : D) : Option D := cmpD (fun i j => decide (i ≤ j)) (fun a b => !strLt b a) a b
def gtD (a b : D) : Option D := cmpD (fun i j => decide (j < i)) (fun a b => strLt b a) a b
def geD (a b : D) : Option D := cmpD (fun i j => decide (j ≤ i)) (fun a b => !strLt a b) a b
def rCmpD (gi : Int → Int → V) (gs : Str → Str → Bool) : R2 := fun x y H Q => rI0 gi x y H Q ∨ ∃ i j, x = V.str i ∧ y = V.str j ∧ Q (.bl (gs i j)) H
theorem ltD_ok {K : PySem.W.Frag} : OpS K (rCmpD (fun i j => .bl (decide (i < j))) fun i j => decide (i.cps.toList < j.cps.toList)) ltD := OpS.or (intOp0_ok fun _ _ _ _ => .bl _) (strOp_ok fun a b => by simp [strLt])
theorem leD_ok {K : PySem.W.Frag} : OpS K (rCmpD (fun i j => .bl (decide (i ≤ j))) fun i j => !decide (j.cps.toList < i.cps.toList)) leD := OpS.or (intOp0_ok fun _ _ _ _ => .bl _) (strOp_ok fun a b => by simp [strLt])
theorem gtD_ok {K : PySem.W.Frag} : OpS K (rCmpD (fun i j => .bl (decide (j < i))) fun i j => decide (j.cps.toList < i.cps.toList)) gtD := OpS.or (intOp0_ok fun _ _ _ _ => .bl _) (strOp_ok fun a b => by simp [strLt])
theorem geD_ok {K : PySem.W.Frag} : OpS K (rCmpD (fun i j => .bl (decide (j ≤ i))) fun i j => !decide (i.cps.toList < j.cps.toList)) geD := OpS.or (intOp0_ok fun _ _ _ _ => .bl _) (strOp_ok fun a b => by simp [strLt])
theorem op_ltD {X : Cx} : OpR X (compareOp .Lt) (rCmpD (fun i j => .bl (decide (i < j))) fun i j => decide (i.cps.toList < j.cps.toList)) := op_lt.or op_lt_str
theorem op_leD {X : Cx} : OpR X (compareOp .LtE) (rCmpD (fun i j => .bl (decide (i ≤ j))) fun i j => !decide (j.cps.toList < i.cps.toList)) := op_le.or op_le_str
theorem op_gtD {X : Cx} : OpR X (compareOp .Gt) (rCmpD (fun i j => .bl (decide (j < i))) fun i j => decide (j.cps.toList < i.cps.toList)) := op_gt.or op_gt_str
theorem op_geD {X : Cx} : OpR X (compareOp .GtE) (rCmpD (fun i j => .bl (decide (j ≤ i))) fun i j => !decide (i.cps.toList < j.cps.toList)) := op_ge.or op_ge_str
/-- is, is not: None or a bool on the right -/
def isNon : D → Bool
  | .non => true
  | _ => false
def isD (neg : Bool) : D → D → Option D
  | .ref _, _ => none
  | a, .non => some (.bl (if neg then !isNon a else isNon a))
  | .bl a, .bl b => some (.bl (if neg then !(a == b) else a == b))
  | _, _ => none
def rIsD (neg : Bool) : R2 := fun x y H Q => (y = .non ∧ Q (.bl (if neg then !decide (x = .non) else decide (x = .non))) H) ∨ ∃ a b : Bool, x = .bl a ∧ y = .bl b ∧ Q (.bl (if neg then !decide (a = b) else decide (a = b))) H
theorem op_isD {X : Cx} : OpR X (compareOp .Is) (rIsD false) := op_isN.or op_isBl
theorem op_isnotD {X : Cx} : OpR X (compareOp .IsNot) (rIsD true) := op_notN.or op_notBl
theorem AR.isnon {R : RC} {H : Hp} {d : D} {x : V} (h : AR R H d x) (n : ∀ l, d ≠ .ref l) : decide (x = .non) = isNon d := by
  rcases h with h | ⟨o, a, rfl, rfl, _⟩
  · cases h <;> first | rfl | simp [isNon]
  · cases o <;> simp [Ow.toD, isNon]
theorem isD_ok {K : PySem.W.Frag} {neg : Bool} : OpS K (rIsD neg) (isD neg) := by
  intro R H x y a b d Q hk tr ra rb e q
  unfold isD at e
  split at e
  · cases e
  · rename_i hn
    cases e
    refine .inl ⟨rb.non, ?_⟩
    rw [ra.isnon (fun l z => hn l z)]
    exact q _ H (Evl.Ex.refl H) (.bl _)
  · cases e
    refine .inr ⟨_, _, ra.bl, rb.bl, ?_⟩
    rw [show ∀ p r : Bool, decide (p = r) = (p == r) from fun p r => by cases p <;> cases r <;> rfl]
    exact q _ H (Evl.Ex.refl H) (.bl _)
  · cases e
/-! ### in -/
def flatD : D → Bool
  | .non | .bl _ | .int _ | .str _ => true
  | _ => false
def eqFl : D → D → Bool
  | .non, .non => true
  | .bl a, .bl b => a == b
  | .bl a, .int b => (if a then 1 else 0) == b
  | .int a, .bl b => a == (if b then 1 else 0)
  | .int a, .int b => a == b
  | .str a, .str b => a == b
  | _, _ => false
def inFl (x : D) (xs : List D) : Bool := xs.any fun y => eqFl y x
theorem flat_ok {R : RC} {H : Hp} {d : D} {x : V} (r : DR R H d x) (f : flatD d = true) : flatV x = true := by
  cases r <;> first | rfl | cases f
theorem eqFl_ok {R : RC} {H : Hp} {d e : D} {x y : V} (r : DR R H d x) (q : DR R H e y) (f : flatD d = true) (g : flatD e = true) : eqV x y = eqFl d e := by
  cases r <;> cases f <;> cases q <;> cases g <;> first | rfl | exact str_beq
theorem inFl_ok {R : RC} {H : Hp} {d : D} {x : V} (r : DR R H d x) (f : flatD d = true) : ∀ {ds : List D} {xs : List V}, DRs R H ds xs → ds.all flatD = true → inV x xs = inFl d ds ∧ xs.all flatV = true
  | _, _, .nil, _ => ⟨rfl, rfl⟩
  | _, _, .cons a b, h => by
    simp only [List.all_cons, Bool.and_eq_true] at h
    obtain ⟨h1, h2⟩ := inFl_ok r f b h.2
    constructor
    · unfold inV inFl at *
      rw [List.any_cons, List.any_cons, h1, eqFl_ok a r h.1 f]
    · rw [List.all_cons, flat_ok a h.1, h2]
      rfl
def inLs (neg : Bool) : D → D → Option D
  | x, .lst ds => if flatD x && ds.all flatD then some (.bl (if neg then !inFl x ds else inFl x ds)) else none
  | x, .tup ds => if flatD x && ds.all flatD then some (.bl (if neg then !inFl x ds else inFl x ds)) else none
  | _, _ => none
theorem AR.flat {R : RC} {H : Hp} {d : D} {x : V} (h : AR R H d x) (f : flatD d = true) : DR R H d x := by
  rcases h with h | ⟨o, a, rfl, rfl, _⟩
  · exact h
  · cases o <;> cases f
theorem inLs_ok {K : PySem.W.Frag} {neg : Bool} : OpS K (rIn K neg) (inLs neg) := by
  intro R H x y a b d Q hk tr ra rb e q
  unfold inLs at e
  split at e
  · split at e
    · rename_i hc
      cases e
      simp only [Bool.and_eq_true] at hc
      obtain ⟨a1, xs, rfl, h1, r1⟩ := rb.lst
      obtain ⟨k1, k2⟩ := inFl_ok (ra.flat hc.1) hc.1 r1 hc.2
      refine ⟨a1, xs, rfl, .inl (.inl (.inl h1)), flat_ok (ra.flat hc.1) hc.1, k2, ?_⟩
      rw [k1]
      exact q _ H (Evl.Ex.refl H) (.bl _)
    · cases e
  · split at e
    · rename_i hc
      cases e
      simp only [Bool.and_eq_true] at hc
      obtain ⟨a1, xs, rfl, h1, r1⟩ := rb.tup
      obtain ⟨k1, k2⟩ := inFl_ok (ra.flat hc.1) hc.1 r1 hc.2
      refine ⟨a1, xs, rfl, .inr (by rw [← hk]; exact h1.sq), flat_ok (ra.flat hc.1) hc.1, k2, ?_⟩
      rw [k1]
      exact q _ H (Evl.Ex.refl H) (.bl _)
    · cases e
  · cases e
def inSg (neg : Bool) : D → D → Option D
  | .str [c], .str t => some (.bl (if neg then !decide (c ∈ t) else decide (c ∈ t)))
  | _, _ => none
end Mi
set_option Elab.async false
set_option linter.all false
set_option maxRecDepth 100000
set_option maxHeartbeats 2000000
/-! M7: items, slices, built-in functions -/
namespace Mi
open PySem L2

theorem inSg_ok {K : PySem.W.Frag} {neg : Bool} : OpS K (fun x y H Q => ∃ (c : Nat) (z : Str), x = V.str ⟨#[c]⟩ ∧ y = .str z ∧ Q (.bl (if neg then !decide (c ∈ z.cps.toList) else decide (c ∈ z.cps.toList))) H) (inSg neg) := by
  intro R H x y a b d Q hk tr ra rb e q
  unfold inSg at e
  split at e
  · cases e
    refine ⟨_, _, by rw [ra.str], rb.str, ?_⟩
    have z : ∀ t : List Nat, (⟨t.toArray⟩ : Str).cps.toList = t := fun t => by simp
    rw [z]
    exact q _ H (Evl.Ex.refl H) (.bl _)
  · cases e
def inD (neg : Bool) (a b : D) : Option D := (inSg neg a b).or (inLs neg a b)
def rInDD (K : PySem.W.Frag) (neg : Bool) : R2 := fun x y H Q => (∃ (c : Nat) (z : Str), x = V.str ⟨#[c]⟩ ∧ y = .str z ∧ Q (.bl (if neg then !decide (c ∈ z.cps.toList) else decide (c ∈ z.cps.toList))) H) ∨ rIn K neg x y H Q
theorem inD_ok {K : PySem.W.Frag} {neg : Bool} : OpS K (rInDD K neg) (inD neg) := OpS.or inSg_ok inLs_ok
theorem op_inDD {X : Cx} : OpR X (compareOp .In) (rInDD X.K false) := op_in_sign.or op_in_seq
theorem op_notInDD {X : Cx} : OpR X (compareOp .NotIn) (rInDD X.K true) := op_notIn_sign.or op_notIn_seq

/-! ### a[i] -/
def idxD : D → D → Option D
  | .lst ds, .int i => atI ds i
  | .tup ds, .int i => atI ds i
  | .str s, .int i => if s.length ≤ sizeLine then (atI s i).map fun c => .str [c] else none
  | _, _ => none
theorem atI_drs {R : RC} {H : Hp} {ds : List D} {xs : List V} {i : Int} {d : D} (r : DRs R H ds xs) (h : atI ds i = some d) : ∃ x, atI xs i = some x ∧ DR R H d x := by
  unfold atI at *
  rw [← r.len]
  cases hn : ixN ds.length i with
  | none => simp [hn] at h
  | some j =>
    simp [hn] at h
    obtain ⟨x, h1, h2⟩ := r.get h
    exact ⟨x, by simp [h1], h2⟩
theorem idxD_ok {K : PySem.W.Frag} : OpS K (rIx K) idxD := by
  intro R H x y a b d Q hk tr ra rb e q
  unfold idxD at e
  split at e
  · obtain ⟨p, xs, rfl, h1, r1⟩ := ra.lst
    obtain ⟨v, h2, h3⟩ := atI_drs r1 e
    exact .inl ⟨p, xs, _, v, rfl, rb.int, .inl (.inl h1), h2, q v H (Evl.Ex.refl H) h3⟩
  · obtain ⟨p, xs, rfl, h1, r1⟩ := ra.tup
    obtain ⟨v, h2, h3⟩ := atI_drs r1 e
    exact .inr (.inl ⟨p, xs, _, v, rfl, rb.int, by rw [← hk]; exact h1.sq, h2, q v H (Evl.Ex.refl H) h3⟩)
  · split at e
    · rename_i s i hz
      cases hc : atI s i with
      | none => simp [hc] at e
      | some c =>
        simp [hc] at e
        subst e
        exact .inr (.inr ⟨_, _, c, ra.str, rb.int, by rw [len_str]; exact hz, by simpa using hc, q _ H (Evl.Ex.refl H) (.str [c])⟩)
    · cases e
  · cases e
/-! ### a[lo:hi] -/
def prt : D → Option (Option Int)
  | .non => some none
  | .int i => some (some i)
  | _ => none
def cutL {α : Type} (xs : List α) (lo hi : Option Int) : List α := (xs.drop (HT.sIx xs.length 0 lo)).take (HT.sIx xs.length xs.length hi - HT.sIx xs.length 0 lo)
def sliD (a : D) (lo hi : Option Int) : Option D := match a with
  | .lst ds => some (.lst (cutL ds lo hi))
  | .frz ds => some (.lst (cutL ds lo hi))
  | .tup ds => some (.tup (cutL ds lo hi))
  | .str s => if s.length ≤ sizeLine then some (.str (cutL s lo hi)) else none
  | _ => none
theorem cutL_drs {R : RC} {H : Hp} {ds : List D} {xs : List V} (r : DRs R H ds xs) (lo hi : Option Int) : DRs R H (cutL ds lo hi) (cutV xs lo hi) := by
  unfold cutL cutV
  rw [r.len]
  exact (r.drop _).take _
theorem cutL_all {α : Type} {xs : List α} {lo hi : Option Int} (h : HT.sIx xs.length 0 lo = 0 ∧ HT.sIx xs.length xs.length hi = xs.length) : cutL xs lo hi = xs := by
  unfold cutL
  rw [h.1, h.2]
  simp
def rSliD (K : PySem.W.Frag) : V → Option Int → Option Int → Hp → VK → Prop := fun x lo hi H Q => rSlL K x lo hi H Q ∨ rSlA K x lo hi H Q ∨ rSlS x lo hi H Q
theorem sl_D {X : Cx} : L2.SlR X (rSliD X.K) := sl_list.or (sl_tupA.or sl_str)
theorem sliD_ok {K : PySem.W.Frag} {R : RC} {H : Hp} {x : V} {a d : D} {lo hi : Option Int} {Q : VK} (hk : R.K = K) (tr : ∀ z, R.M z → ∃ o, H z = some o) (ra : AR R H a x) (e : sliD a lo hi = some d)
    (q : ∀ z H', Evl.Ex H H' → DR R H' d z → Q z H') : rSliD K x lo hi H Q := by
  unfold sliD at e
  split at e
  · cases e
    obtain ⟨p, xs, rfl, h1, r1⟩ := ra.lst
    refine .inl ⟨p, xs, rfl, .inl (.inl h1), fun l hl => ?_⟩
    obtain ⟨ex, dr⟩ := new_lst tr hl (cutL_drs r1 lo hi)
    exact q _ _ ex dr
  · cases e
    obtain ⟨p, xs, rfl, h1, r1⟩ := ra.frz
    refine .inl ⟨p, xs, rfl, by rw [← hk]; exact h1.sq, fun l hl => ?_⟩
    obtain ⟨ex, dr⟩ := new_lst tr hl (cutL_drs r1 lo hi)
    exact q _ _ ex dr
  · cases e
    obtain ⟨p, xs, rfl, h1, r1⟩ := ra.tup
    refine .inr (.inl ⟨p, xs, rfl, by rw [← hk]; exact h1.sq, fun hw => ?_, fun hw l hl => ?_⟩)
    · rw [← r1.len] at hw
      rw [cutL_all hw] at q
      exact q _ H (Evl.Ex.refl H) (.tup h1 r1)
    · obtain ⟨ex, dr⟩ := new_tup tr hl (cutL_drs r1 lo hi)
      exact q _ _ ex dr
  · split at e
    · rename_i s hz
      cases e
      refine .inr (.inr ⟨_, ra.str, by rw [len_str]; exact hz, ?_⟩)
      have : cutS ⟨s.toArray⟩ lo hi = ⟨(cutL s lo hi).toArray⟩ := by
        unfold cutS cutL
        rw [len_str]
      rw [this]
      exact q _ H (Evl.Ex.refl H) (.str _)
    · cases e
  · cases e

/-! ### calls of built-ins -/
section
variable {K : PySem.W.Frag}
def intsD : List D → Option (List Int)
  | [] => some []
  | .int i :: ds => (intsD ds).map fun r => i :: r
  | _ => none
def boolsD : List D → Option (List Bool)
  | [] => some []
  | .bl i :: ds => (boolsD ds).map fun r => i :: r
  | _ => none
def strsD : List D → Option (List (List Nat))
  | [] => some []
  | .str i :: ds => (strsD ds).map fun r => i :: r
  | _ => none
theorem intsD_ok {R : RC} {H : Hp} : ∀ {ds : List D} {xs : List V} {ns : List Int}, DRs R H ds xs → intsD ds = some ns → xs = ns.map V.int
  | [], _, _, r, h => by
    cases r
    cases h
    rfl
  | d :: ds, _, ns, .cons a b, h => by
    unfold intsD at h
    split at h
    · rename_i h0
      cases h0
    · rename_i h0
      cases h0
      cases hr : intsD ds with
      | none => simp [hr] at h
      | some r =>
        simp [hr] at h
        subst h
        cases a
        rw [intsD_ok b hr]
        rfl
    · cases h
theorem boolsD_ok {R : RC} {H : Hp} : ∀ {ds : List D} {xs : List V} {ns : List Bool}, DRs R H ds xs → boolsD ds = some ns → xs = ns.map V.bl
  | [], _, _, r, h => by
    cases r
    cases h
    rfl
  | d :: ds, _, ns, .cons a b, h => by
    unfold boolsD at h
    split at h
    · rename_i h0
      cases h0
    · rename_i h0
      cases h0
      cases hr : boolsD ds with
      | none => simp [hr] at h
      | some r =>
        simp [hr] at h
        subst h
        cases a
        rw [boolsD_ok b hr]
        rfl
    · cases h
theorem strsD_ok {R : RC} {H : Hp} : ∀ {ds : List D} {xs : List V} {ns : List (List Nat)}, DRs R H ds xs → strsD ds = some ns → xs = (ns.map fun s => (⟨s.toArray⟩ : Str)).map V.str
  | [], _, _, r, h => by
    cases r
    cases h
    rfl
  | d :: ds, _, ns, .cons a b, h => by
    unfold strsD at h
    split at h
    · rename_i h0
      cases h0
    · rename_i h0
      cases h0
      cases hr : strsD ds with
      | none => simp [hr] at h
      | some r =>
        simp [hr] at h
        subst h
        cases a
        rw [strsD_ok b hr]
        rfl
    · cases h
def lenB : List D → Option D
  | [.lst ds] => some (.int ds.length)
  | [.tup ds] => some (.int ds.length)
  | [.frz ds] => some (.int ds.length)
  | [.str s] => if s.length ≤ sizeLine then some (.int s.length) else none
  | _ => none
abbrev rLenD (K : PySem.W.Frag) : List V → Hp → VK → Prop := fun xs H Q => (∃ p ys, xs = [.ref p] ∧ (SqL K H p ys ∨ SqT K H p ys) ∧ Q (.int ys.length) H) ∨ ∃ z, xs = [.str z] ∧ z.length ≤ sizeLine ∧ Q (.int z.length) H
theorem ARs.one {R : RC} {H : Hp} {d : D} {xs : List V} (h : ARs R H [d] xs) : ∃ x, xs = [x] ∧ AR R H d x := by
  cases h with
  | cons a b => cases b; exact ⟨_, rfl, a⟩
theorem ARs.two {R : RC} {H : Hp} {d e : D} {xs : List V} (h : ARs R H [d, e] xs) : ∃ x y, xs = [x, y] ∧ AR R H d x ∧ AR R H e y := by
  cases h with
  | cons a b =>
    cases b with
    | cons c d => cases d; exact ⟨_, _, rfl, a, c⟩
theorem lenB_ok : CallS K (rLenD K) lenB := by
  intro R H xs ds d Q hk tr ra e q
  unfold lenB at e
  split at e
  · cases e
    obtain ⟨x, rfl, a⟩ := ra.one
    obtain ⟨p, ys, rfl, h1, r1⟩ := a.lst
    exact .inl ⟨p, ys, rfl, .inl (.inl (.inl h1)), by rw [← r1.len]; exact q _ H (Evl.Ex.refl H) (.int _)⟩
  · cases e
    obtain ⟨x, rfl, a⟩ := ra.one
    obtain ⟨p, ys, rfl, h1, r1⟩ := a.tup
    exact .inl ⟨p, ys, rfl, .inr (by rw [← hk]; exact h1.sq), by rw [← r1.len]; exact q _ H (Evl.Ex.refl H) (.int _)⟩
  · cases e
    obtain ⟨x, rfl, a⟩ := ra.one
    obtain ⟨p, ys, rfl, h1, r1⟩ := a.frz
    exact .inl ⟨p, ys, rfl, .inl (by rw [← hk]; exact h1.sq), by rw [← r1.len]; exact q _ H (Evl.Ex.refl H) (.int _)⟩
  · split at e
    · cases e
      obtain ⟨x, rfl, a⟩ := ra.one
      rw [a.str]
      refine .inr ⟨_, rfl, by rw [len_str]; assumption, ?_⟩
      rw [len_str]
      exact q _ H (Evl.Ex.refl H) (.int _)
    · cases e
  · cases e
theorem cr_lenD {X : Cx} : CallR X (.builtin "len") (rLenD X.K) := call_len_seq.or call_len_str
def absB : List D → Option D
  | [.int i] => some (.int (if i < 0 then -i else i))
  | _ => none
theorem absB_ok : CallS K (fun xs H Q => ∃ i, xs = [V.int i] ∧ Q (.int (if i < 0 then -i else i)) H) absB := by
  intro R H xs ds d Q hk tr ra e q
  unfold absB at e
  split at e
  · cases e
    obtain ⟨x, rfl, a⟩ := ra.one
    rw [a.int]
    exact ⟨_, rfl, q _ H (Evl.Ex.refl H) (.int _)⟩
  · cases e
def intB : List D → Option D
  | [.int i] => some (.int i)
  | [.bl b] => some (.int (if b then 1 else 0))
  | _ => none
theorem intB_ok : CallS K (fun xs H Q => (∃ i, xs = [V.int i] ∧ Q (.int i) H) ∨ ∃ k, xs = [V.bl k] ∧ Q (.int (if k then 1 else 0)) H) intB := by
  intro R H xs ds d Q hk tr ra e q
  unfold intB at e
  split at e
  · cases e
    obtain ⟨x, rfl, a⟩ := ra.one
    rw [a.int]
    exact .inl ⟨_, rfl, q _ H (Evl.Ex.refl H) (.int _)⟩
  · cases e
    obtain ⟨x, rfl, a⟩ := ra.one
    rw [a.bl]
    exact .inr ⟨_, rfl, q _ H (Evl.Ex.refl H) (.int _)⟩
  · cases e
def listB : List D → Option D
  | [.lst ds] => some (.lst ds)
  | [.tup ds] => some (.lst ds)
  | [.frz ds] => some (.lst ds)
  | _ => none
theorem listB_ok : CallS K (fun xs H Q => ∃ p ys, xs = [V.ref p] ∧ (SqL K H p ys ∨ SqT K H p ys) ∧ ∀ l, H l = none → Q (.ref l) (upd H l (.lst ys))) listB := by
  intro R H xs ds d Q hk tr ra e q
  unfold listB at e
  split at e
  · cases e
    obtain ⟨x, rfl, a⟩ := ra.one
    obtain ⟨p, ys, rfl, h1, r1⟩ := a.lst
    refine ⟨p, ys, rfl, .inl (.inl (.inl h1)), fun l hl => ?_⟩
    obtain ⟨ex, dr⟩ := new_lst tr hl r1
    exact q _ _ ex dr
  · cases e
    obtain ⟨x, rfl, a⟩ := ra.one
    obtain ⟨p, ys, rfl, h1, r1⟩ := a.tup
    refine ⟨p, ys, rfl, .inr (by rw [← hk]; exact h1.sq), fun l hl => ?_⟩
    obtain ⟨ex, dr⟩ := new_lst tr hl r1
    exact q _ _ ex dr
  · cases e
    obtain ⟨x, rfl, a⟩ := ra.one
    obtain ⟨p, ys, rfl, h1, r1⟩ := a.frz
    refine ⟨p, ys, rfl, .inl (by rw [← hk]; exact h1.sq), fun l hl => ?_⟩
    obtain ⟨ex, dr⟩ := new_lst tr hl r1
    exact q _ _ ex dr
  · cases e
def tupleB : List D → Option D
  | [.lst ds] => some (.tup ds)
  | [.tup ds] => some (.tup ds)
  | _ => none
theorem tupleB_ok : CallS K (fun xs H Q => ∃ p ys, xs = [V.ref p] ∧ ((SqL K H p ys ∧ ∀ l, H l = none → Q (.ref l) (upd H l (.tup ys))) ∨ (SqT K H p ys ∧ Q (.ref p) H))) tupleB := by
  intro R H xs ds d Q hk tr ra e q
  unfold tupleB at e
  split at e
  · cases e
    obtain ⟨x, rfl, a⟩ := ra.one
    obtain ⟨p, ys, rfl, h1, r1⟩ := a.lst
    refine ⟨p, ys, rfl, .inl ⟨.inl (.inl h1), fun l hl => ?_⟩⟩
    obtain ⟨ex, dr⟩ := new_tup tr hl r1
    exact q _ _ ex dr
  · cases e
    obtain ⟨x, rfl, a⟩ := ra.one
    obtain ⟨p, ys, rfl, h1, r1⟩ := a.tup
    exact ⟨p, ys, rfl, .inr ⟨by rw [← hk]; exact h1.sq, q _ H (Evl.Ex.refl H) (.tup h1 r1)⟩⟩
  · cases e
def sumB : List D → Option D
  | [.lst ds] => (intsD ds).map fun ns => .int ns.sum
  | _ => none
theorem sumB_ok : CallS K (rSum K) sumB := by
  intro R H xs ds d Q hk tr ra e q
  unfold sumB at e
  split at e
  · rename_i es
    cases hn : intsD es with
    | none => simp [hn] at e
    | some ns =>
      simp [hn] at e
      subst e
      obtain ⟨x, rfl, a⟩ := ra.one
      obtain ⟨p, ys, rfl, h1, r1⟩ := a.lst
      exact ⟨p, ns, rfl, by rw [← intsD_ok r1 hn]; exact .inl (.inl h1), q _ H (Evl.Ex.refl H) (.int _)⟩
  · cases e
def allB : List D → Option D
  | [.lst ds] => (boolsD ds).map fun ns => .bl (ns.all id)
  | _ => none
theorem allB_ok : CallS K (rAll K) allB := by
  intro R H xs ds d Q hk tr ra e q
  unfold allB at e
  split at e
  · rename_i es
    cases hn : boolsD es with
    | none => simp [hn] at e
    | some ns =>
      simp [hn] at e
      subst e
      obtain ⟨x, rfl, a⟩ := ra.one
      obtain ⟨p, ys, rfl, h1, r1⟩ := a.lst
      exact ⟨p, ns, rfl, by rw [← boolsD_ok r1 hn]; exact .inl (.inl h1), q _ H (Evl.Ex.refl H) (.bl _)⟩
  · cases e
def anyB : List D → Option D
  | [.lst ds] => (boolsD ds).map fun ns => .bl (ns.any id)
  | _ => none
theorem anyB_ok : CallS K (rAny K) anyB := by
  intro R H xs ds d Q hk tr ra e q
  unfold anyB at e
  split at e
  · rename_i es
    cases hn : boolsD es with
    | none => simp [hn] at e
    | some ns =>
      simp [hn] at e
      subst e
      obtain ⟨x, rfl, a⟩ := ra.one
      obtain ⟨p, ys, rfl, h1, r1⟩ := a.lst
      exact ⟨p, ns, rfl, by rw [← boolsD_ok r1 hn]; exact .inl (.inl h1), q _ H (Evl.Ex.refl H) (.bl _)⟩
  · cases e
def maxB : List D → Option D
  | [.int i, .int j] => some (.int (if j > i then j else i))
  | _ => none
theorem maxB_ok : CallS K (fun xs H Q => ∃ i j, xs = [V.int i, V.int j] ∧ Q (.int (if j > i then j else i)) H) maxB := by
  intro R H xs ds d Q hk tr ra e q
  unfold maxB at e
  split at e
  · cases e
    obtain ⟨x, y, rfl, a, b⟩ := ra.two
    rw [a.int, b.int]
    exact ⟨_, _, rfl, q _ H (Evl.Ex.refl H) (.int _)⟩
  · cases e
def minB : List D → Option D
  | [.int i, .int j] => some (.int (if j < i then j else i))
  | _ => none
theorem minB_ok : CallS K (fun xs H Q => ∃ i j, xs = [V.int i, V.int j] ∧ Q (.int (if j < i then j else i)) H) minB := by
  intro R H xs ds d Q hk tr ra e q
  unfold minB at e
  split at e
  · cases e
    obtain ⟨x, y, rfl, a, b⟩ := ra.two
    rw [a.int, b.int]
    exact ⟨_, _, rfl, q _ H (Evl.Ex.refl H) (.int _)⟩
  · cases e
def strI (i : Int) : List Nat := (toString i : Str).cps.toList
theorem strI_eq (i : Int) : (⟨(strI i).toArray⟩ : Str) = (toString i : Str) := by
  unfold strI
  simp
def strB : List D → Option D
  | [.int i] => if i.natAbs.log2 < 1920 then some (.str (strI i)) else none
  | [.str s] => some (.str s)
  | _ => none
abbrev rStrD : List V → Hp → VK → Prop := fun xs H Q => (∃ i, xs = [V.int i] ∧ i.natAbs.log2 < 1920 ∧ Q (.str (toString i)) H) ∨ ∃ a, xs = [V.str a] ∧ Q (.str a) H
theorem strB_ok : CallS K rStrD strB := by
  intro R H xs ds d Q hk tr ra e q
  unfold strB at e
  split at e
  · split at e
    · cases e
      obtain ⟨x, rfl, a⟩ := ra.one
      rw [a.int]
      refine .inl ⟨_, rfl, by assumption, ?_⟩
      rw [← strI_eq]
      exact q _ H (Evl.Ex.refl H) (.str _)
    · cases e
  · cases e
    obtain ⟨x, rfl, a⟩ := ra.one
    rw [a.str]
    exact .inr ⟨_, rfl, q _ H (Evl.Ex.refl H) (.str _)⟩
  · cases e
theorem cr_strD {X : Cx} : CallR X (.type "str") rStrD := call_str_int.or SkE.call_str_str
end

/-! ### repr -/
mutual
def toPy : D → Option PyData
  | .non => some .none
  | .bl b => some (.bool b)
  | .int i => some (.int i)
  | .str s => some (.str ⟨s.toArray⟩)
  | .lst xs => (toPys xs).map .list
  | .tup xs => (toPys xs).map .tuple
  | _ => none
def toPys : List D → Option (List PyData)
  | [] => some []
  | d :: ds => match toPy d, toPys ds with
    | some p, some ps => some (p :: ps)
    | _, _ => none
end
theorem map_some {α β : Type} {f : α → β} {o : Option α} {b : β} (h : o.map f = some b) : ∃ a, o = some a ∧ f a = b := by
  cases o with
  | none => simp at h
  | some a => exact ⟨a, rfl, by simpa using h⟩
section
variable {X : Cx} {pins : List (Addr × Obj)} {σ : St} {H : Hp} {s : Shared} {R : RC}
mutual
theorem py_reads (I : Inv X pins σ H s) (hK : R.K = X.K) : ∀ {d : D} {x : V} {u : Value} {p : PyData}, DR R H d x → RelV x u → toPy d = some p → ∃ as, Reads s.heap u p as
  | _, _, _, _, .non, ru, h => by
    cases ru; cases h
    exact ⟨_, Reads.none⟩
  | _, _, _, _, .bl b, ru, h => by
    cases ru; cases h
    exact ⟨_, Reads.bool b⟩
  | _, _, _, _, .int i, ru, h => by
    obtain ⟨t, rfl⟩ := ru; cases h
    exact ⟨_, Reads.int i t⟩
  | _, _, _, _, .str y, ru, h => by
    obtain ⟨t, rfl⟩ := ru; cases h
    exact ⟨_, Reads.str _ t⟩
  | _, _, _, _, .lst h1 h2, ru, h => by
    cases ru
    unfold toPy at h
    obtain ⟨ps, e1, e2⟩ := map_some h
    subst e2
    obtain ⟨its, rv, ⟨o, n, ho, hc, _, hd⟩, _⟩ := I.list (by rw [← hK]; exact h1.sq)
    obtain ⟨as, hr⟩ := pys_reads I hK h2 rv e1
    exact ⟨_, Reads.list ho hc hd hr⟩
  | _, _, _, _, .tup h1 h2, ru, h => by
    cases ru
    unfold toPy at h
    obtain ⟨ps, e1, e2⟩ := map_some h
    subst e2
    obtain ⟨its, rv, ⟨o, ho, hc, n, hd⟩, _⟩ := I.tuple (by rw [← hK]; exact h1.sq)
    obtain ⟨as, hr⟩ := pys_reads I hK h2 rv e1
    exact ⟨_, Reads.tuple ho hc hd hr⟩
  | _, _, _, _, .frz h1 h2, ru, h => by cases h
  | _, _, _, _, .dct h1 h2 h3, ru, h => by cases h
theorem pys_reads (I : Inv X pins σ H s) (hK : R.K = X.K) : ∀ {ds : List D} {xs : List V} {us : List Value} {ps : List PyData}, DRs R H ds xs → Vals xs us → toPys ds = some ps → ∃ as, ReadsAll s.heap us ps as
  | _, _, _, _, .nil, rv, h => by
    cases rv; cases h
    exact ⟨_, ReadsAll.nil⟩
  | _, _, _, _, .cons (d := d) (ds := ds) a b, rv, h => by
    cases rv with
    | cons r1 r2 =>
      unfold toPys at h
      cases h1 : toPy d with
      | none => simp [h1] at h
      | some p =>
        cases h2 : toPys ds with
        | none => simp [h1, h2] at h
        | some ps =>
          simp [h1, h2] at h
          subst h
          obtain ⟨as, q1⟩ := py_reads I hK a r1 h1
          obtain ⟨bs, q2⟩ := pys_reads I hK b r2 h2
          exact ⟨_, ReadsAll.cons q1 q2⟩
end
end
/-- what repr shows -/
def shw (p : PyData) : Option (List Nat) := if p.showable && !p.hasDict && decide (p.depth ≤ 60) && decide (p.shown.length ≤ sizeLine) then some p.shown.cps.toList else none
def reprB : List D → Option D
  | [d] => (toPy d).bind fun p => (shw p).map .str
  | _ => none
def rRepr (K : PySem.W.Frag) : List V → Hp → VK → Prop := fun xs H Q => ∃ x d p t, xs = [x] ∧ DR ⟨K, fun _ => False⟩ H d x ∧ toPy d = some p ∧ shw p = some t ∧ Q (.str ⟨t.toArray⟩) H
theorem reprB_ok {K : PySem.W.Frag} : CallS K (rRepr K) reprB := by
  intro R H xs ds d Q hk tr ra e q
  unfold reprB at e
  split at e
  · rename_i d0
    cases h1 : toPy d0 with
    | none => simp [h1] at e
    | some p =>
      simp [h1] at e
      obtain ⟨t, h2, h3⟩ := e
      subst h3
      obtain ⟨x, rfl, a⟩ := ra.one
      have e1 : R.z = ⟨K, fun _ => False⟩ := by unfold RC.z; rw [hk]
      exact ⟨x, d0, p, t, rfl, by rw [← e1]; exact a.z, h1, h2, q _ H (Evl.Ex.refl H) (.str _)⟩
  · cases e
theorem shw_ok {p : PyData} {t : List Nat} (h : shw p = some t) : p.showable = true ∧ p.hasDict = false ∧ p.depth ≤ 60 ∧ p.shown.length ≤ sizeLine ∧ p.shown = ⟨t.toArray⟩ := by
  unfold shw at h
  split at h
  · rename_i hc
    simp only [Bool.and_eq_true, decide_eq_true_eq, Bool.not_eq_true'] at hc
    refine ⟨hc.1.1.1, hc.1.1.2, hc.1.2, hc.2, ?_⟩
    cases h
    simp
  · cases h
theorem cr_repr {X : Cx} (hg : X.A.guards = some []) (hu : X.A.units + 64 < cLine) : CallR X (.builtin "repr") (rRepr X.K) := by
  intro pins s σ H xs us Q I r h
  obtain ⟨x, d, p, t, rfl, dr, h1, h2, q⟩ := h
  obtain ⟨u, rfl, r1⟩ := vals1 r
  obtain ⟨as, rd⟩ := py_reads I rfl dr r1 h1
  obtain ⟨s1, s2, s3, s4, s5⟩ := shw_ok h2
  have fin : ∀ (h' : Heap) (tk : Tok) (n : Nat), (∀ b o, s.heap.get? b = some o → h'.get? b = some o) → EP X pins σ Q (.str p.shown tk) { s with heap := h', toks := n } := fun h' tk n k =>
    ⟨.str ⟨t.toArray⟩, H, I.kept (t' := n) k, ⟨tk, by rw [s5]⟩, q⟩
  cases rd with
  | none =>
    have e : PyData.shown .none = "None" := by simp only [PyData.shown]
    exact PySem.P.repr_of_none (by rw [← e]; exact fin _ _ _ fun _ _ z => z)
  | bool b =>
    have e : PyData.shown (.bool b) = (if b then Str.ofString "True" else Str.ofString "False") := by cases b <;> simp only [PyData.shown] <;> rfl
    exact PySem.P.repr_of_bool (by rw [← e]; exact fin _ _ _ fun _ _ z => z)
  | int i tk =>
    have e : PyData.shown (.int i) = toString i := by simp only [PyData.shown]
    exact PySem.P.repr_of_int (by simpa [PyData.showable] using s1) (by rw [← e]; exact fin _ _ _ fun _ _ z => z)
  | str z tk =>
    have e : PyData.shown (.str z) = reprText z := by simp only [PyData.shown]
    exact PySem.P.repr_of_str (by rw [← e]; exact fin _ _ _ fun _ _ z => z) (by rw [← e]; exact s4)
  | list k1 k2 k3 k4 =>
    exact repr_of_reads' (.list k1 k2 k3 k4) s1 (fun z => by rw [s2] at z; cases z) hg (by omega) (fun _ _ z => z) (fun h' u tk k => fin h' u tk k) s4
  | tuple k1 k2 k3 k4 =>
    exact repr_of_reads' (.tuple k1 k2 k3 k4) s1 (fun z => by rw [s2] at z; cases z) hg (by omega) (fun _ _ z => z) (fun h' u tk k => fin h' u tk k) s4
  | dict k1 k2 k3 k4 k5 =>
    simp [PyData.hasDict] at s2

/-! ### isinstance -/
inductive Ty where
  | int | bool | str | tuple | list | dict
def Ty.nm : Ty → String
  | .int => "int" | .bool => "bool" | .str => "str" | .tuple => "tuple" | .list => "list" | .dict => "dict"
def isiD : Ty → D → Option Bool
  | t, .non => some false
  | .int, .bl _ => some true
  | .bool, .bl _ => some true
  | _, .bl _ => some false
  | .int, .int _ => some true
  | _, .int _ => some false
  | .str, .str _ => some true
  | _, .str _ => some false
  | .tuple, .tup _ => some true
  | _, .tup _ => some false
  | .list, .lst _ => some true
  | _, .lst _ => some false
  | .dict, .dct _ => some true
  | _, .dct _ => some false
  | _, _ => none
theorem kit_all : ∀ t : Ty, kitB "NoneType" t.nm = some false ∧ kitB "bool" t.nm = some (match t with | .int => true | .bool => true | _ => false) ∧ kitB "int" t.nm = some (match t with | .int => true | _ => false) ∧
    kitB "str" t.nm = some (match t with | .str => true | _ => false) ∧ kitB "tuple" t.nm = some (match t with | .tuple => true | _ => false) ∧ kitB "list" t.nm = some (match t with | .list => true | _ => false) ∧ kitB "dict" t.nm = some (match t with | .dict => true | _ => false) := by
  intro t
  cases t <;> decide +kernel
theorem isi_ok {K : PySem.W.Frag} {R : RC} {H : Hp} {t : Ty} {d : D} {x : V} {b : Bool} (hk : R.K = K) (a : AR R H d x) (h : isiD t d = some b) : ∃ ty, TyX K H x ty ∧ PySem.W.kitOne K ty (.type t.nm) = some b := by
  obtain ⟨k1, k2, k3, k4, k5, k6, k7⟩ := kit_all t
  cases d with
  | non =>
    rw [a.non]
    refine ⟨_, .base .non, kit_ty ?_⟩
    cases t <;> cases h <;> exact k1
  | bl c =>
    rw [a.bl]
    refine ⟨_, .base (.bl c), kit_ty ?_⟩
    cases t <;> cases h <;> exact k2
  | int i =>
    rw [a.int]
    refine ⟨_, .base (.int i), kit_ty ?_⟩
    cases t <;> cases h <;> exact k3
  | str y =>
    rw [a.str]
    refine ⟨_, .base (.str _), kit_ty ?_⟩
    cases t <;> cases h <;> exact k4
  | lst ds =>
    obtain ⟨p, xs, rfl, h1, _⟩ := a.lst
    refine ⟨_, .base (.lst h1), kit_ty ?_⟩
    cases t <;> cases h <;> exact k6
  | tup ds =>
    obtain ⟨p, xs, rfl, h1, _⟩ := a.tup
    have ty : TyX K H (.ref p) (.type "tuple") := by
      rcases h1.sq with (h2 | ⟨o, h2⟩) | ⟨o, its, n, h2, h3, _⟩
      · exact .base (.tup h2)
      · exact .fTuple h2
      · exact .kTuple (by rw [← hk]; exact h2) h3
    refine ⟨_, ty, kit_ty ?_⟩
    cases t <;> cases h <;> exact k5
  | dct kvs =>
    obtain ⟨p, xs, rfl, h1, _⟩ := a.dct
    refine ⟨_, .base (.dK h1), kit_ty ?_⟩
    cases t <;> cases h <;> exact k7
  | exc c fs => cases t <;> cases h
  | frz ds => cases t <;> cases h
  | ref l => cases t <;> cases h
end Mi
set_option Elab.async false
set_option linter.all false
set_option maxRecDepth 100000
set_option maxHeartbeats 2000000
/-! M8: what a loop walks -/
namespace Mi
open PySem L2

/-- later: the context, all that stood stands, what may be written is there -/
structure Lt (R : RC) (H : Hp) (R' : RC) (H' : Hp) : Prop where
  to : To R H R' H'
  al : ∀ a o, H a = some o → ∃ u, H' a = some u
  tr : ∀ z, R'.M z → ∃ o, H' z = some o
theorem Lt.trans {R R1 R2 : RC} {H H1 H2 : Hp} (a : Lt R H R1 H1) (b : Lt R1 H1 R2 H2) : Lt R H R2 H2 :=
  ⟨a.to.trans b.to fun x h => al_none a.al h, fun x o h => by
    obtain ⟨u, q⟩ := a.al x o h
    exact b.al x u q, b.tr⟩
theorem Lt.ex {R R' : RC} {H H' H2 : Hp} (a : Lt R H R' H') (e : Evl.Ex H' H2) : Lt R H R' H2 :=
  a.trans ⟨To.ex e, fun x o h => ⟨o, e x o h⟩, fun z h => by
    obtain ⟨o, q⟩ := a.tr z h
    exact ⟨o, e z o q⟩⟩
theorem Lt.refl {R : RC} {H : Hp} (tr : ∀ z, R.M z → ∃ o, H z = some o) : Lt R H R H := ⟨To.refl, fun _ o h => ⟨o, h⟩, tr⟩
theorem Nx.lt {R R' : RC} {ρ ρ' : En} {σ : St} {H H' : Hp} (e : EnR R H ρ σ) (n : Nx R ρ σ H R' ρ' H') : Lt R H R' H' := ⟨n.to e, n.al, n.en.tr⟩
theorem Ns.lt {R R' : RC} {ρ ρ' : En} {σ σ' : St} {H H' : Hp} (e : EnR R H ρ σ) (n : Ns R ρ σ H R' ρ' σ' H') : Lt R H R' H' := ⟨n.to e, n.al, n.en.tr⟩

/-- the iterator J gives ds, from here on -/
def WD (R : RC) (H : Hp) (J : It) (ds : List D) : Prop := ∃ (G : Hp → Prop) (Y : Nat → Hp → V → Hp → Prop), Walk J ds.length G Y ∧ (∀ R' H', Lt R H R' H' → G H') ∧
  ∀ i R' H' x H2, i < ds.length → Lt R H R' H' → Y i H' x H2 → Evl.Ex H' H2 ∧ ∃ d, ds[i]? = some d ∧ DR R' H2 d x
theorem WD.lt {R R' : RC} {H H' : Hp} {J : It} {ds : List D} (w : WD R H J ds) (l : Lt R H R' H') : WD R' H' J ds := by
  obtain ⟨G, Y, h1, h2, h3⟩ := w
  exact ⟨G, Y, h1, fun R2 H2 l2 => h2 R2 H2 (l.trans l2), fun i R2 H2 x H3 hi l2 y => h3 i R2 H2 x H3 hi (l.trans l2) y⟩
theorem DRs.at {R : RC} {H : Hp} {ds : List D} {xs : List V} {i : Nat} {x : V} (r : DRs R H ds xs) (h : xs[i]? = some x) : ∃ d, ds[i]? = some d ∧ DR R H d x := r.getV h
theorem ex_refl {H : Hp} : Evl.Ex H H := fun _ _ h => h
section
variable {R : RC} {H : Hp} {a b : Addr} {ds es : List D} {xs ys : List V}
theorem wd_list (h : ∀ R' H', Lt R H R' H' → SqL R.K H' a xs) (r : DRs R H ds xs) : WD R H (Itl R.K a) ds := by
  refine ⟨fun H' => SqL R.K H' a xs, YAt xs, by rw [r.len]; exact walk_list, h, fun i R' H' x H2 hi l y => ?_⟩
  obtain ⟨rfl, hx⟩ := y
  exact ⟨ex_refl, (r.to l.to).at hx⟩
theorem wd_tup (h : ∀ R' H', Lt R H R' H' → SqT R.K H' a xs) (r : DRs R H ds xs) : WD R H (Itt R.K a) ds := by
  refine ⟨fun H' => SqT R.K H' a xs, YAt xs, by rw [r.len]; exact walk_tup, h, fun i R' H' x H2 hi l y => ?_⟩
  obtain ⟨rfl, hx⟩ := y
  exact ⟨ex_refl, (r.to l.to).at hx⟩
theorem sq_lst (h : LsAt R H a xs) : ∀ R' H', Lt R H R' H' → SqL R.K H' a xs := fun R' H' l => by
  have := (h.to l.to).sq
  rwa [l.to.k] at this
theorem sq_frz (h : FzAt R H a xs) : ∀ R' H', Lt R H R' H' → SqL R.K H' a xs := fun R' H' l => by
  have := (h.to l.to).sq
  rwa [l.to.k] at this
theorem sq_tup (h : TpAt R H a xs) : ∀ R' H', Lt R H R' H' → SqT R.K H' a xs := fun R' H' l => by
  have := (h.to l.to).sq
  rwa [l.to.k] at this
def chars (s : List Nat) : List D := s.map fun c => .str [c]
theorem wd_str (s : List Nat) : WD R H (Its ⟨s.toArray⟩) (chars s) := by
  have hw := walk_str (z := ⟨s.toArray⟩)
  have hl : (chars s).length = (⟨s.toArray⟩ : Str).cps.size := by simp [chars]
  refine ⟨fun _ => True, _, by rw [hl]; exact hw, fun _ _ _ => trivial, fun i R' H' x H2 hi l y => ?_⟩
  obtain ⟨rfl, c, hc, rfl⟩ := y
  refine ⟨ex_refl, .str [c], ?_, .str [c]⟩
  have hc : s[i]? = some c := by simpa using hc
  simp [chars, hc]
def rngD (lo : Int) (n : Nat) : List D := (List.range n).map fun i => .int (lo + (i : Nat))
theorem wd_range (lo : Int) (n : Nat) : WD R H (Itr lo n) (rngD lo n) := by
  refine ⟨fun _ => True, YFn fun i => .int (lo + i), by rw [show (rngD lo n).length = n by simp [rngD]]; exact walk_range, fun _ _ _ => trivial, fun i R' H' x H2 hi l y => ?_⟩
  obtain ⟨rfl, rfl⟩ := y
  refine ⟨ex_refl, .int (lo + i), ?_, .int _⟩
  have hi : i < n := by simpa [rngD] using hi
  simp [rngD, hi]
def enumD (i : Nat) : List D → List D
  | [] => []
  | d :: ds => .tup [.int (i : Nat), d] :: enumD (i + 1) ds
theorem enumD_len : ∀ {ds : List D} {i : Nat}, (enumD i ds).length = ds.length
  | [], _ => rfl
  | _ :: ds, i => by simp [enumD, enumD_len (ds := ds)]
theorem enumD_get : ∀ {ds : List D} {k i : Nat} {d : D}, ds[i]? = some d → (enumD k ds)[i]? = some (.tup [.int ((k + i : Nat) : Int), d])
  | [], _, _, _, h => by simp at h
  | d :: ds, k, 0, _, h => by
    simp at h
    subst h
    rfl
  | d :: ds, k, i + 1, e, h => by
    have := enumD_get (ds := ds) (k := k + 1) (i := i) (d := e) (by simpa using h)
    simp only [enumD, List.getElem?_cons_succ, this]
    congr 5
    omega
/-- a new pair -/
theorem pair_dr {R' : RC} {H' : Hp} (tr : ∀ z, R'.M z → ∃ o, H' z = some o) {T : Addr} (hT : H' T = none) {d e : D} {x y : V} (rx : DR R' H' d x) (ry : DR R' H' e y) : Evl.Ex H' (upd H' T (.tup [x, y])) ∧ DR R' (upd H' T (.tup [x, y])) (.tup [d, e]) (.ref T) :=
  new_tup tr hT (.cons rx (.cons ry .nil))
theorem wd_enum {J : It} (hw : Walk J xs.length (fun H' => ∃ R', Lt R H R' H') (YPair (fun i => some (.int (i : Nat))) (fun i => xs[i]?))) (r : DRs R H ds xs) : WD R H J (enumD 0 ds) := by
  refine ⟨fun H' => ∃ R', Lt R H R' H', _, by rw [enumD_len, r.len]; exact hw, fun R' H' l => ⟨R', l⟩, fun i R' H' x H2 hi l y => ?_⟩
  obtain ⟨T, x1, y1, rfl, hT, rfl, e1, e2⟩ := y
  cases e1
  obtain ⟨d, hd, rd⟩ := (r.to l.to).at e2
  obtain ⟨ex, dr⟩ := pair_dr l.tr hT (DR.int (i : Nat)) rd
  refine ⟨ex, _, ?_, dr⟩
  have := enumD_get (k := 0) hd
  rwa [Nat.zero_add] at this
def zipD : List D → List D → List D
  | d :: ds, e :: es => .tup [d, e] :: zipD ds es
  | _, _ => []
theorem zipD_len : ∀ {ds es : List D}, (zipD ds es).length = min ds.length es.length
  | [], _ => by simp [zipD]
  | _ :: _, [] => by simp [zipD]
  | d :: ds, e :: es => by simp [zipD, zipD_len (ds := ds)]
theorem zipD_get : ∀ {ds es : List D} {i : Nat} {d e : D}, ds[i]? = some d → es[i]? = some e → (zipD ds es)[i]? = some (.tup [d, e])
  | [], _, _, _, _, h, _ => by simp at h
  | _ :: _, [], _, _, _, _, h => by simp at h
  | d :: ds, e :: es, 0, _, _, h, h' => by
    simp at h h'
    subst h; subst h'
    rfl
  | d :: ds, e :: es, i + 1, _, _, h, h' => by
    simpa [zipD] using zipD_get (ds := ds) (es := es) (i := i) (by simpa using h) (by simpa using h')
theorem wd_zip {J : It} (hw : Walk J (min xs.length ys.length) (fun H' => ∃ R', Lt R H R' H') (YPair (fun i => xs[i]?) (fun i => ys[i]?))) (r : DRs R H ds xs) (q : DRs R H es ys) : WD R H J (zipD ds es) := by
  refine ⟨fun H' => ∃ R', Lt R H R' H', _, by rw [zipD_len, r.len, q.len]; exact hw, fun R' H' l => ⟨R', l⟩, fun i R' H' x H2 hi l y => ?_⟩
  obtain ⟨T, x1, y1, rfl, hT, rfl, e1, e2⟩ := y
  obtain ⟨d, hd, rd⟩ := (r.to l.to).at e1
  obtain ⟨e, he, re⟩ := (q.to l.to).at e2
  obtain ⟨ex, dr⟩ := pair_dr l.tr hT rd re
  exact ⟨ex, _, zipD_get hd he, dr⟩
end

/-! ### what comes to be walked -/
def AfterI (W : WX) (R : RC) (ρ : En) (σ : St) (H : Hp) (Q : It → Hp → Prop) : R3 (List D) → Prop
  | .ok ds ρ' => ∀ R' J H', Nx R ρ σ H R' ρ' H' → WD R' H' J ds → Q J H'
  | .ex x ρ' => ∀ R' H' cls d, Nx R ρ σ H R' ρ' H' → ExR R' H' x cls d → W cls d σ H'
def iD (K : PySem.W.Frag) (W : WX) (f : Mo (List D)) : TI := fun σ H Q => ∃ R ρ r, R.K = K ∧ EnR R H ρ σ ∧ f ρ = some r ∧ AfterI W R ρ σ H Q r
theorem PI.imp {X : Cx} {tg e : Expr} {t t' : TI} (h : PI X tg e t) (i : ∀ σ H Q, t' σ H Q → t σ H Q) : PI X tg e t' := ⟨fun pins s σ H Q I q => h.run pins s σ H Q I (i σ H Q q)⟩
theorem PI.or {X : Cx} {tg e : Expr} {t t' : TI} (h : PI X tg e t) (h' : PI X tg e t') : PI X tg e (fun σ H Q => t σ H Q ∨ t' σ H Q) := ⟨fun pins s σ H Q I q => q.elim (h.run pins s σ H Q I) (h'.run pins s σ H Q I)⟩
/-- what a value gives -/
def seqD : D → Option (List D)
  | .lst ds => some ds
  | .tup ds => some ds
  | .frz ds => some ds
  | .str s => some (chars s)
  | _ => none
theorem seq_it {K : PySem.W.Frag} {W : WX} {R1 : RC} {H1 : Hp} {x : V} {d : D} {ds : List D} {Q : It → Hp → Prop} (hk : R1.K = K) (r : DR R1 H1 d x) (h : seqD d = some ds) (q : ∀ J, WD R1 H1 J ds → Q J H1) :
    (∃ a, x = .ref a ∧ (∃ xs, SqL K H1 a xs) ∧ Q (Itl K a) H1) ∨ (∃ a, x = .ref a ∧ (∃ xs, SqT K H1 a xs) ∧ Q (Itt K a) H1) ∨ ∃ z, x = .str z ∧ Q (Its z) H1 := by
  subst hk
  cases r with
  | non => cases h
  | bl b => cases h
  | int i => cases h
  | str s =>
    cases h
    exact .inr (.inr ⟨_, rfl, q _ (wd_str s)⟩)
  | lst h1 h2 =>
    cases h
    exact .inl ⟨_, rfl, ⟨_, h1.sq⟩, q _ (wd_list (sq_lst h1) h2)⟩
  | tup h1 h2 =>
    cases h
    exact .inr (.inl ⟨_, rfl, ⟨_, h1.sq⟩, q _ (wd_tup (sq_tup h1) h2)⟩)
  | frz h1 h2 =>
    cases h
    exact .inl ⟨_, rfl, ⟨_, h1.sq⟩, q _ (wd_list (sq_frz h1) h2)⟩
  | dct h1 h2 h3 => cases h
  | exc h1 h2 h3 => cases h
section
variable {X : Cx} {W : WX} {tg e e2 : Expr} {p pos tpos : Pos} {f g : Mo Hd}
def seqM (f : Mo Hd) : Mo (List D) := Mo.bind f fun h => Mo.bind (freeze h) fun d => Mo.lift (seqD d)
/-- frozen first -/
theorem frz_after {K : PySem.W.Frag} {β : Type} {f : Mo Hd} {k : D → Option (List D)} {R : RC} {ρ : En} {σ : St} {H : Hp} {r : R3 (List D)} {Q : It → Hp → Prop} {Q2 : VK} (hk : R.K = K) (e : EnR R H ρ σ)
    (h : Mo.bind f (fun h => Mo.bind (freeze h) fun d => Mo.lift (k d)) ρ = some r) (q : AfterI W R ρ σ H Q r)
    (step : ∀ R1 ρ1 H1 x d ds, R1.K = K → EnR R1 H1 ρ1 σ → DR R1 H1 d x → k d = some ds → (∀ R' J H', Nx R1 ρ1 σ H1 R' ρ1 H' → WD R' H' J ds → Q J H') → Q2 x H1) : tA K W f σ H Q2 := by
  rcases bind_ok h with ⟨a, ρ1, h1, h2⟩ | ⟨x, ρ1, h1, rfl⟩
  · refine ⟨R, ρ, _, hk, e, h1, fun R1 x H1 n1 r1 => ?_⟩
    rcases bind_ok h2 with ⟨d, ρ2, h3, h4⟩ | ⟨x, ρ2, h3, _⟩
    · obtain ⟨R2, n2, r2⟩ := freeze_ok n1.en r1 h3
      unfold Mo.lift at h4
      cases hd : k d with
      | none => simp [hd] at h4
      | some ds =>
        simp [hd] at h4
        subst h4
        have nn := n1.trans n2
        exact step R2 ρ2 H1 x d ds (nn.k.trans hk) n2.en r2 hd fun R' J H' n w => q R' J H' (nn.trans n) w
    · exact (freeze_no h3).elim
  · exact ⟨R, ρ, _, hk, e, h1, q⟩
theorem pi_seq (he : PE X e (tA X.K W f)) : PI X tg e (iD X.K W (seqM f)) := by
  refine PI.imp (t := fun σ H Q => tA X.K W f σ H fun x H1 => (∃ a, x = .ref a ∧ (∃ xs, SqL X.K H1 a xs) ∧ Q (Itl X.K a) H1) ∨ (∃ a, x = .ref a ∧ (∃ xs, SqT X.K H1 a xs) ∧ Q (Itt X.K a) H1) ∨ ∃ z, x = .str z ∧ Q (Its z) H1) ⟨fun pins s σ H Q I h => ?_⟩ ?_
  · skip
    refine thn (he.run pins s σ H _ I h) fun v s1 ⟨x, H1, I1, r1, q1⟩ => ?_
    rcases q1 with q | q | q
    · obtain ⟨a, rfl, ⟨xs, hq⟩, q⟩ := q
      cases r1
      obtain ⟨its, rv, p, hz⟩ := I1.list hq
      refine wpAny_pyIter_list p.isList ?_
      refine ⟨s1.heap.objs.size, [s1.heap.objs.size], _, _, H1, rfl, I1.kept (t' := s1.toks) fun b o e => Heap.get?_push_of_some _ e, turn_list a _, ⟨_, Heap.get?_push_size _ rfl, rfl, rfl⟩, fun b hb => ?_, q⟩
      have e : b = s1.heap.objs.size := by simpa using hb
      subst e
      exact I1.fpOk (Nat.le_refl _) (I1.hok.fresh (Nat.le_refl _))
    · obtain ⟨a, rfl, ⟨xs, hq⟩, q⟩ := q
      cases r1
      obtain ⟨its, rv, p, hz⟩ := I1.tuple hq
      refine wpAny_pyIter_tuple (show s1.heap.IsTuple a its.toArray from p) ?_
      refine ⟨s1.heap.objs.size, [s1.heap.objs.size], _, _, H1, rfl, I1.kept (t' := s1.toks) fun b o e => Heap.get?_push_of_some _ e, turn_tuple a _, ⟨_, Heap.get?_push_size _ rfl, rfl, rfl⟩, fun b hb => ?_, q⟩
      have e : b = s1.heap.objs.size := by simpa using hb
      subst e
      exact I1.fpOk (Nat.le_refl _) (I1.hok.fresh (Nat.le_refl _))
    · obtain ⟨x, rfl, q⟩ := q
      obtain ⟨t, rfl⟩ := r1
      cases ha : x.cps.all (· < 128)
      · exact wpAny_pyIter_wide ha (pi_one (tk := s1.toks) I1 _ (turn_str _ x t "str_iterator" (.inr rfl)) ⟨_, Heap.get?_push_size _ rfl, rfl, rfl⟩ q)
      · exact wpAny_pyIter_ascii ha (pi_one (tk := s1.toks) I1 _ (turn_str _ x t "str_ascii_iterator" (.inl rfl)) ⟨_, Heap.get?_push_size _ rfl, rfl, rfl⟩ q)
  · rintro σ H Q ⟨R, ρ, r, hk, en, hf, q⟩
    refine frz_after (β := Unit) hk en hf q fun R1 ρ1 H1 x d ds hk1 en1 dr hd q1 => ?_
    exact seq_it (W := W) hk1 dr hd fun J w => q1 R1 J H1 (Nx.refl en1) w
end
end Mi
set_option Elab.async false
set_option linter.all false
set_option maxRecDepth 100000
set_option maxHeartbeats 2000000
/-! M9: enumerate over a tuple; range, enumerate, zip -/
namespace Mi
open PySem PySem.Spec L2
open PyProof.Rows hiding St

theorem enum_new1 {v : Value} {o : Obj} {H : Heap → Prop} (B : Begins v o H) :
    Meets (Builtin.«enumerate.__new__» ⟨[.type "enumerate", v], []⟩) (fun _ R s => H s.heap ∧
      R (.ok (.ret (.ref (s.heap.push o).objs.size))) { s with heap := (s.heap.push o).push { cls := .type "enumerate", data := .fields #[.none, .bool false, .ref s.heap.objs.size, rawInt 0, .none, .none] } }) :=
  .of_wp fun prog w A R s h => by
    obtain ⟨hp, g, d, tk, os⟩ := s
    obtain ⟨h1, h⟩ := h
    have sub1 := sub_enumerate
    have step : ∀ {A' : Around} {E' : Value → Shared → Prop} {Q' : Value → Shared → Prop}, Q' (.ref hp.objs.size) ⟨hp.push o, g, d, tk, os⟩ → wpAny (model prog w) A' (pyIter v) Q' E' ⟨hp, g, d, tk, os⟩ :=
      fun z => B.iter prog w _ _ ⟨hp, g, d, tk, os⟩ _ h1 z
    wp_walk using step
    refine wpAny_stack_any fun st => wpAny_pure ?_
    split
    · rename_i c _ _ _ _ _
      cases (c == Value.type "enumerate")
      · wp_walk using step
        exact ⟨_, rfl, h⟩
      · wp_walk using step
        exact ⟨_, rfl, h⟩
    · wp_walk using step
      exact ⟨_, rfl, h⟩
theorem enum_call1 {prog : Program} {w : World} {A : Around} {E : Value → Shared → Prop} {s : Shared} {v : Value} {o : Obj} {H : Heap → Prop} {Q : Value → Shared → Prop} (B : Begins v o H) (h1 : H s.heap)
    (h : ∀ h', IsEnum h' (s.heap.objs.size + 1) s.heap.objs.size 0 .none → h'.get? s.heap.objs.size = some o → h'.objs.size = s.heap.objs.size + 2 →
      (∀ b u, s.heap.get? b = some u → h'.get? b = some u) → Q (.ref (s.heap.objs.size + 1)) { s with heap := h' }) :
    wpAny (model prog w) A (call (.type "enumerate") [v]) Q E s := by
  refine callType_new F.called_enumerate (by decide) (F.typeCall_enumerate_1 _) (F.newCall_enumerate_1 _) (fun obj => F.args_object_init_2 obj _) F.entry_enumerate_new
    (enum_new1 B) ⟨h1, ?_⟩
  have sz : (s.heap.push o).objs.size = s.heap.objs.size + 1 := Heap.size_push ..
  show _ ∧ _
  rw [sz]
  have en : IsEnum ((s.heap.push o).push { cls := .type "enumerate", data := .fields #[.none, .bool false, .ref s.heap.objs.size, rawInt 0, .none, .none] }) (s.heap.objs.size + 1) s.heap.objs.size 0 .none := by
    have z := Heap.get?_push_size (s.heap.push o) (o := { cls := .type "enumerate", data := .fields #[.none, .bool false, .ref s.heap.objs.size, rawInt 0, .none, .none] }) rfl
    rw [sz] at z
    exact z
  refine ⟨⟨_, en, rfl⟩, h _ en (Heap.get?_push_of_some _ (Heap.get?_push_size _ B.free)) (by rw [Heap.size_push, sz]) fun b u x => Heap.get?_push_of_some _ (Heap.get?_push_of_some _ x)⟩
/-- the tuple at a, each item in a new pair with its index -/
def IteT (K : PySem.W.Frag) (a : Addr) : It :=
  ⟨fun i H => ∃ (xs : List V) (x : V), SqT K H a xs ∧ xs[i]? = some x, fun i H v H' => ∃ T x, v = .ref T ∧ H T = none ∧ H' = upd H T (.tup [.int (i : Nat), x]) ∧ ∀ xs, SqT K H a xs → xs[i]? = some x, fun i H => ∃ xs : List V, SqT K H a xs ∧ xs.length = i⟩
theorem turn_enumT {P : Program} {w : World} {K : PySem.W.Frag} {elts : List Expr} {kk : Nat} {tpos : Pos} (a e it : Addr) :
    Turn P w K (.Tuple elts kk tpos) (IteT K a) [e, it] e (fun i h => (∃ old, IsEnum h e it ((i : Nat) : Int) old) ∧ h.IsTupleIter it a i ∧ e ≠ it) where
  mem := by simp
  obj := fun i h st b hb => by
    obtain ⟨⟨old, he⟩, ⟨o, ho, hc, hd⟩, _⟩ := st
    have e' : b = e ∨ b = it := by simpa using hb
    rcases e' with z | z
    · rw [z]
      exact ⟨_, he, fun v q => nomatch q⟩
    · rw [z]
      exact ⟨o, ho, fun v q => by rw [hd] at q; cases q⟩
  keep := fun i h h' st k => let ⟨⟨old, he⟩, hi, hne⟩ := st; ⟨⟨old, k e (by simp) _ he⟩, hi.at fun o q => k it (by simp) o q, hne⟩
  item := by
    intro X hP hw hK hc i pins s σ H E I hf st hg
    subst hP hw hK
    obtain ⟨⟨old, he⟩, hit, hne⟩ := st
    obtain ⟨xs, x, hq, hx⟩ := hg
    obtain ⟨its, rv, p, hz⟩ := I.tuple hq
    obtain ⟨u, hu, ru⟩ := rv.get hx
    have hel : e < s.heap.objs.size := Heap.lt_size he
    have hil : it < s.heap.objs.size := by
      obtain ⟨_, q, _⟩ := hit
      exact Heap.lt_size q
    have p' : s.heap.IsTuple a its.toArray := p
    have hai : a ≠ it := by
      rintro rfl
      obtain ⟨o1, q1, c1, d1⟩ := id hit
      obtain ⟨o2, q2, c2, _⟩ := id p'
      rw [q1] at q2
      cases q2
      rw [c1] at c2
      exact absurd c2 (by decide)
    have hae : e ≠ a := by
      rintro rfl
      obtain ⟨o2, q2, c2, _⟩ := id p'
      rw [he] at q2
      cases q2
      exact Value.noConfusion c2 fun z => absurd z (by decide)
    have dr := Draws.tuple (prog := X.prog) (w := X.w) (A := X.A.in1) (I.ok.hd hc) it a hai its.toArray
    refine wpAny_pyNext_enum_itemD dr he ⟨hit, p'⟩ (i := i) (by
      have := (List.getElem?_eq_some_iff.mp hu).1
      simpa using this) hne (by simp only [List.mem_cons, List.not_mem_nil, or_false, not_or]; exact ⟨hne, hae⟩) fun u' h' tk hx' ho hit' hT hsz hk => ?_
    have hu' : u' = u := by
      have hx' : its.toArray[i]? = some u' := hx'
      rw [List.getElem?_toArray, hu] at hx'
      exact (Option.some.inj hx').symm
    subst hu'
    refine ⟨_, rfl, wpAny_letOwnedTupleGo_enum (s := { s with heap := h', toks := tk + 1 }) ho fun h'' he' sb => ?_⟩
    have hT2 : h''.get? s.heap.objs.size = some { cls := .type "tuple", data := .seq #[.int i tk, u'] } := (sb.2 _ (Nat.ne_of_gt hel)).trans hT
    have new : ObjOk X.prog X.w (upd H s.heap.objs.size (.tup [.int (i : Nat), x])) h'' s.heap.objs.size (.tup [.int (i : Nat), x]) :=
      ⟨by show 2 ≤ sizeLine; decide, [.int i tk, u'], .cons ⟨_, rfl⟩ (.cons ru .nil), ⟨_, hT2, rfl, _, rfl⟩⟩
    have I1 : Inv X pins σ (upd H s.heap.objs.size (.tup [.int (i : Nat), x])) { s with heap := h'', toks := tk + 1 } :=
      I.turnedNew (ch := [e, it]) (fun b ob hb q => (sb.2 b (fun z => hb (by simp [z]))).trans (hk b ob (fun z => hb (by simp [z])) (fun z => hb (by simp [z])) q)) hf (Nat.le_refl _) new
    refine ⟨.ref s.heap.objs.size, _, I1, rfl, ⟨_, x, rfl, I.hok.fresh (Nat.le_refl _), rfl, fun ys hy => by rw [I.tuple_inj hy hq]; exact hx⟩, ⟨⟨u', ?_⟩, hit'.1.at fun o q => (sb.2 it (Ne.symm hne)).trans q, hne⟩, fun b hb => ?_⟩
    · have e1 : ((i + 1 : Nat) : Int) = (i : Int) + 1 := by omega
      rw [e1]
      exact he'
    · have hb' : b < s.heap.objs.size := by
        have e' : b = e ∨ b = it := by simpa using hb
        rcases e' with z | z
        · rw [z]; exact hel
        · rw [z]; exact hil
      rw [upd_ne (Nat.ne_of_lt hb')]
      exact (hf b hb).1
  done := by
    intro X hP hw hK hc i pins s σ H E I hf st hg
    subst hP hw hK
    obtain ⟨⟨old, he⟩, hit, hne⟩ := st
    obtain ⟨xs, hq, hx⟩ := hg
    obtain ⟨its, rv, p, hz⟩ := I.tuple hq
    obtain ⟨f0, f1, f2, f3, f4, f5⟩ := hf it (by simp)
    have hl := rv.length
    have p' : s.heap.IsTuple a its.toArray := p
    have hai : a ≠ it := by
      rintro rfl
      obtain ⟨o1, q1, c1, d1⟩ := id hit
      obtain ⟨o2, q2, c2, _⟩ := id p'
      rw [q1] at q2
      cases q2
      rw [c1] at c2
      exact absurd c2 (by decide)
    have dr := Draws.tuple (prog := X.prog) (w := X.w) (A := X.A.in1) (I.ok.hd hc) it a hai its.toArray
    have hn : its.toArray.size = i := by simp; omega
    refine wpAny_pyNext_enum_endD dr he (by rw [hn]; exact ⟨hit, p'⟩) fun h' eb => ⟨rfl, I.turned (t' := s.toks) (fun b o hb q => eb b o hb q) f0 f1 f3 f4 f5⟩
  self := fun A i s Q E st h => let ⟨⟨_, he⟩, _⟩ := st; wpAny_pyIter_enum he h
theorem walk_enumT {K : PySem.W.Frag} {a : Addr} {xs : List V} : Walk (IteT K a) xs.length (fun H => SqT K H a xs) (YPair (fun i => some (.int (i : Nat))) (fun i => xs[i]?)) := by
  refine ⟨fun i _ hi q => ⟨xs, xs[i], q, by simp [hi]⟩, fun _ q => ⟨xs, q, rfl⟩, fun i H v H' _ q y => ?_⟩
  obtain ⟨T, x, h1, h2, h3, h4⟩ := y
  exact ⟨T, .int (i : Nat), x, h1, h2, h3, rfl, h4 xs q⟩
theorem walk_zipT {K : PySem.W.Frag} {a b : Addr} {xs ys : List V} : Walk (RZ.ItzT K a b) (min xs.length ys.length) (fun H => SqT K H a xs ∧ SqT K H b ys) (YPair (fun i => xs[i]?) (fun i => ys[i]?)) := by
  refine ⟨fun i _ hi q => ?_, fun _ q => ⟨xs, ys, q.1, q.2, by omega⟩, fun i H v H' _ q y => ?_⟩
  · have h1 : i < xs.length := by omega
    have h2 : i < ys.length := by omega
    exact ⟨xs, ys, xs[i], ys[i], q.1, q.2, by simp [h1], by simp [h2]⟩
  · obtain ⟨T, x, z, h1, h2, h3, h4, h5⟩ := y
    exact ⟨T, x, z, h1, h2, h3, h4 xs q.1, h5 ys q.2⟩
/-- enumerate(list or tuple) -/
def iEnumA (K : PySem.W.Frag) (ta : TA) : TI := fun σ H R => ta σ H fun vs H1 => ∃ a xs, vs = [.ref a] ∧ ((SqL K H1 a xs ∧ R (Ite K a) H1) ∨ (SqT K H1 a xs ∧ R (IteT K a) H1))
theorem pi_enumA {X : Cx} {e : Expr} {ta : TA} {p pos tpos : Pos} {elts : List Expr} {kk : Nat} (hg : Gl X "enumerate") (hm : X.mg "enumerate" = none) (ha : PA X [e] ta) (hs : starEach [e] X.env = [(false, eval e X.env)]) :
    PI X (.Tuple elts kk tpos) (.Call (.Name "enumerate" p) [e] [] pos) (iEnumA X.K ta) := by
  refine ⟨fun pins s σ H R I h => ?_⟩
  refine Call_ (ld_blt I hg hm boot_enumerate (PyProof.Rows.callWith_type1 (thn (ha.run pos pins s σ H _ I h) fun us s1 ⟨vs, H1, I1, r1, q1⟩ => ?_) hs rfl))
  obtain ⟨a, xs, ex, q⟩ := q1
  subst ex
  cases r1 with
  | cons r rr =>
    cases rr
    cases r
    have fr : ∀ b, b = s1.heap.objs.size + 1 ∨ b = s1.heap.objs.size → FpOk X pins H1 b := fun b e' => by
      have hle : s1.heap.objs.size ≤ b := by
        rcases e' with z | z
        · rw [z]; exact Nat.le_add_right _ _
        · rw [z]; exact Nat.le_refl _
      exact I1.fpOk hle (I1.hok.fresh hle)
    rcases q with ⟨hq, q⟩ | ⟨hq, q⟩
    · obtain ⟨its, rv, p', hz⟩ := I1.list hq
      refine call_enumerate_list p'.isList fun h' he hit hsz hk => wpAny_pyIter_enum he ?_
      have I2 : Inv X pins σ H1 { s1 with heap := h' } := I1.kept (t' := s1.toks) hk
      exact ⟨s1.heap.objs.size + 1, [s1.heap.objs.size + 1, s1.heap.objs.size], _, _, H1, rfl, I2, turn_enum a (s1.heap.objs.size + 1) s1.heap.objs.size, ⟨⟨.none, he⟩, hit, Nat.succ_ne_self _⟩, fun b hb => fr b (by simpa using hb), q⟩
    · obtain ⟨its, rv, p', hz⟩ := I1.tuple hq
      refine enum_call1 (begins_tuple a its.toArray) (show s1.heap.IsTuple a its.toArray from p') fun h' he ho hsz hk => wpAny_pyIter_enum he ?_
      have I2 : Inv X pins σ H1 { s1 with heap := h' } := I1.kept (t' := s1.toks) hk
      exact ⟨s1.heap.objs.size + 1, [s1.heap.objs.size + 1, s1.heap.objs.size], _, _, H1, rfl, I2, turn_enumT a (s1.heap.objs.size + 1) s1.heap.objs.size, ⟨⟨.none, he⟩, ⟨_, ho, rfl, rfl⟩, Nat.succ_ne_self _⟩, fun b hb => fr b (by simpa using hb), q⟩

/-! ### as data -/
section
variable {X : Cx} {W : WX} {tg e e2 : Expr} {p pos tpos : Pos} {g : Mo (List Hd)}
/-- arguments frozen first -/
def itM (k : List D → Option (List D)) (g : Mo (List Hd)) : Mo (List D) := Mo.bind g fun hs => Mo.bind (freezes hs) fun ds => Mo.lift (k ds)
theorem frzs_after {K : PySem.W.Frag} {k : List D → Option (List D)} {R : RC} {ρ : En} {σ : St} {H : Hp} {r : R3 (List D)} {Q : It → Hp → Prop} {Q2 : List V → Hp → Prop} (hk : R.K = K) (e : EnR R H ρ σ)
    (h : itM k g ρ = some r) (q : AfterI W R ρ σ H Q r)
    (step : ∀ R1 ρ1 H1 xs ds es, R1.K = K → EnR R1 H1 ρ1 σ → DRs R1 H1 ds xs → k ds = some es → (∀ R' J H', Nx R1 ρ1 σ H1 R' ρ1 H' → WD R' H' J es → Q J H') → Q2 xs H1) : tAs K W g σ H Q2 := by
  rcases bind_ok h with ⟨a, ρ1, h1, h2⟩ | ⟨x, ρ1, h1, rfl⟩
  · refine ⟨R, ρ, _, hk, e, h1, fun R1 x H1 n1 r1 => ?_⟩
    rcases bind_ok h2 with ⟨d, ρ2, h3, h4⟩ | ⟨x, ρ2, h3, _⟩
    · obtain ⟨d', ρ2', z, R2, n2, r2⟩ := freezes_ok n1.en r1 h3
      cases z
      unfold Mo.lift at h4
      cases hd : k d with
      | none => simp [hd] at h4
      | some ds =>
        simp [hd] at h4
        subst h4
        have nn := n1.trans n2
        exact step R2 _ H1 x d ds (nn.k.trans hk) n2.en r2 hd fun R' J H' n w => q R' J H' (nn.trans n) w
    · obtain ⟨d', ρ2', z, _⟩ := freezes_ok n1.en r1 h3
      cases z
  · exact ⟨R, ρ, _, hk, e, h1, q⟩
def seqT : D → Option (List D)
  | .lst ds => some ds
  | .tup ds => some ds
  | .frz ds => some ds
  | _ => none
theorem seqT_sq {K : PySem.W.Frag} {R1 : RC} {H1 : Hp} {x : V} {d : D} {ds : List D} (hk : R1.K = K) (r : DR R1 H1 d x) (h : seqT d = some ds) :
    ∃ a xs, x = .ref a ∧ DRs R1 H1 ds xs ∧ ((∀ R' H', Lt R1 H1 R' H' → SqL K H' a xs) ∨ (∀ R' H', Lt R1 H1 R' H' → SqT K H' a xs)) := by
  subst hk
  cases r with
  | non => cases h
  | bl b => cases h
  | int i => cases h
  | str s => cases h
  | lst h1 h2 =>
    cases h
    exact ⟨_, _, rfl, h2, .inl (sq_lst h1)⟩
  | tup h1 h2 =>
    cases h
    exact ⟨_, _, rfl, h2, .inr (sq_tup h1)⟩
  | frz h1 h2 =>
    cases h
    exact ⟨_, _, rfl, h2, .inl (sq_frz h1)⟩
  | dct h1 h2 h3 => cases h
  | exc h1 h2 h3 => cases h
def enumK : List D → Option (List D)
  | [d] => (seqT d).map (enumD 0)
  | _ => none
theorem pi_enumD (hg : Gl X "enumerate") (hm : X.mg "enumerate" = none) {elts : List Expr} {kk : Nat} (ha : PA X [e] (tAs X.K W g)) (hs : starEach [e] X.env = [(false, eval e X.env)]) :
    PI X (.Tuple elts kk tpos) (.Call (.Name "enumerate" p) [e] [] pos) (iD X.K W (itM enumK g)) := by
  refine PI.imp (pi_enumA hg hm ha hs) ?_
  rintro σ H Q ⟨R, ρ, r, hk, en, hf, q⟩
  refine frzs_after hk en hf q fun R1 ρ1 H1 xs ds es hk1 en1 dr hd q1 => ?_
  match ds, dr, hd with
  | [d], .cons rd .nil, hd =>
    have hd : (seqT d).map (enumD 0) = some es := hd
    obtain ⟨ds, h1, rfl⟩ := map_some hd
    obtain ⟨a, ys, rfl, r2, h2⟩ := seqT_sq hk1 rd h1
    refine ⟨a, ys, rfl, ?_⟩
    have l0 := Lt.refl (R := R1) (H := H1) en1.tr
    rcases h2 with h2 | h2
    · exact .inl ⟨h2 _ _ l0, q1 R1 _ H1 (Nx.refl en1) (wd_enum (walk_enum.mono (fun H' ⟨R', l⟩ => h2 R' H' l) fun i H x H' _ _ y => y) r2)⟩
    · exact .inr ⟨h2 _ _ l0, q1 R1 _ H1 (Nx.refl en1) (wd_enum (walk_enumT.mono (fun H' ⟨R', l⟩ => h2 R' H' l) fun i H x H' _ _ y => y) r2)⟩
def zipK : List D → Option (List D)
  | [.tup ds, .tup es] => some (zipD ds es)
  | [.lst ds, .lst es] => some (zipD ds es)
  | _ => none
theorem pi_zipD (hg : Gl X "zip") (hm : X.mg "zip" = none) {elts : List Expr} {kk : Nat} (ha : PA X [e, e2] (tAs X.K W g))
    (hs : starEach [e, e2] X.env = (false, eval e X.env) :: starEach [e2] X.env) (hpl : (backTo pos (starEach [e2] X.env)).any (·.1) = false) :
    PI X (.Tuple elts kk tpos) (.Call (.Name "zip" p) [e, e2] [] pos) (iD X.K W (itM zipK g)) := by
  refine PI.imp (RZ.pi_zipA hg hm ha hs hpl) ?_
  rintro σ H Q ⟨R, ρ, r, hk, en, hf, q⟩
  refine frzs_after hk en hf q fun R1 ρ1 H1 xs ds es hk1 en1 dr hd q1 => ?_
  have l0 := Lt.refl (R := R1) (H := H1) en1.tr
  show ∃ a b xs_1 ys, xs = [V.ref a, V.ref b] ∧ _
  rw [← hk1]
  unfold zipK at hd
  split at hd
  · cases hd
    cases dr with
    | cons r1 rr =>
      cases rr with
      | cons r2 rr =>
        cases rr
        cases r1 with
        | tup h1 h2 =>
          cases r2 with
          | tup h3 h4 =>
            exact ⟨_, _, _, _, rfl, .inr ⟨sq_tup h1 _ _ l0, sq_tup h3 _ _ l0, q1 R1 _ H1 (Nx.refl en1) (wd_zip (walk_zipT.mono (fun H' ⟨R', l⟩ => ⟨sq_tup h1 R' H' l, sq_tup h3 R' H' l⟩) fun i H x H' _ _ y => y) h2 h4)⟩⟩
  · cases hd
    cases dr with
    | cons r1 rr =>
      cases rr with
      | cons r2 rr =>
        cases rr
        cases r1 with
        | lst h1 h2 =>
          cases r2 with
          | lst h3 h4 =>
            exact ⟨_, _, _, _, rfl, .inl ⟨sq_lst h1 _ _ l0, sq_lst h3 _ _ l0, q1 R1 _ H1 (Nx.refl en1) (wd_zip ((walk_zip rfl).mono (fun H' ⟨R', l⟩ => ⟨sq_lst h1 R' H' l, sq_lst h3 R' H' l⟩) fun i H x H' _ _ y => y) h2 h4)⟩⟩
  · cases hd
def smlB (i : Int) : Bool := decide (-(2 ^ 62) ≤ i) && decide (i < 2 ^ 62)
theorem smlB_ok {i : Int} (h : smlB i = true) : -(2 ^ 62) ≤ i ∧ i < 2 ^ 62 := by
  unfold smlB at h
  simp only [Bool.and_eq_true, decide_eq_true_eq] at h
  exact h
def rngK1 : List D → Option (List D)
  | [.int j] => if smlB j then some (rngD 0 j.toNat) else none
  | _ => none
def rngK2 : List D → Option (List D)
  | [.int i, .int j] => if smlB i && smlB j then some (rngD i (j - i).toNat) else none
  | _ => none
theorem pi_rngD1 (hg : Gl X "range") (hm : X.mg "range" = none) (ha : PA X [e] (tAs X.K W g)) (hs : starEach [e] X.env = [(false, eval e X.env)]) :
    PI X tg (.Call (.Name "range" p) [e] [] pos) (iD X.K W (itM rngK1 g)) := by
  refine PI.imp (pi_range1 hg hm ha hs) ?_
  rintro σ H Q ⟨R, ρ, r, hk, en, hf, q⟩
  refine frzs_after hk en hf q fun R1 ρ1 H1 xs ds es hk1 en1 dr hd q1 => ?_
  unfold rngK1 at hd
  split at hd
  · rename_i j
    cases dr with
    | cons r1 rr =>
      cases rr
      cases r1
      by_cases hb : smlB j = true
      · rw [if_pos hb] at hd
        cases hd
        obtain ⟨h1, h2⟩ := smlB_ok hb
        exact ⟨j, rfl, h1, h2, q1 R1 _ H1 (Nx.refl en1) (wd_range 0 _)⟩
      · rw [if_neg hb] at hd
        cases hd
  · cases hd
theorem pi_rngD2 (hg : Gl X "range") (hm : X.mg "range" = none) (ha : PA X [e, e2] (tAs X.K W g)) (hs : starEach [e, e2] X.env = [(false, eval e X.env), (false, eval e2 X.env)]) (hs2 : starEach [e2] X.env = [(false, eval e2 X.env)]) :
    PI X tg (.Call (.Name "range" p) [e, e2] [] pos) (iD X.K W (itM rngK2 g)) := by
  refine PI.imp (pi_range2 hg hm ha hs hs2) ?_
  rintro σ H Q ⟨R, ρ, r, hk, en, hf, q⟩
  refine frzs_after hk en hf q fun R1 ρ1 H1 xs ds es hk1 en1 dr hd q1 => ?_
  unfold rngK2 at hd
  split at hd
  · rename_i i j
    cases dr with
    | cons r1 rr =>
      cases rr with
      | cons r2 rr =>
        cases rr
        cases r1
        cases r2
        by_cases hb : (smlB i && smlB j) = true
        · rw [if_pos hb] at hd
          cases hd
          rw [Bool.and_eq_true] at hb
          obtain ⟨h1, h2⟩ := smlB_ok hb.1
          obtain ⟨h3, h4⟩ := smlB_ok hb.2
          exact ⟨i, j, rfl, ⟨h1, h2, h3, h4⟩, q1 R1 _ H1 (Nx.refl en1) (wd_range i _)⟩
        · rw [if_neg hb] at hd
          cases hd
  · cases hd
end
end Mi
set_option Elab.async false
set_option linter.all false
set_option maxRecDepth 100000
set_option maxHeartbeats 2000000
/-! M10: targets, statements -/
namespace Mi
open PySem L2

def slotOf : Fr → Sl
  | .dat d => .v d
  | .new o => .own false o
section
variable {R R' : RC} {ρ ρ' : En} {σ : St} {H H' : Hp}
end
theorem Ny.ns {R R' : RC} {ρ ρ' : En} {σ : St} {H H' : Hp} (n : Ny R ρ σ H R' ρ' H') : Ns R ρ σ H R' ρ' σ H' :=
  ⟨n.en, n.k, n.m, n.cov, n.h, fun a h => .inl (n.owns h), fun i o h => ⟨n.own i true o h, rfl⟩, fun a ⟨i, o, h1, h2⟩ => .inl (by
    obtain ⟨u, h3⟩ := n.own i false o h1
    exact ⟨i, u, h3, h2⟩), n.al⟩
section
variable {R R' : RC} {ρ ρ' : En} {σ : St} {H H' : Hp}
/-- a result goes into a slot -/
theorem set_ns2 {σ' : St} (n : Ns R ρ σ H R' ρ' σ' H') {fr : Fr} {x : V} (r : FrR R' H' ρ' σ' H fr x) (i : Nat) : Ns R ρ σ H R' (ρ'.set i (slotOf fr)) (σ'.set i (some x)) H' := by
  have own' : ∀ (j : Nat) (l : Bool) (o : Ow) (a : Addr), (ρ'.set i (slotOf fr))[j]? = some (.own l o) → (σ'.set i (some x))[j]? = some (some (.ref a)) → (i = j ∧ fr = .new o ∧ l = false ∧ x = .ref a ∧ H a = none) ∨ (i ≠ j ∧ ρ'[j]? = some (.own l o) ∧ σ'[j]? = some (some (.ref a))) := by
    intro j l o a h1 h2
    rcases set_get h1 with ⟨rfl, e, hl⟩ | ⟨hne, h1⟩
    · have hl' : i < σ'.length := by rw [← n.en.len]; exact hl
      rw [List.getElem?_set_self hl'] at h2
      cases h2
      cases fr with
      | dat d => cases e
      | new o' =>
        cases e
        obtain ⟨p, e2, _, _, h4⟩ := r
        cases e2
        exact .inl ⟨rfl, rfl, rfl, rfl, h4⟩
    · rw [List.getElem?_set_ne hne] at h2
      exact .inr ⟨hne, h1, h2⟩
  refine ⟨⟨by rw [List.length_set, List.length_set]; exact n.en.len, fun j s h => ?_, fun j k l m o u hjk hj hk => ?_, n.en.tr, n.en.tb, n.en.nt⟩, n.k, n.m, n.cov, n.h, fun a h => ?_, fun j o h => ?_, fun a h => ?_, n.al⟩
  · rcases set_get h with ⟨rfl, e, hl⟩ | ⟨hne, h⟩
    · have hl' : i < σ'.length := by rw [← n.en.len]; exact hl
      refine ⟨some x, List.getElem?_set_self hl', ?_⟩
      subst e
      cases fr with
      | dat d => exact ⟨x, rfl, r⟩
      | new o =>
        obtain ⟨p, rfl, h2, _⟩ := r
        exact ⟨p, rfl, h2⟩
    · obtain ⟨y, h1, h2⟩ := n.en.sl j s h
      exact ⟨y, by rw [List.getElem?_set_ne hne]; exact h1, h2⟩
  · intro heq
    -- both hold addresses
    have ad : ∀ {j : Nat} {l : Bool} {o : Ow}, (ρ'.set i (slotOf fr))[j]? = some (.own l o) → ∃ a, (σ'.set i (some x))[j]? = some (some (.ref a)) := fun {j l o} h => by
      rcases set_get h with ⟨rfl, e, hl⟩ | ⟨hne, h⟩
      · have hl' : i < σ'.length := by rw [← n.en.len]; exact hl
        cases fr with
        | dat d => cases e
        | new o' =>
          obtain ⟨p, rfl, _⟩ := r
          exact ⟨p, List.getElem?_set_self hl'⟩
      · obtain ⟨y, h1, a, rfl, _⟩ := n.en.sl j _ h
        exact ⟨a, by rw [List.getElem?_set_ne hne]; exact h1⟩
    obtain ⟨a, ha⟩ := ad hj
    obtain ⟨b, hb⟩ := ad hk
    have hab : a = b := by
      rw [ha, hb] at heq
      cases heq
      rfl
    subst hab
    rcases own' j l o a hj ha with ⟨rfl, rfl, _, rfl, h1⟩ | ⟨h1, h2, h3⟩
    · rcases own' k m u a hk hb with ⟨rfl, _⟩ | ⟨_, h5, h6⟩
      · exact hjk rfl
      · obtain ⟨p, e, _, no, _⟩ := r
        cases e
        exact no ⟨k, m, u, h5, h6⟩
    · rcases own' k m u a hk hb with ⟨rfl, rfl, _, rfl, _⟩ | ⟨_, h5, h6⟩
      · obtain ⟨p, e, _, no, _⟩ := r
        cases e
        exact no ⟨j, l, o, h2, h3⟩
      · exact n.en.ap j k l m o u hjk h2 h5 (by rw [h3, h6])
  · obtain ⟨j, l, o, h1, h2⟩ := h
    rcases own' j l o a h1 h2 with ⟨_, _, _, _, h3⟩ | ⟨_, h3, h4⟩
    · exact .inr h3
    · exact n.own a ⟨j, l, o, h3, h4⟩
  · rcases set_get h with ⟨rfl, e, hl⟩ | ⟨hne, h⟩
    · cases fr <;> cases e
    · obtain ⟨h1, h2⟩ := n.lent j o h
      exact ⟨h1, by rw [List.getElem?_set_ne hne]; exact h2⟩
  · obtain ⟨j, o, h1, h2⟩ := h
    rcases own' j false o a h1 h2 with ⟨_, _, _, _, h3⟩ | ⟨_, h3, h4⟩
    · exact .inr h3
    · exact n.ownF a ⟨j, o, h3, h4⟩
theorem set_ns (n : Ny R ρ σ H R' ρ' H') {fr : Fr} {x : V} (r : FrR R' H' ρ' σ H fr x) (i : Nat) : Ns R ρ σ H R' (ρ'.set i (slotOf fr)) (σ.set i (some x)) H' := set_ns2 n.ns r i
theorem setv_ns (e : EnR R H ρ σ) {d : D} {x : V} (r : DR R H d x) (i : Nat) : Ns R ρ σ H R (ρ.set i (.v d)) (σ.set i (some x)) H := set_ns (fr := .dat d) (Nx.refl e).ny r i
end
/-- slots that own do so at their places -/
structure Nz (R : RC) (ρ : En) (σ : St) (H : Hp) (R' : RC) (ρ' : En) (σ' : St) (H' : Hp) : Prop where
  en : EnR R' H' ρ' σ'
  k : R'.K = R.K
  m : ∀ a, R'.M a → R.M a ∨ H a = none
  cov : ∀ a, R.M a → R'.M a ∨ Owns ρ σ a
  h : Keep (Owns ρ σ) H H'
  own : ∀ (i : Nat) (l : Bool) (o : Ow), ρ'[i]? = some (.own l o) → (∃ u, ρ[i]? = some (.own l u)) ∧ σ'[i]? = σ[i]?
  al : ∀ a o, H a = some o → ∃ u, H' a = some u
section
variable {R R' R1 R2 : RC} {ρ ρ' ρ1 ρ2 : En} {σ σ' σ1 σ2 : St} {H H' H1 H2 : Hp}
theorem Ny.nz (n : Ny R ρ σ H R' ρ' H') : Nz R ρ σ H R' ρ' σ H' := ⟨n.en, n.k, n.m, n.cov, n.h, fun i l o h => ⟨n.own i l o h, rfl⟩, n.al⟩
theorem Nz.ny (n : Nz R ρ σ H R' ρ' σ H') : Ny R ρ σ H R' ρ' H' := ⟨n.en, n.k, n.m, n.cov, n.h, fun i l o h => (n.own i l o h).1, n.al⟩
theorem Nz.owns (n : Nz R ρ σ H R' ρ' σ' H') {a : Addr} (h : Owns ρ' σ' a) : Owns ρ σ a := by
  obtain ⟨i, l, o, h1, h2⟩ := h
  obtain ⟨⟨u, h3⟩, h4⟩ := n.own i l o h1
  exact ⟨i, l, u, h3, by rw [← h4]; exact h2⟩
theorem Nz.ns (n : Nz R ρ σ H R' ρ' σ' H') : Ns R ρ σ H R' ρ' σ' H' :=
  ⟨n.en, n.k, n.m, n.cov, n.h, fun a h => .inl (n.owns h), fun i o h => n.own i true o h, fun a ⟨i, o, h1, h2⟩ => .inl (by
    obtain ⟨⟨u, h3⟩, h4⟩ := n.own i false o h1
    exact ⟨i, u, h3, by rw [← h4]; exact h2⟩), n.al⟩
theorem Nz.trans (a : Nz R ρ σ H R1 ρ1 σ1 H1) (b : Nz R1 ρ1 σ1 H1 R2 ρ2 σ2 H2) : Nz R ρ σ H R2 ρ2 σ2 H2 where
  en := b.en
  k := b.k.trans a.k
  m := fun x h => by
    rcases b.m x h with q | q
    · exact a.m x q
    · exact .inr (al_none a.al q)
  cov := fun x h => by
    rcases a.cov x h with q | q
    · rcases b.cov x q with q | q
      · exact .inl q
      · exact .inr (a.owns q)
    · exact .inr q
  h := Keep.trans a.h b.h fun x h => .inl (a.owns h)
  own := fun i l o h => by
    obtain ⟨⟨u, h1⟩, h2⟩ := b.own i l o h
    obtain ⟨h3, h4⟩ := a.own i l u h1
    exact ⟨h3, h2.trans h4⟩
  al := fun x o h => by
    obtain ⟨u, h1⟩ := a.al x o h
    exact b.al x u h1
theorem Nz.refl (e : EnR R H ρ σ) : Nz R ρ σ H R ρ σ H := (Nx.refl e).ny.nz
theorem setv_nz (e : EnR R H ρ σ) {d : D} {x : V} (r : DR R H d x) (i : Nat) : Nz R ρ σ H R (ρ.set i (.v d)) (σ.set i (some x)) H :=
  ⟨(setv_ns e r i).en, rfl, fun _ h => .inl h, fun _ h => .inl h, Keep.refl, fun j l o h => by
    rcases set_get h with ⟨_, z, _⟩ | ⟨hne, h⟩
    · cases z
    · exact ⟨⟨o, h⟩, by rw [List.getElem?_set_ne hne]⟩, fun _ o h => ⟨o, h⟩⟩
end

/-! ### targets -/
mutual
inductive Tg where
  | nm (i : Nat) | tup (ts : Tgs)
inductive Tgs where
  | nil | cons (t : Tg) (ts : Tgs)
end
mutual
def setT : Tg → D → En → Option En
  | .nm i, d, ρ => some (ρ.set i (.v d))
  | .tup ts, .tup ds, ρ => setTs ts ds ρ
  | .tup _, _, _ => none
def setTs : Tgs → List D → En → Option En
  | .nil, [], ρ => some ρ
  | .cons t ts, d :: ds, ρ => match setT t d ρ with
    | some ρ1 => setTs ts ds ρ1
    | none => none
  | _, _, _ => none
end
mutual
def Tg.sl : Tg → List Nat
  | .nm i => [i]
  | .tup ts => ts.sl
def Tgs.sl : Tgs → List Nat
  | .nil => []
  | .cons t ts => t.sl ++ ts.sl
end
def Tgs.len : Tgs → Nat
  | .nil => 0
  | .cons _ ts => ts.len + 1
theorem setTs_len : ∀ {ts : Tgs} {ds : List D} {ρ ρ' : En}, setTs ts ds ρ = some ρ' → ds.length = ts.len
  | .nil, [], _, _, _ => rfl
  | .nil, _ :: _, _, _, h => by simp [setTs] at h
  | .cons t ts, [], _, _, h => by simp [setTs] at h
  | .cons t ts, d :: ds, ρ, ρ', h => by
    unfold setTs at h
    cases h1 : setT t d ρ with
    | none => simp [h1] at h
    | some ρ1 =>
      simp [h1] at h
      simp [Tgs.len, setTs_len h]
theorem wipe_set_ne {σ : St} {i : Nat} {y : Option V} : ∀ {vs : List Nat}, wipe (σ.set i y) vs = if i ∈ vs then wipe σ vs else (wipe σ vs).set i y
  | [] => by simp [wipe]
  | v :: vs => by
    have ih := wipe_set_ne (σ := σ) (i := i) (y := y) (vs := vs)
    unfold wipe
    rw [ih]
    by_cases h : i ∈ vs
    · simp [h]
    · simp only [h, if_false, List.mem_cons, or_false]
      by_cases e : i = v
      · subst e
        simp [List.set_set]
      · simp only [e, if_false]
        exact List.set_comm _ _ e
/-- only these slots changed -/
def SetOn (l : List Nat) (σ σ' : St) : Prop := ∀ vs, (∀ i ∈ l, i ∈ vs) → wipe σ' vs = wipe σ vs
theorem SetOn.one {σ : St} {i : Nat} {y : Option V} : SetOn [i] σ (σ.set i y) := fun vs h => by
  rw [wipe_set_ne, if_pos (h i (by simp))]
theorem SetOn.trans {l m : List Nat} {σ σ1 σ2 : St} (a : SetOn l σ σ1) (b : SetOn m σ1 σ2) : SetOn (l ++ m) σ σ2 := fun vs h => by
  rw [b vs fun i hi => h i (List.mem_append_right _ hi), a vs fun i hi => h i (List.mem_append_left _ hi)]
def gT (K : PySem.W.Frag) (t : Tg) : TG := fun x σ H Q => ∃ R ρ d ρ', R.K = K ∧ EnR R H ρ σ ∧ DR R H d x ∧ setT t d ρ = some ρ' ∧ ∀ σ', Nz R ρ σ H R ρ' σ' H → SetOn t.sl σ σ' → Q σ' H
def gTs (K : PySem.W.Frag) (t : Tgs) : TGs := fun xs σ H Q => ∃ R ρ d ρ', R.K = K ∧ EnR R H ρ σ ∧ DRs R H d xs ∧ setTs t d ρ = some ρ' ∧ ∀ σ', Nz R ρ σ H R ρ' σ' H → SetOn t.sl σ σ' → Q σ' H
theorem PG.imp {X : Cx} {e : Expr} {t t' : TG} (h : PG X e t) (i : ∀ x σ H Q, t' x σ H Q → t x σ H Q) : PG X e t' := ⟨fun pins s σ H v u Q I r q => h.run pins s σ H v u Q I r (i v σ H Q q)⟩
theorem PGs.imp {X : Cx} {e : List Expr} {t t' : TGs} (h : PGs X e t) (i : ∀ x σ H Q, t' x σ H Q → t x σ H Q) : PGs X e t' := ⟨fun pins s σ H v u Q I r q => h.run pins s σ H v u Q I r (i v σ H Q q)⟩
section
variable {X : Cx} {pos : Pos}
theorem pg_nm {i : Nat} {x : Str} (hN : X.N.Nodup) (hi : X.N[i]? = some x) (hx : Loc X.env.scope x) (hf : X.fn x = true ∨ X.env.scope.names.lookup x = some .local) : PG X (.Name x pos) (gT X.K (.nm i)) := by
  refine PG.imp (pg_name hN hi hx hf) ?_
  rintro x σ H Q ⟨R, ρ, d, ρ', hk, e, r, h, q⟩
  cases h
  exact q _ (setv_nz e r i) SetOn.one
theorem pgs_no : PGs X [] (gTs X.K .nil) := by
  refine PGs.imp pgs_nil ?_
  rintro xs σ H Q ⟨R, ρ, d, ρ', hk, e, r, h, q⟩
  cases r with
  | nil =>
    cases h
    exact ⟨rfl, q _ (Nz.refl e) fun _ _ => rfl⟩
  | cons _ _ => cases h
theorem pgs_co {e : Expr} {es : List Expr} {t : Tg} {ts : Tgs} (h1 : PG X e (gT X.K t)) (h2 : PGs X es (gTs X.K ts)) (hs : (assignEach (e :: es) X.env).map (·.2) = assign e X.env :: (assignEach es X.env).map (·.2)) : PGs X (e :: es) (gTs X.K (.cons t ts)) := by
  refine PGs.imp (pgs_cons h1 h2 hs) ?_
  rintro xs σ H Q ⟨R, ρ, ds, ρ', hk, e, r, h, q⟩
  cases r with
  | nil => cases h
  | cons r rr =>
    rename_i d x ds xs
    unfold setTs at h
    cases h3 : setT t d ρ with
    | none => simp [h3] at h
    | some ρ1 =>
      simp [h3] at h
      refine ⟨x, xs, rfl, R, ρ, d, ρ1, hk, e, r, h3, fun σ1 n1 s1 => ⟨R, ρ1, ds, ρ', hk, n1.en, rr, h, fun σ2 n2 s2 => ?_⟩⟩
      exact q σ2 (n1.trans n2) (s1.trans s2)
theorem pg_tp {es : List Expr} {k : Nat} {ts : Tgs} (hc : X.calm = true) (h : PGs X es (gTs X.K ts)) (hn : (assignEach es X.env).length = ts.len) (hst : (assignEach es X.env).findIdx? (·.1) = none) : PG X (.Tuple es k pos) (gT X.K (.tup ts)) := by
  refine PG.imp (pg_tup hc h hn hst) ?_
  rintro x σ H Q ⟨R, ρ, d, ρ', hk, e, r, h, q⟩
  cases r with
  | tup h1 h2 =>
    refine ⟨_, _, rfl, by rw [← hk]; exact h1.sq, by rw [← h2.len]; exact setTs_len h, R, ρ, _, ρ', hk, e, h2, h, q⟩
  | _ => simp [setT] at h
end

/-! ### statements -/
def nxM : Ms := fun ρ => some (.ok .nx ρ)
def seqS (f g : Ms) : Ms := fun ρ => match f ρ with
  | some (.ok .nx ρ1) => g ρ1
  | r => r
def asgM (f : Mo Fr) (i : Nat) : Ms := Mo.bind f fun fr ρ => some (.ok .nx (ρ.set i (slotOf fr)))
def asgT (f : Mo Hd) (t : Tg) : Ms := Mo.bind f fun h => Mo.bind (freeze h) fun d ρ => (setT t d ρ).map fun ρ' => .ok .nx ρ'
def retM (f : Mo Fr) : Ms := Mo.bind f fun fr ρ => some (.ok (.rt fr) ρ)
def dropM (f : Mo Hd) : Ms := Mo.bind f fun _ ρ => some (.ok .nx ρ)
def ifM (c : Mo Bool) (f g : Ms) : Ms := Mo.bind c fun b => match b with
  | true => f
  | false => g
def forL (t : Tg) (body : Ms) : List D → Ms
  | [] => nxM
  | d :: ds => fun ρ => match setT t d ρ with
    | none => none
    | some ρ1 => match body ρ1 with
      | some (.ok .nx ρ2) => forL t body ds ρ2
      | some (.ok .ct ρ2) => forL t body ds ρ2
      | some (.ok .bk ρ2) => some (.ok .nx ρ2)
      | r => r
def forM (it : Mo (List D)) (t : Tg) (body : Ms) : Ms := Mo.bind it fun ds => forL t body ds
section
variable {K : PySem.W.Frag} {W : WX} {D : Ends} {σ : St} {H : Hp}
theorem nx_ok (h : tS K W nxM D σ H) : tNext D σ H := by
  obtain ⟨R, ρ, r, hk, e, hf, q⟩ := h
  cases hf
  exact q R σ H (Ns.refl e)
theorem seq_ok {f g : Ms} (h : tS K W (seqS f g) D σ H) : tSeq (tS K W f) (tS K W g) D σ H := by
  obtain ⟨R, ρ, r, hk, e, hf, q⟩ := h
  unfold seqS at hf
  cases h1 : f ρ with
  | none => simp [h1] at hf
  | some r1 =>
    refine ⟨R, ρ, r1, hk, e, h1, ?_⟩
    cases r1 with
    | ex x ρ1 =>
      simp [h1] at hf
      subst hf
      exact q
    | ok fl ρ1 =>
      cases fl with
      | nx =>
        simp [h1] at hf
        intro R' σ' H' n
        exact ⟨R', ρ1, r, n.k.trans hk, n.en, hf, q.ns e n⟩
      | bk =>
        simp [h1] at hf
        subst hf
        exact q
      | ct =>
        simp [h1] at hf
        subst hf
        exact q
      | rt d =>
        simp [h1] at hf
        subst hf
        exact q
theorem asgM_ok {f : Mo Fr} {i : Nat} (h : tS K W (asgM f i) D σ H) : tN K W f σ H fun x H1 => D.nx (σ.set i (some x)) H1 := by
  obtain ⟨R, ρ, r, hk, e, hf, q⟩ := h
  rcases bind_ok hf with ⟨a, ρ1, h1, h2⟩ | ⟨x, ρ1, h1, rfl⟩
  · cases h2
    exact ⟨R, ρ, _, hk, e, h1, fun R' x H' n r => q R' _ H' (set_ns n r i)⟩
  · exact ⟨R, ρ, _, hk, e, h1, fun R' H' cls d n er => q R' σ H' cls d n.ns er⟩
theorem asgT_ok {f : Mo Hd} {t : Tg} (h : tS K W (asgT f t) D σ H) : tA K W f σ H fun x H1 => gT K t x σ H1 D.nx := by
  obtain ⟨R, ρ, r, hk, e, hf, q⟩ := h
  rcases bind_ok hf with ⟨a, ρ1, h1, h2⟩ | ⟨x, ρ1, h1, rfl⟩
  · refine ⟨R, ρ, _, hk, e, h1, fun R1 x H1 n1 r1 => ?_⟩
    rcases bind_ok h2 with ⟨d, ρ2, h3, h4⟩ | ⟨x, ρ2, h3, _⟩
    · obtain ⟨R2, n2, r2⟩ := freeze_ok n1.en r1 h3
      obtain ⟨ρ3, h5, h6⟩ := map_some h4
      subst h6
      exact ⟨R2, ρ2, d, ρ3, (n1.trans n2).k.trans hk, n2.en, r2, h5, fun σ' n s => q R2 σ' H1 (Ns.trans e (n1.trans n2).ns n.ns)⟩
    · exact (freeze_no h3).elim
  · exact ⟨R, ρ, _, hk, e, h1, fun R' H' cls d n er => q R' σ H' cls d n.ns er⟩
theorem retM_ok {f : Mo Fr} (h : tS K W (retM f) D σ H) : tN K W f σ H D.rt := by
  obtain ⟨R, ρ, r, hk, e, hf, q⟩ := h
  rcases bind_ok hf with ⟨a, ρ1, h1, h2⟩ | ⟨x, ρ1, h1, rfl⟩
  · cases h2
    refine ⟨R, ρ, _, hk, e, h1, fun R' x H' n r => q R' σ H' x n.ns ?_⟩
    cases a with
    | dat d => exact r
    | new o =>
      obtain ⟨p, h2, h3, h4, h5⟩ := r
      exact ⟨p, h2, h3, .inl h5⟩
  · exact ⟨R, ρ, _, hk, e, h1, fun R' H' cls d n er => q R' σ H' cls d n.ns er⟩
/-- a container of one's own slot is handed out whole -/
def retV (i : Nat) : Ms := fun ρ => match ρ[i]? with
  | some (.v d) => some (.ok (.rt (.dat d)) ρ)
  | some (.own false o) => some (.ok (.rt (.new o)) ρ)
  | _ => none
theorem retV_ok {i : Nat} (h : tS K W (retV i) D σ H) : tVar i σ H D.rt := by
  obtain ⟨R, ρ, r, hk, e, hf, q⟩ := h
  unfold retV at hf
  cases hs : ρ[i]? with
  | none => simp [hs] at hf
  | some s =>
    obtain ⟨y, h1, h2⟩ := e.sl i s hs
    cases s with
    | no => simp [hs] at hf
    | v d =>
      simp [hs] at hf
      subst hf
      obtain ⟨x, rfl, dr⟩ := h2
      exact ⟨x, h1, q R σ H x (Ns.refl e) dr⟩
    | own l o =>
      cases l with
      | true => simp [hs] at hf
      | false =>
        simp [hs] at hf
        subst hf
        obtain ⟨a, rfl, ow⟩ := h2
        exact ⟨_, h1, q R σ H _ (Ns.refl e) ⟨a, rfl, ow, .inr ⟨i, o, hs, h1⟩⟩⟩
theorem dropM_ok {f : Mo Hd} (h : tS K W (dropM f) D σ H) : tA K W f σ H fun _ H1 => D.nx σ H1 := by
  obtain ⟨R, ρ, r, hk, e, hf, q⟩ := h
  rcases bind_ok hf with ⟨a, ρ1, h1, h2⟩ | ⟨x, ρ1, h1, rfl⟩
  · cases h2
    exact ⟨R, ρ, _, hk, e, h1, fun R' x H' n r => q R' σ H' n.ns⟩
  · exact ⟨R, ρ, _, hk, e, h1, fun R' H' cls d n er => q R' σ H' cls d n.ns er⟩
theorem ifM_ok {c : Mo Bool} {f g : Ms} (h : tS K W (ifM c f g) D σ H) : tIfS (tB K W c) (tS K W f) (tS K W g) D σ H := by
  obtain ⟨R, ρ, r, hk, e, hf, q⟩ := h
  rcases bind_ok hf with ⟨a, ρ1, h1, h2⟩ | ⟨x, ρ1, h1, rfl⟩
  · refine ⟨R, ρ, _, hk, e, h1, fun R' x H' n hx => ?_⟩
    subst hx
    cases a with
    | true => exact ⟨R', ρ1, r, n.k.trans hk, n.en, h2, q.ns e n.ns⟩
    | false => exact ⟨R', ρ1, r, n.k.trans hk, n.en, h2, q.ns e n.ns⟩
  · exact ⟨R, ρ, _, hk, e, h1, fun R' H' cls d n er => q R' σ H' cls d n.ns er⟩
theorem forM_ok {it : Mo (List Mi.D)} {t : Tg} {f : Ms} (h : tS K W (forM it t f) D σ H) : tFor (iD K W it) (gT K t) (tS K W f) D σ H := by
  obtain ⟨R, ρ, r, hk, e, hf, q⟩ := h
  rcases bind_ok hf with ⟨ds, ρ1, h1, h2⟩ | ⟨x, ρ1, h1, rfl⟩
  · refine ⟨R, ρ, _, hk, e, h1, fun R1 J H1 n1 w => ?_⟩
    obtain ⟨G, Y, wk, hG, hY⟩ := w
    have q1 := q.ns e n1.ns
    refine for_it wk (Pv := fun i σ' H' => ∃ R' ρ', Ns R1 ρ1 σ H1 R' ρ' σ' H' ∧ forL t f (ds.drop i) ρ' = some r) ⟨R1, ρ1, Ns.refl n1.en, h2⟩ (fun i σ' H' hi ⟨R', ρ', n, _⟩ => hG R' H' (n.lt n1.en)) (fun i x σ' H' H2 hi ⟨R', ρ', n, hr⟩ y => ?_) fun σ' H' ⟨R', ρ', n, hr⟩ => ?_
    · obtain ⟨ex, d, hd, dr⟩ := hY i R' H' x H2 hi (n.lt n1.en) y
      have hcut : ds.drop i = d :: ds.drop (i + 1) := by
        obtain ⟨hl, e1⟩ := List.getElem?_eq_some_iff.mp hd
        rw [List.drop_eq_getElem_cons hl, e1]
      rw [hcut] at hr
      unfold forL at hr
      have n2 : Ns R1 ρ1 σ H1 R' ρ' σ' H2 := Ns.trans n1.en n (Nx.ex n.en ex).ns
      cases h3 : setT t d ρ' with
      | none => simp [h3] at hr
      | some ρ2 =>
        simp only [h3] at hr
        refine ⟨R', ρ', d, ρ2, (n2.k.trans n1.k).trans hk, n2.en, dr, h3, fun σ2 m s => ?_⟩
        have n3 := Ns.trans n1.en n2 m.ns
        cases h4 : f ρ2 with
        | none => simp [h4] at hr
        | some r4 =>
          refine ⟨R', ρ2, r4, (n3.k.trans n1.k).trans hk, n3.en, h4, ?_⟩
          have qq := q1.ns n1.en n3
          cases r4 with
          | ex x ρ4 =>
            simp [h4] at hr
            subst hr
            exact qq
          | ok fl ρ4 =>
            cases fl with
            | nx =>
              simp [h4] at hr
              intro R4 σ4 H4 n4
              exact ⟨R4, ρ4, Ns.trans n1.en n3 n4, hr⟩
            | ct =>
              simp [h4] at hr
              intro R4 σ4 H4 n4
              exact ⟨R4, ρ4, Ns.trans n1.en n3 n4, hr⟩
            | bk =>
              simp [h4] at hr
              subst hr
              exact qq
            | rt d =>
              simp [h4] at hr
              subst hr
              exact qq
    · rw [List.drop_length] at hr
      cases hr
      exact q1 R' σ' H' n
  · exact ⟨R, ρ, _, hk, e, h1, fun R' H' cls d n er => q R' σ H' cls d n.ns er⟩
end
end Mi
set_option Elab.async false
set_option linter.all false
set_option maxRecDepth 100000
set_option maxHeartbeats 2000000
/-! M11: tests, chains, slices, texts; containers made anew -/
namespace Mi
open PySem L2

section
variable {K : PySem.W.Frag} {W : WX} {σ : St} {H : Hp}
/-- f, then k -/
theorem bindA {α β γ : Type} {rel : RC → Hp → γ → β → Prop} {f : Mo Hd} {k : Hd → Mo γ} {Q : β → Hp → Prop} {Q2 : VK} (h : ∃ R ρ r, R.K = K ∧ EnR R H ρ σ ∧ Mo.bind f k ρ = some r ∧ After W R ρ σ H rel Q r)
    (step : ∀ R1 ρ1 x H1 a r, R1.K = K → EnR R1 H1 ρ1 σ → HdR R1 H1 σ a x → k a ρ1 = some r → After W R1 ρ1 σ H1 rel Q r → Q2 x H1) : tA K W f σ H Q2 := by
  obtain ⟨R, ρ, r, hk, e, hf, q⟩ := h
  rcases bind_ok hf with ⟨a, ρ1, h1, h2⟩ | ⟨x, ρ1, h1, rfl⟩
  · exact ⟨R, ρ, _, hk, e, h1, fun R1 x H1 n1 r1 => step R1 ρ1 x H1 a r (n1.k.trans hk) n1.en r1 h2 (q.nx n1)⟩
  · exact ⟨R, ρ, _, hk, e, h1, q⟩
theorem bindX {β γ : Type} {rel : RC → Hp → γ → β → Prop} {f : Mo Hd} {k : Hd → Mo γ} {Q : β → Hp → Prop} {Q2 : VK} {R : RC} {ρ : En} {r : R3 γ} (hk : R.K = K) (e : EnR R H ρ σ) (hf : Mo.bind f k ρ = some r) (q : After W R ρ σ H rel Q r)
    (step : ∀ R1 ρ1 x H1 a, Nx R ρ σ H R1 ρ1 H1 → HdR R1 H1 σ a x → k a ρ1 = some r → After W R1 ρ1 σ H1 rel Q r → Q2 x H1) : tA K W f σ H Q2 := by
  rcases bind_ok hf with ⟨a, ρ1, h1, h2⟩ | ⟨x, ρ1, h1, rfl⟩
  · exact ⟨R, ρ, _, hk, e, h1, fun R1 x H1 n1 r1 => step R1 ρ1 x H1 a n1 r1 h2 (q.nx n1)⟩
  · exact ⟨R, ρ, _, hk, e, h1, q⟩
theorem bindB {β γ : Type} {rel : RC → Hp → γ → β → Prop} {f : Mo Bool} {k : Bool → Mo γ} {Q : β → Hp → Prop} {Q2 : Bool → Hp → Prop} (h : ∃ R ρ r, R.K = K ∧ EnR R H ρ σ ∧ Mo.bind f k ρ = some r ∧ After W R ρ σ H rel Q r)
    (step : ∀ R1 ρ1 a H1 r, R1.K = K → EnR R1 H1 ρ1 σ → k a ρ1 = some r → After W R1 ρ1 σ H1 rel Q r → Q2 a H1) : tB K W f σ H Q2 := by
  obtain ⟨R, ρ, r, hk, e, hf, q⟩ := h
  rcases bind_ok hf with ⟨a, ρ1, h1, h2⟩ | ⟨x, ρ1, h1, rfl⟩
  · exact ⟨R, ρ, _, hk, e, h1, fun R1 x H1 n1 r1 => by
      subst r1
      exact step R1 ρ1 a H1 r (n1.k.trans hk) n1.en h2 (q.nx n1)⟩
  · exact ⟨R, ρ, _, hk, e, h1, q⟩
theorem deref_ok {α : Type} {a : Hd} {k : D → Mo α} {ρ : En} {r : R3 α} (h : Mo.bind (deref a) k ρ = some r) : ∃ d, deref1 ρ a = some d ∧ k d ρ = some r := by
  unfold Mo.bind deref at h
  cases h1 : deref1 ρ a with
  | none => simp [h1] at h
  | some d => exact ⟨d, rfl, by simpa [h1] using h⟩
theorem lift_ok {α β : Type} {o : Option α} {k : α → Mo β} {ρ : En} {r : R3 β} (h : Mo.bind (Mo.lift o) k ρ = some r) : ∃ a, o = some a ∧ k a ρ = some r := by
  unfold Mo.bind Mo.lift at h
  cases o with
  | none => simp at h
  | some a => exact ⟨a, rfl, by simpa using h⟩
theorem lift_eq {α : Type} {o : Option α} {ρ : En} {r : R3 α} (h : Mo.lift o ρ = some r) : ∃ a, o = some a ∧ r = .ok a ρ := by
  unfold Mo.lift at h
  cases o with
  | none => cases h
  | some a =>
    cases h
    exact ⟨a, rfl, rfl⟩

/-! ### truth -/
def truD : D → Option Bool
  | .non => some false
  | .bl b => some b
  | .int i => some (i != 0)
  | .str s => if s.length ≤ sizeLine then some (!s.isEmpty) else none
  | .lst xs => some (!xs.isEmpty)
  | .tup xs => some (!xs.isEmpty)
  | .frz xs => some (!xs.isEmpty)
  | .dct xs => some (!xs.isEmpty)
  | .ref _ => none
  | .exc _ _ => none
theorem DRs.emp {R : RC} {H : Hp} {ds : List D} {xs : List V} (r : DRs R H ds xs) : (!ds.isEmpty) = !xs.isEmpty := by cases r <;> rfl
theorem truV_ok {R : RC} {x : V} {d : D} {b : Bool} (a : AR R H d x) (h : truD d = some b) : TruV R.K x H b := by
  cases d with
  | non =>
    cases h
    rw [a.non]
    rfl
  | bl c =>
    cases h
    rw [a.bl]
    rfl
  | int i =>
    cases h
    rw [a.int]
    exact rfl
  | str s =>
    have h : (if s.length ≤ sizeLine then some (!s.isEmpty) else none) = some b := h
    split at h
    · rename_i hz
      cases h
      rw [a.str]
      refine ⟨by rw [len_str]; exact hz, ?_⟩
      rw [len_str]
      cases s with
      | nil => rfl
      | cons c s =>
        show true = _
        symm
        rw [bne_iff_ne]
        simp only [List.length_cons]
        omega
    · cases h
  | lst xs =>
    cases h
    obtain ⟨p, ys, rfl, h1, h2⟩ := a.lst
    exact .inl ⟨ys, .inl (.inl h1), h2.emp⟩
  | tup xs =>
    cases h
    obtain ⟨p, ys, rfl, h1, h2⟩ := a.tup
    exact .inr (.inl ⟨ys, h1.sq, h2.emp⟩)
  | frz xs =>
    cases h
    obtain ⟨p, ys, rfl, h1, h2⟩ := a.frz
    exact .inl ⟨ys, h1.sq, h2.emp⟩
  | dct xs =>
    cases h
    obtain ⟨p, ys, rfl, h1, h2, _⟩ := a.dct
    refine .inr (.inr ⟨ys, h1, ?_⟩)
    have := h2.emp
    cases xs <;> cases ys <;> first | rfl | (simp at this)
  | ref l => cases h
  | exc c fs => cases h
def valB (f : Mo Hd) : Mo Bool := Mo.bind f fun h => Mo.bind (deref h) fun d => Mo.lift (truD d)
theorem valB_ok {f : Mo Hd} {Q : Bool → Hp → Prop} (h : tB K W (valB f) σ H Q) : tA K W f σ H fun x H' => ∃ k, TruV K x H' k ∧ Q k H' := by
  refine bindA (α := Unit) h fun R1 ρ1 x H1 a r hk en hr h2 q => ?_
  obtain ⟨d, h3, h4⟩ := deref_ok h2
  obtain ⟨b, h5, rfl⟩ := lift_eq h4
  exact ⟨b, by rw [← hk]; exact truV_ok (deref1_ok en hr h3) h5, q R1 b H1 (Nx.refl en) rfl⟩
def andM (f g : Mo Hd) : Mo Hd := Mo.bind f fun h => Mo.bind (deref h) fun d => Mo.bind (Mo.lift (truD d)) fun b => match b with
  | true => g
  | false => Mo.pure h
def orM (f g : Mo Hd) : Mo Hd := Mo.bind f fun h => Mo.bind (deref h) fun d => Mo.bind (Mo.lift (truD d)) fun b => match b with
  | true => Mo.pure h
  | false => g
theorem andM_ok {f g : Mo Hd} {Q : VK} (h : tA K W (andM f g) σ H Q) : tAndT K (tA K W f) (tA K W g) σ H Q := by
  refine bindA (α := Unit) h fun R1 ρ1 x H1 a r hk en hr h2 q => ?_
  obtain ⟨d, h3, h4⟩ := deref_ok h2
  obtain ⟨b, h5, h6⟩ := lift_ok h4
  refine ⟨b, by rw [← hk]; exact truV_ok (deref1_ok en hr h3) h5, ?_⟩
  cases b with
  | true => exact ⟨R1, ρ1, r, hk, en, h6, q⟩
  | false =>
    cases h6
    exact q R1 x H1 (Nx.refl en) hr
theorem orM_ok {f g : Mo Hd} {Q : VK} (h : tA K W (orM f g) σ H Q) : tOrT K (tA K W f) (tA K W g) σ H Q := by
  refine bindA (α := Unit) h fun R1 ρ1 x H1 a r hk en hr h2 q => ?_
  obtain ⟨d, h3, h4⟩ := deref_ok h2
  obtain ⟨b, h5, h6⟩ := lift_ok h4
  refine ⟨b, by rw [← hk]; exact truV_ok (deref1_ok en hr h3) h5, ?_⟩
  cases b with
  | false => exact ⟨R1, ρ1, r, hk, en, h6, q⟩
  | true =>
    cases h6
    exact q R1 x H1 (Nx.refl en) hr
def notM (f : Mo Hd) : Mo Hd := Mo.bind (valB f) fun b => Mo.pure (.val (.bl (!b)))
theorem notM_ok {f : Mo Hd} {Q : VK} (h : tA K W (notM f) σ H Q) : tNotT K (tA K W f) σ H Q := by
  have h2 : tB K W (valB f) σ H (fun b H1 => Q (.bl (!b)) H1) := bindB h fun R1 ρ1 a H1 r hk en h2 q => by
    cases h2
    exact q R1 _ H1 (Nx.refl en) (.bl _)
  exact valB_ok h2
def andB (f g : Mo Bool) : Mo Bool := Mo.bind f fun b => match b with
  | true => g
  | false => Mo.pure false
def orB (f g : Mo Bool) : Mo Bool := Mo.bind f fun b => match b with
  | true => Mo.pure true
  | false => g
theorem andB_ok {f g : Mo Bool} {Q : Bool → Hp → Prop} (h : tB K W (andB f g) σ H Q) : tAnd (tB K W f) (tB K W g) σ H Q := by
  refine bindB h fun R1 ρ1 a H1 r hk en h2 q => ?_
  cases a with
  | true => exact ⟨R1, ρ1, r, hk, en, h2, q⟩
  | false =>
    cases h2
    exact q R1 _ H1 (Nx.refl en) rfl
theorem orB_ok {f g : Mo Bool} {Q : Bool → Hp → Prop} (h : tB K W (orB f g) σ H Q) : tOr (tB K W f) (tB K W g) σ H Q := by
  refine bindB h fun R1 ρ1 a H1 r hk en h2 q => ?_
  cases a with
  | false => exact ⟨R1, ρ1, r, hk, en, h2, q⟩
  | true =>
    cases h2
    exact q R1 _ H1 (Nx.refl en) rfl
def notB (f : Mo Bool) : Mo Bool := Mo.bind f fun b => Mo.pure (!b)
theorem notB_ok {f : Mo Bool} {Q : Bool → Hp → Prop} (h : tB K W (notB f) σ H Q) : tNot (tB K W f) σ H Q :=
  bindB h fun R1 ρ1 a H1 r hk en h2 q => by
    cases h2
    exact q R1 _ H1 (Nx.refl en) rfl
def iteM (c : Mo Bool) (f g : Mo Hd) : Mo Hd := Mo.bind c fun b => match b with
  | true => f
  | false => g
theorem iteM_ok {c : Mo Bool} {f g : Mo Hd} {Q : VK} (h : tA K W (iteM c f g) σ H Q) : tIf (tB K W c) (tA K W f) (tA K W g) σ H Q := by
  refine bindB h fun R1 ρ1 a H1 r hk en h2 q => ?_
  cases a with
  | true => exact ⟨R1, ρ1, r, hk, en, h2, q⟩
  | false => exact ⟨R1, ρ1, r, hk, en, h2, q⟩
/-- a bool as a test -/
def tstB (f : Mo Hd) : Mo Bool := Mo.bind f fun h => match h with
  | .val (.bl b) => Mo.pure b
  | _ => Mo.lift none
theorem tstB_ok {f : Mo Hd} {Q : Bool → Hp → Prop} (h : tB K W (tstB f) σ H Q) : tA K W f σ H fun x H' => ∃ k, x = .bl k ∧ Q k H' := by
  refine bindA (α := Unit) h fun R1 ρ1 x H1 a r hk en hr h2 q => ?_
  cases a with
  | slot i => cases h2
  | val d =>
    cases d with
    | bl b =>
      cases h2
      cases hr
      exact ⟨b, rfl, q R1 b H1 (Nx.refl en) rfl⟩
    | _ => cases h2

/-! ### operations -/
def opM (op : D → D → Option D) (f g : Mo Hd) : Mo Hd := Mo.bind f fun a => Mo.bind g fun b => Mo.bind (deref a) fun x => Mo.bind (deref b) fun y => Mo.bind (Mo.lift (op x y)) fun d => Mo.pure (.val d)
def negD : D → Option D
  | .int i => some (.int (-i))
  | _ => none
def unM (op : D → Option D) (f : Mo Hd) : Mo Hd := Mo.bind f fun a => Mo.bind (deref a) fun x => Mo.bind (Mo.lift (op x)) fun d => Mo.pure (.val d)
theorem negM_ok {f : Mo Hd} {Q : VK} (h : tA K W (unM negD f) σ H Q) : tUn (rU fun i => .int (-i)) (tA K W f) σ H Q := by
  refine bindA (α := Unit) h fun R1 ρ1 x H1 a r hk en hr h2 q => ?_
  obtain ⟨d, h3, h4⟩ := deref_ok h2
  obtain ⟨b, h5, h6⟩ := lift_ok h4
  cases h6
  cases d with
  | int i =>
    cases h5
    exact ⟨i, (deref1_ok en hr h3).int, q R1 _ H1 (Nx.refl en) (.int _)⟩
  | _ => cases h5
/-- a op b op' c -/
def chainM (op op' : D → D → Option D) (f g e : Mo Hd) : Mo Hd := Mo.bind f fun a => Mo.bind g fun b => Mo.bind (deref a) fun x => Mo.bind (deref b) fun y => Mo.bind (Mo.lift (op x y)) fun z => match z with
  | .bl true => Mo.bind e fun c => Mo.bind (deref b) fun y => Mo.bind (deref c) fun w => Mo.bind (Mo.lift (op' y w)) fun d => Mo.pure (.val d)
  | .bl false => Mo.pure (.val (.bl false))
  | _ => Mo.lift none
theorem chainM_ok {r r' : R2} {op op' : D → D → Option D} (ho : OpS K r op) (ho' : OpS K r' op') {f g e : Mo Hd} {Q : VK} (h : tA K W (chainM op op' f g e) σ H Q) : tChain r r' (tA K W f) (tA K W g) (tA K W e) σ H Q := by
  refine bindA (α := Unit) h fun R1 ρ1 x H1 a rr hk en hr h2 q => ?_
  refine bindX hk en h2 q fun R2 ρ2 y H2 b n2 hr2 h3 q2 => ?_
  obtain ⟨da, h4, h5⟩ := deref_ok h3
  obtain ⟨db, h6, h7⟩ := deref_ok h5
  obtain ⟨z, h8, h9⟩ := lift_ok h7
  have hk2 := n2.k.trans hk
  refine ho R2 H2 x y da db z _ hk2 n2.en.tr (deref1_ok n2.en (hr.to (n2.to en)) h4) (deref1_ok n2.en hr2 h6) h8 fun zv H3 ex dr => ?_
  have n3 := Nx.ex n2.en ex
  cases dr with
  | bl k =>
    refine ⟨k, rfl, ?_⟩
    cases k with
    | false =>
      cases h9
      exact q2 R2 _ H3 n3 (.bl _)
    | true =>
      refine bindX hk2 n3.en h9 (q2.nx n3) fun R4 ρ4 w H4 c n4 hr4 h10 q4 => ?_
      obtain ⟨db', h11, h12⟩ := deref_ok h10
      obtain ⟨dc, h13, h14⟩ := deref_ok h12
      obtain ⟨z', h15, h16⟩ := lift_ok h14
      cases h16
      refine ho' R4 H4 y w db' dc z' _ (n4.k.trans hk2) n4.en.tr (deref1_ok n4.en ((hr2.to (n3.to n2.en)).to (n4.to n3.en)) h11) (deref1_ok n4.en hr4 h13) h15 fun v H5 ex5 dr5 => ?_
      exact q4 R4 v H5 (Nx.ex n4.en ex5) dr5
  | _ => cases h9

/-! ### slices -/
def prtM : Option (Mo Hd) → Mo (Option Int)
  | none => Mo.pure none
  | some f => Mo.bind f fun h => Mo.bind (deref h) fun d => match d with
    | .int i => Mo.pure (some i)
    | _ => Mo.lift none
def sliM (f : Mo Hd) (lo hi : Option (Mo Hd)) : Mo Hd := Mo.bind f fun a => Mo.bind (prtM lo) fun l => Mo.bind (prtM hi) fun u => Mo.bind (deref a) fun x => Mo.bind (Mo.lift (sliD x l u)) fun d => Mo.pure (.val d)
def tPr (K : PySem.W.Frag) (W : WX) : Option (Mo Hd) → TO
  | none => tNoPart
  | some f => tPart (tA K W f)
theorem bindP {β γ : Type} {rel : RC → Hp → γ → β → Prop} {f : Option (Mo Hd)} {k : Option Int → Mo γ} {Q : β → Hp → Prop} {Q2 : Option Int → Hp → Prop} {R : RC} {ρ : En} {r : R3 γ} (hk : R.K = K) (e : EnR R H ρ σ) (hf : Mo.bind (prtM f) k ρ = some r) (q : After W R ρ σ H rel Q r)
    (step : ∀ R1 ρ1 x H1, Nx R ρ σ H R1 ρ1 H1 → k x ρ1 = some r → After W R1 ρ1 σ H1 rel Q r → Q2 x H1) : tPr K W f σ H Q2 := by
  cases f with
  | none => exact step R ρ none H (Nx.refl e) hf q
  | some f =>
    rcases bind_ok hf with ⟨a, ρ1, h1, h2⟩ | ⟨x, ρ1, h1, rfl⟩
    · refine bindX (rel := fun _ _ (a : Option Int) (b : Option Int) => a = b) (Q := fun x H1 => ∃ i, x = some i ∧ Q2 x H1) hk e h1 (fun R1 x H1 n1 hx => ?_) fun R1 ρ2 x H1 b n1 hr h3 q1 => ?_
      · subst hx
        have : ∃ i, a = some i := by
          obtain ⟨b, ρ2, h3, h4⟩ | ⟨x, ρ2, h3, h4⟩ := bind_ok h1
          · obtain ⟨d, h5, h6⟩ := deref_ok h4
            cases d <;> cases h6
            exact ⟨_, rfl⟩
          · cases h4
        obtain ⟨i, rfl⟩ := this
        exact ⟨i, rfl, step R1 ρ1 _ H1 n1 h2 (q.nx n1)⟩
      · obtain ⟨d, h5, h6⟩ := deref_ok h3
        cases d with
        | int i =>
          cases h6
          obtain ⟨j, hj, h7⟩ := q1 R1 _ H1 (Nx.refl n1.en) rfl
          exact ⟨i, (deref1_ok n1.en hr h5).int, h7⟩
        | _ => cases h6
    · rcases bind_ok h1 with ⟨b, ρ2, h3, h4⟩ | ⟨x', ρ2, h3, h4⟩
      · obtain ⟨d, h5, h6⟩ := deref_ok h4
        cases d <;> cases h6
      · cases h4
        exact ⟨R, ρ, _, hk, e, h3, q⟩
theorem sliM_ok {f : Mo Hd} {lo hi : Option (Mo Hd)} {Q : VK} (h : tA K W (sliM f lo hi) σ H Q) : tSl (rSliD K) (tA K W f) (tPr K W lo) (tPr K W hi) σ H Q := by
  refine bindA (α := Unit) h fun R1 ρ1 x H1 a rr hk en hr h2 q => ?_
  refine bindP hk en h2 q fun R2 ρ2 l H2 n2 h3 q2 => ?_
  refine bindP (n2.k.trans hk) n2.en h3 q2 fun R3 ρ3 u H3 n3 h4 q3 => ?_
  obtain ⟨d, h5, h6⟩ := deref_ok h4
  obtain ⟨z, h7, h8⟩ := lift_ok h6
  cases h8
  exact sliD_ok ((n3.k.trans n2.k).trans hk) n3.en.tr (deref1_ok n3.en ((hr.to (n2.to en)).to (n3.to n2.en)) h5) h7 fun v H4 ex dr => q3 R3 v H4 (Nx.ex n3.en ex) dr
/-! ### isinstance(x, T) -/
def isiM (t : Ty) (f : Mo Hd) : Mo Hd := Mo.bind f fun a => Mo.bind (deref a) fun x => Mo.bind (Mo.lift (isiD t x)) fun b => Mo.pure (.val (.bl b))
theorem isiM_ok {t : Ty} {f : Mo Hd} {Q : VK} (h : tA K W (isiM t f) σ H Q) : tCB (rIsi K) (tCons (tA K W f) (tCons (tC (.ty t.nm)) tNil)) σ H Q := by
  refine bindA (α := Unit) h fun R1 ρ1 x H1 a rr hk en hr h2 q => ?_
  obtain ⟨d, h5, h6⟩ := deref_ok h2
  obtain ⟨z, h7, h8⟩ := lift_ok h6
  cases h8
  obtain ⟨ty, h9, h10⟩ := isi_ok hk (deref1_ok en hr h5) h7
  exact ⟨x, .ty t.nm, ty, .type t.nm, z, rfl, .ty _, h9, h10, q R1 _ H1 (Nx.refl en) (.bl _)⟩
/-! ### texts -/
def joinD : D → D → Option D
  | .str s, .lst ds => match strsD ds with
    | some ys => if (ys.map (·.length)).sum + ys.length * s.length ≤ 16777216 then some (.str (TL.joinL s ys)) else none
    | none => none
  | .str s, .tup ds => match strsD ds with
    | some ys => if (ys.map (·.length)).sum + ys.length * s.length ≤ 16777216 then some (.str (TL.joinL s ys)) else none
    | none => none
  | _, _ => none
def isS : D → Bool
  | .str _ => true
  | _ => false
/-- x.name(y), x a text -/
def met1 (op : D → D → Option D) (f g : Mo Hd) : Mo Hd := Mo.bind f fun a => Mo.bind (deref a) fun x => match isS x with
  | true => Mo.bind g fun b => Mo.bind (deref b) fun y => Mo.bind (Mo.lift (op x y)) fun d => Mo.pure (.val d)
  | false => Mo.lift none
def met0 (op : D → Option D) (f : Mo Hd) : Mo Hd := Mo.bind f fun a => Mo.bind (deref a) fun x => match isS x with
  | true => Mo.bind (Mo.lift (op x)) fun d => Mo.pure (.val d)
  | false => Mo.lift none
theorem met1_ok {r : V → List V → Hp → VK → Prop} {op : D → D → Option D} (ho : OpS K (fun x y H Q => r x [y] H Q) op) {f g : Mo Hd} {Q : VK} (h : tA K W (met1 op f g) σ H Q) : tM1 r (tA K W f) (tA K W g) σ H Q := by
  refine bindA (α := Unit) h fun R1 ρ1 x H1 a rr hk en hr h2 q => ?_
  obtain ⟨d, h5, h6⟩ := deref_ok h2
  cases d with
  | str s =>
    have hx := (deref1_ok en hr h5).str
    refine ⟨⟨_, hx⟩, bindX hk en h6 q fun R2 ρ2 y H2 b n2 hr2 h7 q2 => ?_⟩
    obtain ⟨e, h8, h9⟩ := deref_ok h7
    obtain ⟨z, h10, h11⟩ := lift_ok h9
    cases h11
    refine ho R2 H2 x y (.str s) e z _ (n2.k.trans hk) n2.en.tr ?_ (deref1_ok n2.en hr2 h8) h10 fun v H3 ex dr => q2 R2 v H3 (Nx.ex n2.en ex) dr
    rw [hx]
    exact .inl (.str s)
  | _ => cases h6
theorem met0_ok {r : V → List V → Hp → VK → Prop} {op : D → Option D} (ho : ∀ (R : RC) (H : Hp) (s : List Nat) (d : D) (Q : VK), R.K = K → (∀ z, R.M z → ∃ o, H z = some o) → op (.str s) = some d → (∀ z H', Evl.Ex H H' → DR R H' d z → Q z H') → r (.str ⟨s.toArray⟩) [] H Q)
    {f : Mo Hd} {Q : VK} (h : tA K W (met0 op f) σ H Q) : tM0 r (tA K W f) σ H Q := by
  refine bindA (α := Unit) h fun R1 ρ1 x H1 a rr hk en hr h2 q => ?_
  obtain ⟨d, h5, h6⟩ := deref_ok h2
  cases d with
  | str s =>
    have hx := (deref1_ok en hr h5).str
    subst hx
    obtain ⟨z, h10, h11⟩ := lift_ok h6
    cases h11
    exact ⟨⟨_, rfl⟩, ho R1 H1 s z _ hk en.tr h10 fun v H3 ex dr => q R1 v H3 (Nx.ex en ex) dr⟩
  | _ => cases h6
abbrev rJoin (K : PySem.W.Frag) : V → List V → Hp → VK → Prop := fun x xs H Q => ∃ a p, ∃ ys : List Str, x = .str a ∧ xs = [.ref p] ∧ (SqL K H p (ys.map V.str) ∨ SqT K H p (ys.map V.str)) ∧
    (ys.map (·.length)).sum + ys.length * a.length ≤ 16777216 ∧ Q (.str (Txt.join a ys)) H
theorem joinD_ok : OpS K (fun x y H Q => rJoin K x [y] H Q) joinD := by
  intro R H x y a b d Q hk tr ra rb e q
  have fin : ∀ (s : List Nat) (ys : List (List Nat)) (p : Addr), (ys.map (·.length)).sum + ys.length * s.length ≤ 16777216 → (SqL K H p ((ys.map fun s => (⟨s.toArray⟩ : Str)).map V.str) ∨ SqT K H p ((ys.map fun s => (⟨s.toArray⟩ : Str)).map V.str)) → d = .str (TL.joinL s ys) → x = .str ⟨s.toArray⟩ → y = .ref p → rJoin K x [y] H Q := by
    rintro s ys p hz hp rfl rfl rfl
    refine ⟨_, p, ys.map fun s => (⟨s.toArray⟩ : Str), rfl, rfl, hp, ?_, ?_⟩
    · rw [List.length_map, len_str, List.map_map]
      have : ((fun x : Str => x.length) ∘ fun s : List Nat => (⟨s.toArray⟩ : Str)) = fun s : List Nat => s.length := by
        funext s
        exact len_str s
      rw [this]
      exact hz
    · have e1 := SX.join_S s ys
      have e2 : Txt.join (⟨s.toArray⟩ : Str) (ys.map fun s => (⟨s.toArray⟩ : Str)) = ⟨(TL.joinL s ys).toArray⟩ := e1
      rw [e2]
      exact q _ H (Evl.Ex.refl H) (.str _)
  unfold joinD at e
  split at e
  · split at e
    · rename_i ys hy
      split at e
      · rename_i hz
        cases e
        obtain ⟨p, xs, rfl, h1, r1⟩ := rb.lst
        have := strsD_ok r1 hy
        subst this
        exact fin _ ys p hz (.inl (.inl (.inl h1))) rfl ra.str rfl
      · cases e
    · cases e
  · split at e
    · rename_i ys hy
      split at e
      · rename_i hz
        cases e
        obtain ⟨p, xs, rfl, h1, r1⟩ := rb.tup
        have := strsD_ok r1 hy
        subst this
        exact fin _ ys p hz (.inr (by rw [← hk]; exact h1.sq)) rfl ra.str rfl
      · cases e
    · cases e
  · cases e
def upL (s : List Nat) : List Nat := (Txt.upper ⟨s.toArray⟩).cps.toList
def upD : D → Option D
  | .str s => if s.length ≤ 5592405 then some (.str (upL s)) else none
  | _ => none
abbrev rUpper : V → List V → Hp → VK → Prop := fun x xs H Q => ∃ a, x = .str a ∧ xs = [] ∧ a.length ≤ 5592405 ∧ Q (.str (Txt.upper a)) H
theorem upD_ok : ∀ (R : RC) (H : Hp) (s : List Nat) (d : D) (Q : VK), R.K = K → (∀ z, R.M z → ∃ o, H z = some o) → upD (.str s) = some d → (∀ z H', Evl.Ex H H' → DR R H' d z → Q z H') → rUpper (.str ⟨s.toArray⟩) [] H Q := by
  intro R H s d Q _ _ e q
  have e : (if s.length ≤ 5592405 then some (D.str (upL s)) else none) = some d := e
  split at e
  · rename_i hz
    cases e
    refine ⟨_, rfl, rfl, by rw [len_str]; exact hz, q _ H (Evl.Ex.refl H) ?_⟩
    have : (Txt.upper ⟨s.toArray⟩ : Str) = ⟨(upL s).toArray⟩ := by simp [upL]
    rw [this]
    exact .str _
  · cases e
end
end Mi
set_option Elab.async false
set_option linter.all false
set_option maxRecDepth 100000
set_option maxHeartbeats 2000000
/-! M12: containers made anew, several at once; lists written -/
namespace Mi
open PySem L2

/-! ### made anew -/
section
variable {R : RC} {H : Hp} {ρ : En} {σ : St}
theorem new_ny (e : EnR R H ρ σ) {p : Addr} (hp : H p = none) {ds : List D} {xs : List V} (r : DRs R H ds xs) :
    Ny R ρ σ H (R.wth p) ρ (upd H p (.lst xs)) ∧ FrR (R.wth p) (upd H p (.lst xs)) ρ σ H (.new (.lst ds)) (.ref p) := by
  have ex : Evl.Ex H (upd H p (.lst xs)) := Evl.Ex.new hp
  have t : To R H (R.wth p) (upd H p (.lst xs)) := ⟨rfl, fun a h => h.elim .inl fun z => .inr (by rw [z]; exact hp), Keep.of_ex ex⟩
  have ne : ∀ {a : Addr}, R.M a → a ≠ p := fun {a} h z => e.fresh (by rw [z]; exact hp) h
  refine ⟨⟨⟨e.len, fun i s h => ?_, e.ap, fun a h => ?_, e.tb.ext ex, fun a ps h z => by
    rcases h with h | rfl
    · obtain ⟨o, q⟩ := e.tr a h
      rw [ex _ _ q] at z
      exact e.nt a ps h (q.trans z)
    · rw [upd_same] at z
      cases z⟩, rfl, t.m, fun a h => .inl (.inl h), Keep.of_ex ex, fun i l o h => ⟨o, h⟩, fun a o h => ⟨o, ex a o h⟩⟩, p, rfl, ⟨.inr rfl, xs, upd_same, r.to t⟩, fun z => e.fresh hp (e.own_m z), hp⟩
  · obtain ⟨y, h1, h2⟩ := e.sl i s h
    refine ⟨y, h1, ?_⟩
    cases s with
    | no => trivial
    | v d =>
      obtain ⟨x, h3, h4⟩ := h2
      exact ⟨x, h3, h4.to t⟩
    | own l o =>
      obtain ⟨a, h3, h4⟩ := h2
      exact ⟨a, h3, h4.to t (.inl h4.m) (upd_ne (ne h4.m))⟩
  · rcases h with h | rfl
    · obtain ⟨o, q⟩ := e.tr a h
      exact ⟨o, ex a o q⟩
    · exact ⟨_, upd_same⟩
end
/-- a result's own list is new -/
def NwR (R : RC) (H : Hp) (d : D) (z : V) (H' : Hp) : Prop := Evl.Ex H H' ∧ DR R H' d z ∧ ∀ ds, d = .lst ds → ∃ p xs, z = .ref p ∧ H p = none ∧ H' = upd H p (.lst xs) ∧ DRs R H ds xs
def freshL : D → Fr
  | .lst ds => .new (.lst ds)
  | d => .dat d
theorem nw_ny {R : RC} {H H' : Hp} {ρ : En} {σ : St} (e : EnR R H ρ σ) {d : D} {z : V} (n : NwR R H d z H') : ∃ R', Ny R ρ σ H R' ρ H' ∧ FrR R' H' ρ σ H (freshL d) z := by
  obtain ⟨ex, dr, h⟩ := n
  have gen : ∀ d', freshL d = .dat d' → d' = d → ∃ R', Ny R ρ σ H R' ρ H' ∧ FrR R' H' ρ σ H (freshL d) z := fun d' h1 h2 => by
    subst h2
    rw [h1]
    exact ⟨R, (Nx.ex e ex).ny, dr⟩
  cases d with
  | lst ds =>
    obtain ⟨p, xs, rfl, hp, rfl, r⟩ := h ds rfl
    obtain ⟨h1, h2⟩ := new_ny e hp r
    exact ⟨_, h1, h2⟩
  | _ => exact gen _ rfl rfl
def OpN (K : PySem.W.Frag) (r : R2) (op : D → D → Option D) : Prop := ∀ (R : RC) (H : Hp) (x y : V) (a b d : D) (Q : VK), R.K = K → (∀ z, R.M z → ∃ o, H z = some o) → AR R H a x → AR R H b y → op a b = some d →
  (∀ z H', NwR R H d z H' → Q z H') → r x y H Q
def CallN (K : PySem.W.Frag) (r : List V → Hp → VK → Prop) (fn : List D → Option D) : Prop := ∀ (R : RC) (H : Hp) (xs : List V) (ds : List D) (d : D) (Q : VK), R.K = K → (∀ z, R.M z → ∃ o, H z = some o) → ARs R H ds xs → fn ds = some d →
  (∀ z H', NwR R H d z H' → Q z H') → r xs H Q
theorem OpN.of {K : PySem.W.Frag} {r : R2} {op : D → D → Option D} (h : OpS K r op) (nl : ∀ a b ds, op a b ≠ some (.lst ds)) : OpN K r op := fun R H x y a b d Q hk tr ra rb e q =>
  h R H x y a b d Q hk tr ra rb e fun z H' ex dr => q z H' ⟨ex, dr, fun ds hd => absurd (hd ▸ e) (nl a b ds)⟩
theorem OpN.or {K : PySem.W.Frag} {r r' : R2} {f g : D → D → Option D} (h : OpN K r f) (h' : OpN K r' g) : OpN K (fun x y H Q => r x y H Q ∨ r' x y H Q) (fun a b => (f a b).or (g a b)) := by
  intro R H x y a b d Q hk tr ra rb e q
  cases hf : f a b with
  | some d' =>
    simp [hf] at e
    subst e
    exact .inl (h R H x y a b _ Q hk tr ra rb hf q)
  | none =>
    simp [hf] at e
    exact .inr (h' R H x y a b _ Q hk tr ra rb e q)
theorem intOp_nl {c : Int → Int → Bool} {f : Int → Int → D} (hf : ∀ i j ds, f i j ≠ .lst ds) : ∀ a b ds, intOp c f a b ≠ some (.lst ds) := by
  intro a b ds h
  unfold intOp at h
  split at h
  · split at h
    · exact hf _ _ _ (Option.some.inj h)
    · cases h
  · cases h
theorem catStr_nl : ∀ a b ds, catStr a b ≠ some (.lst ds) := by
  intro a b ds h
  unfold catStr at h
  split at h
  · split at h <;> cases h
  · cases h
theorem catTup_nl : ∀ a b ds, catTup a b ≠ some (.lst ds) := by
  intro a b ds h
  unfold catTup at h
  split at h
  · split at h <;> cases h
  · cases h
theorem catLstN_ok {K : PySem.W.Frag} : OpN K rCat catLst := by
  intro R H x y a b d Q hk tr ra rb e q
  unfold catLst at e
  split at e
  · split at e
    · rename_i hz
      cases e
      obtain ⟨p, xs, rfl, h1, r1⟩ := ra.lst
      obtain ⟨p', ys, rfl, h2, r2⟩ := rb.lst
      refine ⟨p, p', xs, ys, rfl, rfl, h1, h2, by rw [← r1.len, ← r2.len]; exact hz, fun l hl => ?_⟩
      obtain ⟨ex, dr⟩ := new_lst tr hl (r1.append r2)
      exact q _ _ ⟨ex, dr, fun ds hd => by
        cases hd
        exact ⟨l, xs ++ ys, rfl, hl, rfl, r1.append r2⟩⟩
    · cases e
  · cases e
theorem addN_ok {K : PySem.W.Frag} : OpN K (rAddD K) addD :=
  OpN.or (OpN.of (intOp0_ok fun _ _ _ _ => .int _) (intOp_nl fun _ _ _ h => by cases h)) (OpN.or (OpN.of catStr_ok catStr_nl) (OpN.or catLstN_ok (OpN.of catTup_ok catTup_nl)))
section
variable {K : PySem.W.Frag} {W : WX} {σ : St} {H : Hp}
/-- f, then k, to a result -/
theorem bindN {f : Mo Hd} {k : Hd → Mo Fr} {Q : VK} {Q2 : VK} {R : RC} {ρ : En} {r : R3 Fr} (hk : R.K = K) (e : EnR R H ρ σ) (hf : Mo.bind f k ρ = some r) (q : AfterN W R ρ σ H Q r)
    (step : ∀ R1 ρ1 x H1 a, Nx R ρ σ H R1 ρ1 H1 → HdR R1 H1 σ a x → k a ρ1 = some r → AfterN W R1 ρ1 σ H1 Q r → Q2 x H1) : tA K W f σ H Q2 := by
  rcases bind_ok hf with ⟨a, ρ1, h1, h2⟩ | ⟨x, ρ1, h1, rfl⟩
  · refine ⟨R, ρ, _, hk, e, h1, fun R1 x H1 n1 r1 => step R1 ρ1 x H1 a n1 r1 h2 ?_⟩
    cases r with
    | ok fr ρ' =>
      intro R' x H' n rr
      refine q R' x H' (n1.ny.trans n) ?_
      cases fr with
      | dat d => exact rr
      | new o =>
        obtain ⟨p, h3, h4, h5, h6⟩ := rr
        exact ⟨p, h3, h4, h5, none_of n1.al h6⟩
    | ex x ρ' => exact fun R' H' cls d n er => q R' H' cls d (n1.trans n) er
  · exact ⟨R, ρ, _, hk, e, h1, q⟩
def opN (op : D → D → Option D) (f g : Mo Hd) : Mo Fr := Mo.bind f fun a => Mo.bind g fun b => Mo.bind (deref a) fun x => Mo.bind (deref b) fun y => Mo.bind (Mo.lift (op x y)) fun d => Mo.pure (freshL d)
theorem opN_ok {r : R2} {op : D → D → Option D} (ho : OpN K r op) {f g : Mo Hd} {Q : VK} (h : tN K W (opN op f g) σ H Q) : tOp r (tA K W f) (tA K W g) σ H Q := by
  obtain ⟨R, ρ, rr, hk, e, hf, q⟩ := h
  refine bindN hk e hf q fun R1 ρ1 x H1 a n1 hr h2 q1 => ?_
  refine bindN (n1.k.trans hk) n1.en h2 q1 fun R2 ρ2 y H2 b n2 hr2 h3 q2 => ?_
  obtain ⟨da, h4, h5⟩ := deref_ok h3
  obtain ⟨db, h6, h7⟩ := deref_ok h5
  obtain ⟨z, h8, h9⟩ := lift_ok h7
  cases h9
  refine ho R2 H2 x y da db z Q ((n2.k.trans n1.k).trans hk) n2.en.tr (deref1_ok n2.en (hr.to (n2.to n1.en)) h4) (deref1_ok n2.en hr2 h6) h8 fun v H3 nw => ?_
  obtain ⟨R3, n3, r3⟩ := nw_ny n2.en nw
  exact q2 R3 v H3 n3 r3
/-- a list display -/
def lstN (g : Mo (List Hd)) : Mo Fr := Mo.bind g fun hs => Mo.bind (freezes hs) fun ds => Mo.bind (Mo.lift (if ds.length ≤ sizeLine then some ds else none)) fun ds => Mo.pure (.new (.lst ds))
theorem lstN_ok {g : Mo (List Hd)} {Q : VK} (h : tN K W (lstN g) σ H Q) : tLst (tAs K W g) σ H Q := by
  obtain ⟨R, ρ, rr, hk, e, hf, q⟩ := h
  rcases bind_ok hf with ⟨hs, ρ1, h1, h2⟩ | ⟨x, ρ1, h1, rfl⟩
  · refine ⟨R, ρ, _, hk, e, h1, fun R1 xs H1 n1 r1 => ?_⟩
    rcases bind_ok h2 with ⟨ds, ρ2, h3, h4⟩ | ⟨x, ρ2, h3, _⟩
    · obtain ⟨ds', ρ2', z, R2, n2, r2⟩ := freezes_ok n1.en r1 h3
      cases z
      obtain ⟨ds1, h5, h6⟩ := lift_ok h4
      cases h6
      split at h5
      · rename_i hz
        cases h5
        refine ⟨by rw [← r2.len]; exact hz, fun p hp => ?_⟩
        obtain ⟨n3, r3⟩ := new_ny n2.en hp r2
        have nn := n1.trans n2
        refine q _ _ _ (nn.ny.trans n3) ?_
        obtain ⟨p', h7, h8, h9, h10⟩ := r3
        exact ⟨p', h7, h8, h9, none_of nn.al h10⟩
      · cases h5
    · obtain ⟨ds', ρ2', z, _⟩ := freezes_ok n1.en r1 h3
      cases z
  · exact ⟨R, ρ, _, hk, e, h1, q⟩
/-- a built-in that makes a list -/
def callN (fn : List D → Option D) (g : Mo (List Hd)) : Mo Fr := Mo.bind g fun hs => Mo.bind (derefs hs) fun ds => Mo.bind (Mo.lift (fn ds)) fun d => Mo.pure (freshL d)
theorem callN_ok {r : List V → Hp → VK → Prop} {fn : List D → Option D} (ho : CallN K r fn) {g : Mo (List Hd)} {Q : VK} (h : tN K W (callN fn g) σ H Q) : tCB r (tAs K W g) σ H Q := by
  obtain ⟨R, ρ, rr, hk, e, hf, q⟩ := h
  rcases bind_ok hf with ⟨hs, ρ1, h1, h2⟩ | ⟨x, ρ1, h1, rfl⟩
  · refine ⟨R, ρ, _, hk, e, h1, fun R1 xs H1 n1 r1 => ?_⟩
    unfold Mo.bind derefs at h2
    cases k1 : derefs1 ρ1 hs with
    | none => simp [k1] at h2
    | some ds =>
      cases k2 : fn ds with
      | none => simp [k1, k2, Mo.lift] at h2
      | some d =>
        simp [k1, k2, Mo.lift, Mo.pure] at h2
        subst h2
        refine ho R1 H1 xs ds d Q (n1.k.trans hk) n1.en.tr (derefs1_ok n1.en r1 k1) k2 fun z H3 nw => ?_
        obtain ⟨R3, n3, r3⟩ := nw_ny n1.en nw
        refine q R3 z H3 (n1.ny.trans n3) ?_
        revert r3
        cases freshL d with
        | dat d => exact fun r3 => r3
        | new o => exact fun ⟨p', h7, h8, h9, h10⟩ => ⟨p', h7, h8, h9, none_of n1.al h10⟩
  · exact ⟨R, ρ, _, hk, e, h1, q⟩
theorem listN_ok : CallN K (fun xs H Q => ∃ p ys, xs = [V.ref p] ∧ (SqL K H p ys ∨ SqT K H p ys) ∧ ∀ l, H l = none → Q (.ref l) (upd H l (.lst ys))) listB := by
  intro R H xs ds d Q hk tr ra e q
  unfold listB at e
  split at e
  · cases e
    obtain ⟨x, rfl, a⟩ := ra.one
    obtain ⟨p, ys, rfl, h1, r1⟩ := a.lst
    refine ⟨p, ys, rfl, .inl (.inl (.inl h1)), fun l hl => ?_⟩
    obtain ⟨ex, dr⟩ := new_lst tr hl r1
    exact q _ _ ⟨ex, dr, fun ds hd => by cases hd; exact ⟨l, ys, rfl, hl, rfl, r1⟩⟩
  · cases e
    obtain ⟨x, rfl, a⟩ := ra.one
    obtain ⟨p, ys, rfl, h1, r1⟩ := a.tup
    refine ⟨p, ys, rfl, .inr (by rw [← hk]; exact h1.sq), fun l hl => ?_⟩
    obtain ⟨ex, dr⟩ := new_lst tr hl r1
    exact q _ _ ⟨ex, dr, fun ds hd => by cases hd; exact ⟨l, ys, rfl, hl, rfl, r1⟩⟩
  · cases e
    obtain ⟨x, rfl, a⟩ := ra.one
    obtain ⟨p, ys, rfl, h1, r1⟩ := a.frz
    refine ⟨p, ys, rfl, .inl (by rw [← hk]; exact h1.sq), fun l hl => ?_⟩
    obtain ⟨ex, dr⟩ := new_lst tr hl r1
    exact q _ _ ⟨ex, dr, fun ds hd => by cases hd; exact ⟨l, ys, rfl, hl, rfl, r1⟩⟩
  · cases e

/-! ### several results -/
inductive FrRs (R : RC) (H : Hp) (ρ : En) (σ : St) (H0 : Hp) : List Fr → List V → Prop
  | nil : FrRs R H ρ σ H0 [] []
  | cons {fr : Fr} {x : V} {frs : List Fr} {xs : List V} : FrR R H ρ σ H0 fr x → FrRs R H ρ σ H0 frs xs → (∀ (o o2 : Ow) (k : Nat), fr = .new o → frs[k]? = some (.new o2) → xs[k]? ≠ some x) → FrRs R H ρ σ H0 (fr :: frs) (x :: xs)
def tNs (K : PySem.W.Frag) (W : WX) (f : Mo (List Fr)) : TA := fun σ H Q => ∃ R ρ r, R.K = K ∧ EnR R H ρ σ ∧ f ρ = some r ∧ match r with
  | .ok frs ρ' => ∀ R' xs H', Ny R ρ σ H R' ρ' H' → FrRs R' H' ρ' σ H frs xs → Q xs H'
  | .ex x ρ' => ∀ R' H' cls d, Nx R ρ σ H R' ρ' H' → ExR R' H' x cls d → W cls d σ H'
theorem FrRs.base {R : RC} {H : Hp} {ρ : En} {σ : St} {H0 H1 : Hp} (al : ∀ a o, H0 a = some o → ∃ u, H1 a = some u) : ∀ {frs : List Fr} {xs : List V}, FrRs R H ρ σ H1 frs xs → FrRs R H ρ σ H0 frs xs
  | _, _, .nil => .nil
  | _, _, .cons (fr := fr) a b c => .cons (by
      cases fr with
      | dat d => exact a
      | new o =>
        obtain ⟨p, h3, h4, h5, h6⟩ := a
        exact ⟨p, h3, h4, h5, none_of al h6⟩) (FrRs.base al b) c
theorem FrRs.new {R : RC} {H : Hp} {ρ : En} {σ : St} {H0 : Hp} : ∀ {frs : List Fr} {xs : List V} {k : Nat} {o : Ow}, FrRs R H ρ σ H0 frs xs → frs[k]? = some (.new o) → ∃ p, xs[k]? = some (.ref p) ∧ H0 p = none
  | _, _, k, _, .nil, h => by simp at h
  | _, _, 0, o, .cons a b c, h => by
    simp at h
    subst h
    obtain ⟨p, rfl, _, _, h6⟩ := a
    exact ⟨p, rfl, h6⟩
  | _, _, k + 1, o, .cons a b c, h => by
    obtain ⟨p, h1, h2⟩ := FrRs.new (k := k) b (by simpa using h)
    exact ⟨p, by simpa using h1, h2⟩
theorem tNs_nil {Q : List V → Hp → Prop} (h : tNs K W (Mo.pure []) σ H Q) : tNil σ H Q := by
  obtain ⟨R, ρ, r, hk, e, hf, q⟩ := h
  cases hf
  exact q R [] H (Nx.refl e).ny .nil
theorem tNs_cons {f : Mo Fr} {g : Mo (List Fr)} {Q : List V → Hp → Prop} (h : tNs K W (Mo.bind f fun a => Mo.bind g fun as => Mo.pure (a :: as)) σ H Q) : tCons (tN K W f) (tNs K W g) σ H Q := by
  obtain ⟨R, ρ, r, hk, e, hf, q⟩ := h
  rcases bind_ok hf with ⟨a, ρ1, h1, h2⟩ | ⟨x, ρ1, h1, rfl⟩
  · refine ⟨R, ρ, _, hk, e, h1, fun R1 x H1 n1 r1 => ?_⟩
    rcases bind_ok h2 with ⟨as, ρ2, h3, h4⟩ | ⟨x, ρ2, h3, rfl⟩
    · cases h4
      refine ⟨R1, ρ1, _, n1.k.trans hk, n1.en, h3, fun R2 xs H2 n2 r2 => q R2 (x :: xs) H2 (n1.trans n2) ?_⟩
      refine .cons ?_ (r2.base n1.al) fun o o2 k ho hk2 hx => ?_
      · cases a with
        | dat d => exact DR.to (n2.to n1.en) r1
        | new o =>
          obtain ⟨p, rfl, h6, h7, h8⟩ := r1
          obtain ⟨ob, h9⟩ := n1.en.tr p h6.m
          exact ⟨p, rfl, h6.to (n2.to n1.en) ((n2.cov p h6.m).resolve_right h7) (by rw [n2.h p ob h9 h7 (h6.nt h9), h9]), fun z => h7 (n2.owns z), h8⟩
      · subst ho
        obtain ⟨p, rfl, h6, h7, h8⟩ := r1
        obtain ⟨p2, h9, h10⟩ := r2.new hk2
        rw [hx] at h9
        cases h9
        obtain ⟨ob, h11⟩ := n1.en.tr p h6.m
        rw [h10] at h11
        cases h11
    · refine ⟨R1, ρ1, _, n1.k.trans hk, n1.en, h3, fun R2 H2 cls d n2 er => ?_⟩
      have n3 := n1.trans n2.ny
      -- what was made on the way is let go
      have t : To R2 H2 ⟨R2.K, fun a => R2.M a ∧ R.M a⟩ H2 := ⟨rfl, fun a h => .inl h.1, Keep.refl⟩
      obtain ⟨R3, n4, r4⟩ := fr_drop (fr := .dat .non) e n3 (x := .non) .non
      exact q _ H2 cls d (show Nx R ρ σ H ⟨R2.K, fun a => R2.M a ∧ R.M a⟩ ρ2 H2 from ⟨⟨n3.en.len, fun i s h => by
        obtain ⟨y, k1, k2⟩ := n3.en.sl i s h
        refine ⟨y, k1, ?_⟩
        cases s with
        | no => trivial
        | v d =>
          obtain ⟨z, k3, k4⟩ := k2
          exact ⟨z, k3, k4.to t⟩
        | own l o =>
          obtain ⟨a, k3, k4⟩ := k2
          subst k3
          exact ⟨a, rfl, k4.to t ⟨k4.m, e.own_m (n3.owns ⟨i, l, o, h, k1⟩)⟩ rfl⟩, n3.en.ap, fun a h => n3.en.tr a h.1, n3.en.tb, fun a ps h => n3.en.nt a ps h.1⟩, n3.k, fun a h => h.2, fun a h => (n3.cov a h).imp_left fun q => ⟨q, h⟩, n3.h, n3.own, n3.al⟩) (er.to t)
  · exact ⟨R, ρ, _, hk, e, h1, q⟩
/-! ### into slots -/
def setAll : En → List Nat → List Fr → En
  | ρ, i :: is, fr :: frs => setAll (ρ.set i (slotOf fr)) is frs
  | ρ, _, _ => ρ
def setAllV : St → List Nat → List V → St
  | σ, i :: is, x :: xs => setAllV (σ.set i (some x)) is xs
  | σ, _, _ => σ
theorem FrRs.set {R : RC} {H : Hp} {ρ : En} {σ : St} {H0 : Hp} {fr : Fr} {x : V} (i : Nat) (hl : ρ.length = σ.length) (hfr : FrR R H ρ σ H0 fr x) : ∀ {frs : List Fr} {xs : List V}, FrRs R H ρ σ H0 frs xs → (∀ (o o2 : Ow) (k : Nat), fr = .new o → frs[k]? = some (.new o2) → xs[k]? ≠ some x) → FrRs R H (ρ.set i (slotOf fr)) (σ.set i (some x)) H0 frs xs
  | _, _, .nil, _ => .nil
  | _, _, .cons (fr := f2) (x := y) (frs := frs) (xs := xs) a b c, d => .cons (by
      cases f2 with
      | dat d => exact a
      | new o2 =>
        obtain ⟨p, rfl, h4, h5, h6⟩ := a
        refine ⟨p, rfl, h4, ?_, h6⟩
        rintro ⟨j, l, u, h7, h8⟩
        rcases set_get h7 with ⟨rfl, e, hj⟩ | ⟨hne, h7⟩
        · rw [List.getElem?_set_self (by rw [← hl]; exact hj)] at h8
          cases h8
          cases fr with
          | dat d => cases e
          | new o => exact d o o2 0 rfl rfl rfl
        · rw [List.getElem?_set_ne hne] at h8
          exact h5 ⟨j, l, u, h7, h8⟩) (FrRs.set i hl hfr b fun o o2 k h1 h2 => by
        have := d o o2 (k + 1) h1 (by simpa using h2)
        simpa using this) c
theorem setAll_ns {R R' : RC} {ρ : En} {σ : St} {H H' : Hp} : ∀ {is : List Nat} {frs : List Fr} {xs : List V} {ρ' : En} {σ' : St}, Ns R ρ σ H R' ρ' σ' H' → FrRs R' H' ρ' σ' H frs xs → Ns R ρ σ H R' (setAll ρ' is frs) (setAllV σ' is xs) H'
  | [], _, _, _, _, n, .nil => n
  | [], _, _, _, _, n, .cons _ _ _ => n
  | _ :: _, _, _, _, _, n, .nil => n
  | i :: is, _, _, _, _, n, .cons a b c => by
    have := setAll_ns (is := is) (set_ns2 n a i) (b.set i n.en.len a c)
    exact this
theorem setAllV_snoc : ∀ {is : List Nat} {xs : List V} {σ : St} {i : Nat} {x : V}, is.length = xs.length → setAllV σ (is ++ [i]) (xs ++ [x]) = (setAllV σ is xs).set i (some x)
  | [], [], _, _, _, _ => rfl
  | [], _ :: _, _, _, _, h => by simp at h
  | _ :: _, [], _, _, _, h => by simp at h
  | j :: is, y :: xs, σ, i, x, h => setAllV_snoc (is := is) (xs := xs) (σ := σ.set j (some y)) (by simpa using h)
theorem setAllV_out : ∀ {is : List Nat} {xs : List V} {σ : St} {i : Nat} {x : V}, i ∉ is → setAllV (σ.set i (some x)) is xs = (setAllV σ is xs).set i (some x)
  | [], xs, _, _, _, _ => by unfold setAllV; rfl
  | j :: is, [], _, _, _, _ => rfl
  | j :: is, y :: xs, σ, i, x, h => by
    simp only [List.mem_cons, not_or] at h
    show setAllV ((σ.set i (some x)).set j (some y)) is xs = (setAllV (σ.set j (some y)) is xs).set i (some x)
    rw [List.set_comm _ _ h.1, setAllV_out h.2]
theorem setAllV_rev : ∀ {is : List Nat} {xs : List V} {σ : St}, is.Nodup → is.length = xs.length → setAllV σ is.reverse xs.reverse = setAllV σ is xs
  | [], [], _, _, _ => rfl
  | [], _ :: _, _, _, h => by simp at h
  | _ :: _, [], _, _, h => by simp at h
  | i :: is, x :: xs, σ, hn, h => by
    rw [List.nodup_cons] at hn
    rw [List.reverse_cons, List.reverse_cons, setAllV_snoc (by simpa using h), setAllV_rev hn.2 (by simpa using h)]
    exact (setAllV_out hn.1).symm
def parM (f : Mo (List Fr)) (is : List Nat) : Ms := Mo.bind f fun frs ρ => match frs.length == is.length with
  | true => some (.ok .nx (setAll ρ is frs))
  | false => none
theorem FrRs.len {R : RC} {H : Hp} {ρ : En} {σ : St} {H0 : Hp} : ∀ {frs : List Fr} {xs : List V}, FrRs R H ρ σ H0 frs xs → frs.length = xs.length
  | _, _, .nil => rfl
  | _, _, .cons _ b _ => by simp [FrRs.len b]
theorem parM_ok {f : Mo (List Fr)} {is : List Nat} {D : Ends} (h : tS K W (parM f is) D σ H) : tNs K W f σ H fun xs H1 => xs.length = is.length ∧ ∀ H2, Evl.Ex H1 H2 → D.nx (setAllV σ is xs) H2 := by
  obtain ⟨R, ρ, r, hk, e, hf, q⟩ := h
  rcases bind_ok hf with ⟨frs, ρ1, h1, h2⟩ | ⟨x, ρ1, h1, rfl⟩
  · refine ⟨R, ρ, _, hk, e, h1, fun R1 xs H1 n1 r1 => ?_⟩
    cases hl : frs.length == is.length with
    | false => simp [hl] at h2
    | true =>
      simp only [hl] at h2
      cases h2
      have hl := eq_of_beq hl
      refine ⟨by rw [← r1.len]; exact hl, fun H2 ex => q R1 _ H2 ?_⟩
      have n2 := setAll_ns (is := is) n1.ns r1
      exact Ns.trans e n2 (Nx.ex n2.en ex).ns
  · exact ⟨R, ρ, _, hk, e, h1, fun R' H' cls d n er => q R' σ H' cls d n.ns er⟩
end
def gNames : List Nat → TGs
  | [] => gNil
  | i :: is => gCons (gName i) (gNames is)
theorem gNames_ok {Q : St → Hp → Prop} {H : Hp} : ∀ {is : List Nat} {xs : List V} {σ : St}, xs.length = is.length → Q (setAllV σ is xs) H → gNames is xs σ H Q
  | [], [], _, _, h => ⟨rfl, h⟩
  | [], _ :: _, _, h, _ => by simp at h
  | _ :: _, [], _, h, _ => by simp at h
  | i :: is, x :: xs, σ, h, q => ⟨x, xs, rfl, gNames_ok (by simpa using h) q⟩
section
variable {X : Cx} {pos pt pt2 : Pos} {kt k2 : Nat} {ts es : List Expr} {is : List Nat} {W : WX} {f : Mo (List Fr)}
/-- a, b, .. = x, y, .. by way of a tuple -/
theorem ps_parT (hc : X.calm = true) (ha : PA X es (tNs X.K W f)) (hg : PGs X ts (gNames is)) (hn : (assignEach ts X.env).length = is.length) (hst : (assignEach ts X.env).findIdx? (·.1) = none)
    (hsm : is.length ≤ sizeLine) (hw : swappedStores [.Tuple ts kt pt] (.Tuple es k2 pt2) X.env = pure none) : PS X (.Assign [.Tuple ts kt pt] (.Tuple es k2 pt2) pos) (tS X.K W (parM f is)) := by
  refine PS.imp (ps_asg (pe_tup ha) (pg_tup hc hg hn hst) rfl hw rfl) ?_
  intro D σ H h
  obtain ⟨R, ρ, r, hk, e, hf, q⟩ := parM_ok h
  refine ⟨R, ρ, r, hk, e, hf, ?_⟩
  cases r with
  | ex x ρ' => exact q
  | ok frs ρ' =>
    intro R' xs H' n r'
    obtain ⟨h1, h2⟩ := q R' xs H' n r'
    have hz : xs.length ≤ sizeLine := by rw [h1]; exact hsm
    exact ⟨hz, fun p hp => ⟨p, xs, rfl, .inl (.inl upd_same), h1, gNames_ok h1 (h2 _ (Evl.Ex.new hp))⟩⟩
end
end Mi
set_option Elab.async false
set_option linter.all false
set_option maxRecDepth 100000
set_option maxHeartbeats 2000000
/-! M13: swapped stores; lists written; augmented stores -/
namespace Mi
open PySem PySem.Spec L2
open PyProof.Rows hiding St

section
variable {X : Cx} {pos pt pt2 : Pos} {kt k2 : Nat} {ts es : List Expr} {W : WX} {f : Mo (List Fr)}
/-- names stored one after another -/
theorem bind_all (hN : X.N.Nodup) {pins : List (Addr × Obj)} {H : Hp} : ∀ {is : List Nat} {names : List Str} {xs : List V} {us : List Value} {σ : St} {s : Shared} {Q : Unit → Shared → Prop}, Inv X pins σ H s → Vals xs us → names.length = is.length → xs.length = is.length →
    (∀ (k i : Nat) (x : Str), is[k]? = some i → names[k]? = some x → X.N[i]? = some x ∧ X.env.scope.names.lookup x = some .local) → (∀ s', Inv X pins (setAllV σ is xs) H s' → Q () s') → wpAny (model X.prog X.w) X.A (assignInOrder (names.map fun n v => bindName X.env n v) us) Q X.xe s
  | [], [], [], _, σ, s, Q, I, .nil, _, _, _, h => assignInOrder_nil (h s I)
  | [], [], _ :: _, _, _, _, _, _, _, _, h2, _, _ => by simp at h2
  | [], _ :: _, _, _, _, _, _, _, _, h1, _, _, _ => by simp at h1
  | _ :: _, [], _, _, _, _, _, _, _, h1, _, _, _ => by simp at h1
  | _ :: _, _ :: _, [], _, _, _, _, _, _, _, h2, _, _ => by simp at h2
  | i :: is, n :: names, x :: xs, _, σ, s, Q, I, .cons r rr, h1, h2, hn, h => by
    obtain ⟨g1, g2⟩ := hn 0 i n rfl rfl
    refine assignInOrder_cons (wpAny_bindName (store_ok I hN g1 (.inl g2) r (fun s2 I2 => ?_) (.inr g2)))
    exact bind_all hN I2 rr (by simpa using h1) (by simpa using h2) (fun k j y e1 e2 => hn (k + 1) j y (by simpa using e1) (by simpa using e2)) h
/-- a, b, .. = x, y, ..: the stores swapped -/
theorem ps_parS {is : List Nat} {names : List Str} (hc : X.calm = true) (hN : X.N.Nodup) (ha : PA X es (tNs X.K W f)) (hl : names.length = is.length) (hnd : is.Nodup)
    (hn : ∀ (k i : Nat) (x : Str), is[k]? = some i → names[k]? = some x → X.N[i]? = some x ∧ X.env.scope.names.lookup x = some .local) (hsm : is.length ≤ sizeLine)
    (hw : swappedStores [.Tuple ts kt pt] (.Tuple es k2 pt2) X.env = pure (some names)) : PS X (.Assign [.Tuple ts kt pt] (.Tuple es k2 pt2) pos) (tS X.K W (parM f is)) := by
  refine ⟨fun pins s σ H D I h => ?_⟩
  have h := parM_ok h
  rw [exec_Assign_arm]
  refine wpAny_bind (wpAny_standAt ?_)
  have hs : swapsWithSole [.Tuple ts kt pt] (.Tuple es k2 pt2) pos.line X.env = pure false := rfl
  rw [hs]
  refine wpAny_bind (wpAny_pure ?_)
  rw [if_neg (by decide)]
  refine wpAny_bind (Tuple_ (thn (ha.run _ pins s σ H _ I h) fun us s1 ⟨xs, H1, I1, r1, h1, q1⟩ => ?_))
  have hul : us.length = is.length := by rw [← r1.length]; exact h1
  refine wpAny_newObj_type ?_ (by show us.toArray.size ≤ sizeLine; rw [List.size_toArray, hul]; exact hsm)
  have I2 : Inv X pins σ H1 { s1 with heap := s1.heap.push { cls := .type "tuple", data := .seq us.toArray } } := I1.kept (t' := s1.toks) fun b o e => Heap.get?_push_of_some _ e
  rw [hw]
  refine wpAny_bind (wpAny_pure ?_)
  show wpAny (model X.prog X.w) X.A (do rule "assign.swapped-stores"; let items ← unpackItems (.ref s1.heap.objs.size) names.length none; assignInOrder (names.reverse.map fun n => bindName X.env n) items.reverse; pure Flow.next) _ _ _
  have hsz : names.length = us.toArray.size := by rw [List.size_toArray, hul, hl]
  rw [hsz]
  refine wpAny_bind (wpAny_rule (wpAny_bind (unpackItems_tuple (items := us.toArray) (I.ok.hd hc) (IsTup.new s1.heap _) fun h' hx' => ?_)))
  have I3 := I2.kept (h' := h') (t' := s1.toks) fun b o e => hx' b o (Nat.ne_of_lt (Heap.lt_size e)) e
  have rv : Vals xs.reverse us.toArray.toList.reverse := by
    rw [List.toList_toArray]
    clear hw h I2 I3 hx' I1 hul hsz q1
    have go : ∀ {xs : List V} {us : List Value}, Vals xs us → Vals xs.reverse us.reverse := fun {xs us} r => by
      induction r with
      | nil => exact .nil
      | cons r t ih =>
        rw [List.reverse_cons, List.reverse_cons]
        exact ih.append (.cons r .nil)
    exact go r1
  refine wpAny_bind (bind_all (names := names.reverse) hN I3 rv (is := is.reverse) (by simpa using hl) (by simpa using h1) (fun k i x e1 e2 => ?_) fun s' I' => wpAny_pure ?_)
  · have hk : k < is.length := by simpa using (List.getElem?_eq_some_iff.mp e1).1
    rw [List.getElem?_reverse (by simpa using hk)] at e1
    rw [List.getElem?_reverse (by rw [hl]; exact hk)] at e2
    rw [hl] at e2
    exact hn _ i x e1 e2
  · rw [setAllV_rev hnd h1.symm] at I'
    exact ⟨_, H1, I', q1 H1 (Evl.Ex.refl H1)⟩
end

/-! ### a list of one's own is written -/
section
variable {R : RC} {H : Hp} {ρ : En} {σ : St}
theorem own_upd (e : EnR R H ρ σ) {i : Nat} {l : Bool} {o : Ow} {a : Addr} (h : ρ[i]? = some (.own l o)) (hs : σ[i]? = some (some (.ref a))) {ds : List D} {xs : List V} (r : DRs R H ds xs) :
    Nx R ρ σ H R (ρ.set i (.own l (.lst ds))) (upd H a (.lst xs)) := by
  have ow : Owns ρ σ a := ⟨i, l, o, h, hs⟩
  have hm := e.own_m ow
  obtain ⟨yA, hA1, aA, hA2, hA3⟩ := e.sl i _ h
  have eA : aA = a := by
    rw [hA2, hs] at hA1
    cases hA1
    rfl
  rw [eA] at hA3
  have tbA := fun u => tabs_upd (u := u) e.tb (fun _ q => hA3.nt q) fun _ q => hA3.nx q
  have kp : ∀ (O : Addr → Prop), O a → Keep O H (upd H a (.lst xs)) := fun O ha b u hb hn _ => by
    rw [upd_ne fun z => hn (by rw [z]; exact ha)]
    exact hb
  have t : To R H R (upd H a (.lst xs)) := ⟨rfl, fun _ h => .inl h, kp _ hm⟩
  have own' : ∀ (j : Nat) (l1 : Bool) (o1 : Ow), (ρ.set i (.own l (.lst ds)))[j]? = some (.own l1 o1) → ∃ u, ρ[j]? = some (.own l1 u) := fun j l1 o1 h1 => by
    rcases set_get h1 with ⟨rfl, e, _⟩ | ⟨_, h1⟩
    · cases e
      exact ⟨o, h⟩
    · exact ⟨o1, h1⟩
  refine ⟨⟨by rw [List.length_set]; exact e.len, fun j s hj => ?_, fun j k l1 m1 o1 u1 hjk hj hk => ?_, fun b hb => ?_, tbA _, fun b ps hb z => by
    by_cases zb : b = a
    · subst zb
      rw [upd_same] at z
      cases z
    · rw [upd_ne zb] at z
      exact e.nt b ps hb z⟩, rfl, fun _ h => h, fun _ h => .inl h, kp _ ow, own', fun b u hb => ?_⟩
  · rcases set_get hj with ⟨rfl, rfl, _⟩ | ⟨hne, hj⟩
    · exact ⟨_, hs, a, rfl, hm, xs, upd_same, r.to t⟩
    · obtain ⟨y, h1, h2⟩ := e.sl j s hj
      refine ⟨y, h1, ?_⟩
      cases s with
      | no => trivial
      | v d =>
        obtain ⟨z, h3, h4⟩ := h2
        exact ⟨z, h3, h4.to t⟩
      | own l1 o1 =>
        obtain ⟨b, h3, h4⟩ := h2
        refine ⟨b, h3, h4.to t h4.m (upd_ne fun z => ?_)⟩
        subst z
        exact e.ap i j _ _ _ _ hne h hj (by rw [hs, h1, h3])
  · obtain ⟨u2, h1⟩ := own' j l1 o1 hj
    obtain ⟨u3, h2⟩ := own' k m1 u1 hk
    exact e.ap j k l1 m1 u2 u3 hjk h1 h2
  · by_cases z : b = a
    · subst z
      exact ⟨_, upd_same⟩
    · rw [upd_ne z]
      exact e.tr b hb
  · by_cases z : b = a
    · subst z
      exact ⟨_, upd_same⟩
    · exact ⟨u, by rw [upd_ne z]; exact hb⟩
end
section
variable {K : PySem.W.Frag} {W : WX} {σ : St} {H : Hp}
/-- x.append(e), x a slot -/
def apM (i : Nat) (f : Mo Hd) : Mo Hd := fun ρ => match ρ[i]? with
  | some (.own _ (.lst _)) => Mo.bind f (fun h => Mo.bind (freeze h) fun d ρ => match ρ[i]? with
    | some (.own l (.lst ds)) => match decide (ds.length < sizeLine) with
      | true => some (.ok (.val .non) (ρ.set i (.own l (.lst (ds ++ [d])))))
      | false => none
    | _ => none) ρ
  | _ => none
theorem own_at {R : RC} {ρ : En} (e : EnR R H ρ σ) {i : Nat} {l : Bool} {ds : List D} (h : ρ[i]? = some (.own l (.lst ds))) : ∃ a xs, σ[i]? = some (some (.ref a)) ∧ H a = some (.lst xs) ∧ DRs R H ds xs := by
  obtain ⟨y, h1, a, rfl, h2, xs, h3, h4⟩ := e.sl i _ h
  exact ⟨a, xs, h1, h3, h4⟩
theorem apM_ok {i : Nat} {f : Mo Hd} {Q : VK} (h : tA K W (apM i f) σ H Q) : tBM K "list" rAppend (tVar i) (tCons (tA K W f) tNil) σ H Q := by
  obtain ⟨R, ρ, rr, hk, e, hf, q⟩ := h
  unfold apM at hf
  split at hf
  · rename_i l0 ds0 h0
    obtain ⟨a, xs0, hs, ha, _⟩ := own_at e h0
    refine ⟨_, hs, .inl ⟨rfl, xs0, .inl (.inl ha)⟩, bindX hk e hf q fun R1 ρ1 x H1 b n1 hr h2 q1 => ?_⟩
    rcases bind_ok h2 with ⟨d, ρ3, h5, h6⟩ | ⟨x, ρ3, h5, _⟩
    · obtain ⟨R2, n2, dr⟩ := freeze_ok n1.en hr h5
      split at h6
      · rename_i l ds hi
        by_cases hz : ds.length < sizeLine
        · simp [hz] at h6
          subst h6
          obtain ⟨a', xs, hs', ha', rs⟩ := own_at n2.en hi
          rw [hs] at hs'
          cases hs'
          refine ⟨a, xs, x, rfl, rfl, ha', by rw [← rs.len]; exact hz, ?_⟩
          have n3 := own_upd n2.en hi hs (rs.append (.cons dr .nil))
          exact q1 R2 _ _ (n2.trans n3) .non
        · simp [hz] at h6
      · cases h6
    · exact (freeze_no h5).elim
  · cases hf
/-- x[k] = e, x a slot: e first -/
def setM (i : Nat) (f g : Mo Hd) : Ms := Mo.bind f fun h => Mo.bind (freeze h) fun d ρ => match ρ[i]? with
  | some (.own _ (.lst _)) => Mo.bind g (fun h2 => Mo.bind (deref h2) fun k ρ => match ρ[i]?, k with
    | some (.own l (.lst ds)), .int k => match ixN ds.length k with
      | some j => some (.ok .nx (ρ.set i (.own l (.lst (ds.set j d)))))
      | none => none
    | _, _ => none) ρ
  | _ => none
theorem setM_ok {i : Nat} {f g : Mo Hd} {D : Ends} (h : tS K W (setM i f g) D σ H) : tAsg (tA K W f) (gSub (tVar i) (tA K W g) rSetL) D σ H := by
  obtain ⟨R, ρ, rr, hk, e, hf, q⟩ := h
  rcases bind_ok hf with ⟨a, ρ1, h1, h2⟩ | ⟨x, ρ1, h1, rfl⟩
  · refine ⟨R, ρ, _, hk, e, h1, fun R1 x H1 n1 r1 => ?_⟩
    rcases bind_ok h2 with ⟨d, ρ2, h3, h4⟩ | ⟨x, ρ2, h3, _⟩
    · obtain ⟨R2, n2, dr⟩ := freeze_ok n1.en r1 h3
      split at h4
      · rename_i l0 ds0 h0
        obtain ⟨p, xs0, hs, _, _⟩ := own_at n2.en h0
        refine ⟨_, hs, ?_⟩
        have nn := n1.trans n2
        rcases bind_ok h4 with ⟨b, ρ3, h5, h6⟩ | ⟨x', ρ3, h5, rfl⟩
        · refine ⟨R2, ρ2, _, nn.k.trans hk, n2.en, h5, fun R3 y H3 n3 r3 => ?_⟩
          obtain ⟨k, h7, h8⟩ := deref_ok h6
          split at h8
          · rename_i l ds k hi
            split at h8
            · rename_i j hj
              cases h8
              obtain ⟨p', xs, hs', hp, rs⟩ := own_at n3.en hi
              rw [hs] at hs'
              cases hs'
              have hy := (deref1_ok n3.en r3 h7).int
              refine ⟨p, xs, k, j, rfl, hy, hp, by rw [← rs.len]; exact hj, ?_⟩
              have n4 := own_upd n3.en hi hs (rs.set (dr.nx n2.en n3) j)
              exact q R3 σ _ ((nn.trans n3).trans n4).ns
            · cases h8
          · cases h8
        · exact ⟨R2, ρ2, _, nn.k.trans hk, n2.en, h5, fun R' H' cls dd n er => q R' σ H' cls dd (nn.trans n).ns er⟩
      · cases h4
    · exact (freeze_no h3).elim
  · exact ⟨R, ρ, _, hk, e, h1, fun R' H' cls d n er => q R' σ H' cls d n.ns er⟩
/-- x op= e, ints -/
def augM (i : Nat) (op : Int → Int → Int) (f : Mo Hd) : Ms := fun ρ => match ρ[i]? with
  | some (.v (.int a)) => Mo.bind f (fun h => Mo.bind (deref h) fun d ρ => match d with
    | .int b => some (.ok .nx (ρ.set i (.v (.int (op a b)))))
    | _ => none) ρ
  | _ => none
theorem augM_ok {i : Nat} {op : Int → Int → Int} {f : Mo Hd} {D : Ends} (h : tS K W (augM i op f) D σ H) : tAug i (tA K W f) (ipI op) D σ H := by
  obtain ⟨R, ρ, rr, hk, e, hf, q⟩ := h
  unfold augM at hf
  split at hf
  · rename_i a h0
    obtain ⟨y, h1, x, rfl, dr⟩ := e.sl i _ h0
    cases dr
    refine ⟨_, h1, ?_⟩
    rcases bind_ok hf with ⟨b, ρ1, h2, h3⟩ | ⟨x, ρ1, h2, rfl⟩
    · refine ⟨R, ρ, _, hk, e, h2, fun R1 y H1 n1 r1 => ?_⟩
      obtain ⟨d, h4, h5⟩ := deref_ok h3
      cases d with
      | int b =>
        cases h5
        refine ⟨a, b, rfl, (deref1_ok n1.en r1 h4).int, ?_⟩
        exact q R1 _ H1 (Ns.trans e n1.ns (setv_ns n1.en (.int _) i))
      | _ => cases h5
    · exact ⟨R, ρ, _, hk, e, h2, fun R' H' cls d n er => q R' σ H' cls d n.ns er⟩
  · cases hf
end

/-! ### a comprehension -/
def wipeE (ρ : En) : List Nat → En
  | [] => ρ
  | v :: vs => (wipeE ρ vs).set v .no
theorem wipeE_get {ρ : En} {i : Nat} {s : Sl} : ∀ {vs : List Nat}, (wipeE ρ vs)[i]? = some s → s = .no ∨ (i ∉ vs ∧ ρ[i]? = some s)
  | [], h => .inr ⟨by simp, h⟩
  | v :: vs, h => by
    unfold wipeE at h
    rcases set_get h with ⟨_, rfl, _⟩ | ⟨hne, h⟩
    · exact .inl rfl
    · rcases wipeE_get h with h | ⟨h1, h2⟩
      · exact .inl h
      · exact .inr ⟨by simp only [List.mem_cons, not_or]; exact ⟨fun z => hne z.symm, h1⟩, h2⟩
theorem wipeE_len {ρ : En} : ∀ {vs : List Nat}, (wipeE ρ vs).length = ρ.length
  | [] => rfl
  | v :: vs => by simp [wipeE, wipeE_len (vs := vs)]
theorem wipe_get {σ : St} {i : Nat} : ∀ {vs : List Nat}, i ∉ vs → (wipe σ vs)[i]? = σ[i]?
  | [], _ => rfl
  | v :: vs, h => by
    simp only [List.mem_cons, not_or] at h
    unfold wipe
    rw [List.getElem?_set_ne fun z => h.1 z.symm, wipe_get h.2]
theorem wipe_len {σ : St} {vs : List Nat} : (wipe σ vs).length = σ.length := wipe_length σ vs
theorem wipe_nz {R : RC} {H : Hp} {ρ : En} {σ : St} (e : EnR R H ρ σ) (vs : List Nat) : Nz R ρ σ H R (wipeE ρ vs) (wipe σ vs) H := by
  have ow : ∀ (i : Nat) (l : Bool) (o : Ow), (wipeE ρ vs)[i]? = some (.own l o) → ρ[i]? = some (.own l o) ∧ (wipe σ vs)[i]? = σ[i]? := fun i l o h => by
    rcases wipeE_get h with h | ⟨h1, h2⟩
    · cases h
    · exact ⟨h2, wipe_get h1⟩
  refine ⟨⟨by rw [wipeE_len, wipe_len]; exact e.len, fun i s h => ?_, fun i j l m o u hij hi hj => ?_, e.tr, e.tb, e.nt⟩, rfl, fun _ h => .inl h, fun _ h => .inl h, Keep.refl, fun i l o h => ⟨⟨o, (ow i l o h).1⟩, (ow i l o h).2⟩, fun _ o h => ⟨o, h⟩⟩
  · have hi : i < (wipe σ vs).length := by
      rw [wipe_len, ← e.len, ← wipeE_len (vs := vs)]
      exact (List.getElem?_eq_some_iff.mp h).1
    rcases wipeE_get h with rfl | ⟨h1, h2⟩
    · exact ⟨_, List.getElem?_eq_getElem hi, trivial⟩
    · obtain ⟨y, h3, h4⟩ := e.sl i s h2
      exact ⟨y, by rw [wipe_get h1]; exact h3, h4⟩
  · obtain ⟨h1, h2⟩ := ow i l o hi
    obtain ⟨h3, h4⟩ := ow j m u hj
    rw [h2, h4]
    exact e.ap i j l m o u hij h1 h3
/-- none of them owns -/
def plainAt (ρ : En) (vs : List Nat) : Bool := vs.all fun i => match ρ[i]? with
  | some (.own _ _) => false
  | _ => true
/-- the slots vs as they were in ρ0 -/
def unwipe (ρ ρ0 : En) : List Nat → En
  | [] => ρ
  | v :: vs => match ρ0[v]? with
    | some s => (unwipe ρ ρ0 vs).set v s
    | none => unwipe ρ ρ0 vs
theorem unwipe_len {ρ ρ0 : En} : ∀ {vs : List Nat}, (unwipe ρ ρ0 vs).length = ρ.length
  | [] => rfl
  | v :: vs => by
    unfold unwipe
    cases ρ0[v]? with
    | none => exact unwipe_len
    | some s => simp [unwipe_len (vs := vs)]
theorem unwipe_get {ρ ρ0 : En} (hl : ρ.length = ρ0.length) {i : Nat} {s : Sl} : ∀ {vs : List Nat}, (unwipe ρ ρ0 vs)[i]? = some s → (i ∈ vs ∧ ρ0[i]? = some s) ∨ (i ∉ vs ∧ ρ[i]? = some s)
  | [], h => .inr ⟨by simp, h⟩
  | v :: vs, h => by
    unfold unwipe at h
    cases hv : ρ0[v]? with
    | none =>
      simp only [hv] at h
      have hne : i ≠ v := by
        rintro rfl
        have h1 := (List.getElem?_eq_some_iff.mp h).1
        rw [unwipe_len, hl] at h1
        rw [List.getElem?_eq_getElem h1] at hv
        cases hv
      rcases unwipe_get hl h with ⟨h1, h2⟩ | ⟨h1, h2⟩
      · exact .inl ⟨List.mem_cons_of_mem _ h1, h2⟩
      · exact .inr ⟨by simp only [List.mem_cons, not_or]; exact ⟨hne, h1⟩, h2⟩
    | some s0 =>
      simp only [hv] at h
      rcases set_get h with ⟨rfl, rfl, _⟩ | ⟨hne, h⟩
      · exact .inl ⟨List.mem_cons_self, hv⟩
      · rcases unwipe_get hl h with ⟨h1, h2⟩ | ⟨h1, h2⟩
        · exact .inl ⟨List.mem_cons_of_mem _ h1, h2⟩
        · exact .inr ⟨by simp only [List.mem_cons, not_or]; exact ⟨fun z => hne z.symm, h1⟩, h2⟩
/-- behind a block -/
theorem unwipe_ny {R R' : RC} {H H' : Hp} {ρ ρ' : En} {σ : St} {vs : List Nat} (e : EnR R H ρ σ) (hp : plainAt ρ vs = true) (n : Nz R (wipeE ρ vs) (wipe σ vs) H R' ρ' (wipe σ vs) H') : Ny R ρ σ H R' (unwipe ρ' ρ vs) H' := by
  have hl : ρ'.length = ρ.length := by
    rw [n.en.len, wipe_len]
    exact e.len.symm
  have pl : ∀ {i : Nat} {l : Bool} {o : Ow}, i ∈ vs → ρ[i]? ≠ some (.own l o) := fun {i l o} h1 h2 => by
    have := List.all_eq_true.mp hp i h1
    simp [h2] at this
  have ow : ∀ (i : Nat) (l : Bool) (o : Ow), (unwipe ρ' ρ vs)[i]? = some (.own l o) → i ∉ vs ∧ ρ'[i]? = some (.own l o) := fun i l o h => by
    rcases unwipe_get hl h with ⟨h1, h2⟩ | h
    · exact absurd h2 (pl h1)
    · exact h
  have up : ∀ a, Owns (wipeE ρ vs) (wipe σ vs) a → Owns ρ σ a := fun a h => (wipe_nz e vs).owns h
  have t : To R H R' H' := ⟨n.k, n.m, n.h.mono fun a h => e.own_m (up a h)⟩
  refine ⟨⟨by rw [unwipe_len, hl]; exact e.len, fun i s h => ?_, fun i j l m o u hij hi hj => ?_, n.en.tr, n.en.tb, n.en.nt⟩, n.k, n.m, fun a h => (n.cov a h).imp_right (up a), n.h.mono up, fun i l o h => ?_, n.al⟩
  · rcases unwipe_get hl h with ⟨h1, h2⟩ | ⟨h1, h2⟩
    · obtain ⟨y, h3, h4⟩ := e.sl i s h2
      refine ⟨y, h3, ?_⟩
      cases s with
      | no => trivial
      | v d =>
        obtain ⟨x, h5, h6⟩ := h4
        exact ⟨x, h5, h6.to t⟩
      | own l o => exact absurd h2 (pl h1)
    · obtain ⟨y, h3, h4⟩ := n.en.sl i s h2
      exact ⟨y, by rw [← wipe_get h1]; exact h3, h4⟩
  · obtain ⟨h1, h2⟩ := ow i l o hi
    obtain ⟨h3, h4⟩ := ow j m u hj
    rw [← wipe_get h1, ← wipe_get h3]
    exact n.en.ap i j l m o u hij h2 h4
  · obtain ⟨h1, h2⟩ := ow i l o h
    obtain ⟨⟨u, h3⟩, _⟩ := n.own i l o h2
    rcases wipeE_get h3 with h3 | ⟨_, h3⟩
    · cases h3
    · exact ⟨u, h3⟩
end Mi
set_option Elab.async false
set_option linter.all false
set_option maxRecDepth 100000
set_option maxHeartbeats 2000000
/-! M14: a list comprehension -/
namespace Mi
open PySem L2

def lcL (t : Tg) (own : List Nat) (c : Mo Bool) (e : Mo Hd) : List D → Nat → En → Option (List D × En)
  | [], _, ρ => some ([], ρ)
  | d :: ds, n, ρ => match setT t d ρ with
    | none => none
    | some ρ1 => match c ρ1 with
      | some (.ok false ρ2) => lcL t own c e ds n (wipeE ρ2 own)
      | some (.ok true ρ2) => match Mo.bind e freeze ρ2 with
        | some (.ok v ρ3) => match decide (n < sizeLine), lcL t own c e ds (n + 1) (wipeE ρ3 own) with
          | true, some (vs, ρ') => some (v :: vs, ρ')
          | _, _ => none
        | _ => none
      | _ => none
def lcM (it : Mo (List D)) (t : Tg) (own : List Nat) (c : Mo Bool) (e : Mo Hd) : Mo Fr := Mo.bind it fun ds ρ => match plainAt ρ own, lcL t own c e ds 0 (wipeE ρ own) with
  | true, some (vs, ρ') => some (.ok (.new (.lst vs)) (unwipe ρ' ρ own))
  | _, _ => none
def W0 : WX := fun _ _ _ _ => False
theorem set_wipe {σ : St} {v : Nat} : ∀ {vs : List Nat}, wipe (σ.set v none) vs = (wipe σ vs).set v none
  | [] => rfl
  | u :: us => by
    unfold wipe
    rw [set_wipe]
    by_cases h : u = v
    · rw [h]
    · exact List.set_comm _ _ (Ne.symm h)
theorem wipe_idem {σ : St} : ∀ {vs : List Nat}, wipe (wipe σ vs) vs = wipe σ vs
  | [] => rfl
  | v :: vs => by
    show (wipe ((wipe σ vs).set v none) vs).set v none = (wipe σ vs).set v none
    rw [set_wipe, wipe_idem, List.set_set]
theorem side_upd {R R' : RC} {ρ ρ' : En} {σ σ' : St} {H H' : Hp} {a : Addr} {o : HO} (n : Nz R ρ σ H R' ρ' σ' H') (ha : H a = none) (hm : R'.M a) (no : ¬ Owns ρ' σ' a) (hd : ∃ xs, H' a = some (.lst xs)) (nob : ∀ ps, o ≠ .tbl ps) : Nz R ρ σ H R' ρ' σ' (upd H' a o) := by
  have kp : Keep R'.M H' (upd H' a o) := fun b u hb hn _ => by
    rw [upd_ne fun z => hn (by rw [z]; exact hm)]
    exact hb
  have t : To R' H' R' (upd H' a o) := ⟨rfl, fun _ h => .inl h, kp⟩
  refine ⟨⟨n.en.len, fun i s h => ?_, n.en.ap, fun b hb => ?_, tabs_upd n.en.tb (fun o q ps z => by obtain ⟨xs, hd⟩ := hd; rw [hd] at q; subst z; cases q) fun o q ps z => (by obtain ⟨xs, hd⟩ := hd; rw [hd] at q; subst z; cases q), fun b ps h z => by
    by_cases zb : b = a
    · subst zb
      rw [upd_same] at z
      exact nob ps (Option.some.inj z)
    · rw [upd_ne zb] at z
      exact n.en.nt b ps h z⟩, n.k, n.m, n.cov, fun b u hb hn nt => ?_, n.own, fun b u hb => ?_⟩
  · obtain ⟨y, h1, h2⟩ := n.en.sl i s h
    refine ⟨y, h1, ?_⟩
    cases s with
    | no => trivial
    | v d =>
      obtain ⟨x, h3, h4⟩ := h2
      exact ⟨x, h3, h4.to t⟩
    | own l o1 =>
      obtain ⟨b, h3, h4⟩ := h2
      subst h3
      exact ⟨b, rfl, h4.to t h4.m (upd_ne fun z => no (by rw [← z]; exact ⟨i, l, o1, h, h1⟩))⟩
  · by_cases z : b = a
    · subst z
      exact ⟨_, upd_same⟩
    · rw [upd_ne z]
      exact n.en.tr b hb
  · have z : b ≠ a := by
      rintro rfl
      rw [ha] at hb
      cases hb
    rw [upd_ne z]
    exact n.h b u hb hn nt
  · obtain ⟨u', h1⟩ := n.al b u hb
    by_cases z : b = a
    · subst z
      exact ⟨_, upd_same⟩
    · exact ⟨u', by rw [upd_ne z]; exact h1⟩
section
variable {K : PySem.W.Frag} {W : WX} {σ : St} {H : Hp}
theorem lcM_ok {it : Mo (List D)} {t : Tg} {own : List Nat} {c : Mo Bool} {e : Mo Hd} {Q : VK} (hts : ∀ i ∈ t.sl, i ∈ own) (h : tN K W (lcM it t own c e) σ H Q) : tLc (iD K W it) (gT K t) (tB K W0 c) (tA K W0 e) own σ H Q := by
  obtain ⟨R, ρ, rr, hk, en, hf, q⟩ := h
  rcases bind_ok hf with ⟨ds, ρ1, h1, h2⟩ | ⟨x, ρ1, h1, rfl⟩
  · refine ⟨R, ρ, _, hk, en, h1, fun R1 J H1 n1 w p hp => ?_⟩
    cases hpl : plainAt ρ1 own with
    | false => simp [hpl] at h2
    | true =>
      cases hlc : lcL t own c e ds 0 (wipeE ρ1 own) with
      | none => simp [hpl, hlc] at h2
      | some z =>
        obtain ⟨vs, ρE⟩ := z
        simp [hpl, hlc] at h2
        subst h2
        obtain ⟨G, Y, wk, hG, hY⟩ := w
        have hk1 := n1.k.trans hk
        have nw := wipe_nz n1.en own
        have e1 := nw.en
        obtain ⟨s1, s2⟩ := new_ny e1 hp (.nil (R := R1) (H := H1))
        refine lc_it wk (Pv := fun i H => ∃ R' ρ' acc accV rest, Nz R1 (wipeE ρ1 own) (wipe σ own) H1 R' ρ' (wipe σ own) H ∧ R'.M p ∧ ¬ Owns ρ' (wipe σ own) p ∧ H p = some (.lst accV) ∧ DRs R' H acc accV ∧ lcL t own c e (ds.drop i) acc.length ρ' = some (rest, ρE) ∧ acc ++ rest = vs)
          ⟨_, _, [], [], vs, s1.nz, .inr rfl, fun z => e1.fresh hp (e1.own_m z), upd_same, .nil, hlc, rfl⟩
          (fun i H' hi ⟨R', ρ', acc, accV, rest, n, _⟩ => hG R' H' (n.ns.lt e1)) (fun i x H' H2 hi ⟨R', ρ', acc, accV, rest, n, hm, no, ha, hr, hl, hv⟩ y => ?_) fun H' ⟨R', ρ', acc, accV, rest, n, hm, no, ha, hr, hl, hv⟩ => ?_
        · obtain ⟨ex, d, hd, dr⟩ := hY i R' H' x H2 hi (n.ns.lt e1) y
          have hcut : ds.drop i = d :: ds.drop (i + 1) := by
            obtain ⟨hl, e1⟩ := List.getElem?_eq_some_iff.mp hd
            rw [List.drop_eq_getElem_cons hl, e1]
          rw [hcut] at hl
          have en2 := n.en.ex ex
          have n0 : Nz R1 (wipeE ρ1 own) (wipe σ own) H1 R' ρ' (wipe σ own) H2 := n.trans (Nx.ex n.en ex).ny.nz
          have ha2 : H2 p = some (.lst accV) := ex p _ ha
          have hr2 : DRs R' H2 acc accV := hr.to (To.ex ex)
          unfold lcL at hl
          cases h3 : setT t d ρ' with
          | none => simp [h3] at hl
          | some ρ2 =>
            simp only [h3] at hl
            refine ⟨R', ρ', d, ρ2, n0.k.trans hk1, en2, dr, h3, fun σ2 m so => ?_⟩
            have hσ : wipe σ2 own = wipe σ own := by rw [so own hts, wipe_idem]
            refine ⟨hσ, ?_⟩
            -- a step's end
            have step : ∀ {R4 : RC} {ρ4 : En} {H4 : Hp}, Nz R' ρ2 σ2 H2 R4 ρ4 σ2 H4 → Nz R' ρ' (wipe σ own) H2 R4 (wipeE ρ4 own) (wipe σ own) H4 := fun {R4 ρ4 H4} n4 => by
              have := (m.trans n4).trans (wipe_nz n4.en own)
              rwa [hσ] at this
            have kept : ∀ {R4 : RC} {ρ5 : En} {H4 : Hp}, Nz R' ρ' (wipe σ own) H2 R4 ρ5 (wipe σ own) H4 → R4.M p ∧ ¬ Owns ρ5 (wipe σ own) p ∧ H4 p = some (.lst accV) ∧ DRs R4 H4 acc accV := fun {R4 ρ5 H4} n5 =>
              ⟨(n5.cov p hm).resolve_right no, fun z => no (n5.owns z), n5.h p _ ha2 no nofun, hr2.to (n5.ns.to en2)⟩
            cases h4 : c ρ2 with
            | none => simp [h4] at hl
            | some rc =>
              cases rc with
              | ex x ρ3 => simp [h4] at hl
              | ok b ρ3 =>
                refine ⟨R', ρ2, _, n0.k.trans hk1, m.en, h4, fun R3 b' H3 n3 hb => ?_⟩
                subst hb
                cases b with
                | false =>
                  simp only [h4] at hl
                  have n5 := step n3.ny.nz
                  obtain ⟨k1, k2, k3, k4⟩ := kept n5
                  exact ⟨R3, _, acc, accV, rest, n0.trans n5, k1, k2, k3, k4, hl, hv⟩
                | true =>
                  simp only [h4] at hl
                  cases h5 : Mo.bind e freeze ρ3 with
                  | none => simp [h5] at hl
                  | some re =>
                    cases re with
                    | ex x ρ4 => simp [h5] at hl
                    | ok v ρ4 =>
                      simp only [h5] at hl
                      by_cases hz : acc.length < sizeLine
                      · cases h6 : lcL t own c e (ds.drop (i + 1)) (acc.length + 1) (wipeE ρ4 own) with
                        | none => simp [hz, h6] at hl
                        | some zz =>
                          obtain ⟨vs', ρ''⟩ := zz
                          simp [hz, h6] at hl
                          obtain ⟨hl1, hl2⟩ := hl
                          subst hl1; subst hl2
                          refine tD_of ⟨R3, ρ3, _, (n3.k.trans n0.k).trans hk1, n3.en, h5, fun R4 y H4 n4 dr4 => ?_⟩
                          have n5 := step (n3.ny.nz.trans n4.ny.nz)
                          obtain ⟨k1, k2, k3, k4⟩ := kept n5
                          have t : To R4 H4 R4 (upd H4 p (.lst (accV ++ [y]))) := ⟨rfl, fun _ h => .inl h, fun b u hb hn _ => by
                            rw [upd_ne fun z => hn (by rw [z]; exact k1)]
                            exact hb⟩
                          refine ⟨accV, k3, by rw [← k4.len]; exact hz, R4, _, acc ++ [v], accV ++ [y], vs', side_upd (n0.trans n5) hp k1 k2 ⟨_, k3⟩ nofun, k1, k2, upd_same, (k4.append (.cons dr4 .nil)).to t, ?_, ?_⟩
                          · rw [List.length_append]
                            exact h6
                          · rw [List.append_assoc]
                            exact hv
                      · simp [hz] at hl
        · rw [List.drop_length] at hl
          cases hl
          rw [List.append_nil] at hv
          subst hv
          have ny := unwipe_ny n1.en hpl n
          refine q _ _ H' (n1.ny.trans ny) ⟨p, rfl, ⟨hm, accV, ha, hr⟩, fun z => ?_, none_of n1.al hp⟩
          exact n1.en.fresh hp (n1.en.own_m (ny.owns z))
  · exact ⟨R, ρ, _, hk, en, h1, q⟩
end
end Mi
set_option Elab.async false
set_option linter.all false
set_option maxRecDepth 100000
set_option maxHeartbeats 2000000
/-! M22: slices by a step -/
namespace Mi
open PySem PySem.Spec L2
open PyProof.Rows hiding St

def pickD {α : Type} (ds : List α) (is : List Nat) : List α := is.filterMap fun i => ds[i]?
theorem DRs.pick {R : RC} {H : Hp} {ds : List D} {xs : List V} (r : DRs R H ds xs) : ∀ is : List Nat, DRs R H (pickD ds is) (pickD xs is)
  | [] => .nil
  | i :: is => by
    unfold pickD
    rw [List.filterMap_cons, List.filterMap_cons]
    cases h : ds[i]? with
    | none =>
      have : xs[i]? = none := by
        rw [List.getElem?_eq_none_iff] at h ⊢
        rw [← r.len]
        exact h
      rw [this]
      exact DRs.pick r is
    | some d =>
      obtain ⟨x, h1, h2⟩ := r.get h
      rw [h1]
      exact .cons h2 (DRs.pick r is)
theorem vals_pick {xs : List V} {us : List Value} (r : Vals xs us) : ∀ is : List Nat, Vals (pickD xs is) (pickD us is)
  | [] => .nil
  | i :: is => by
    unfold pickD
    rw [List.filterMap_cons, List.filterMap_cons]
    cases h : xs[i]? with
    | none =>
      have : us[i]? = none := by
        rw [List.getElem?_eq_none_iff] at h ⊢
        rw [← r.length]
        exact h
      rw [this]
      exact vals_pick r is
    | some d =>
      obtain ⟨x, h1, h2⟩ := r.get h
      rw [h1]
      exact .cons h2 (vals_pick r is)
/-- the places of [::k] among n: of a list, of a tuple -/
def lsIx (n : Nat) (k : Int) : List Nat := sliceRange (sliceBounds none none (some k) n).1 (sliceBounds none none (some k) n).2.1 (sliceBounds none none (some k) n).2.2
def tpLo (n : Nat) (k : Int) : Int := (Builtin.Slice.sliceAdjust none none k n).1
def tpN (n : Nat) (k : Int) : Nat := Builtin.Slice.slicePlaces (Builtin.Slice.sliceAdjust none none k n).1 (Builtin.Slice.sliceAdjust none none k n).2 k
def tpIx (n : Nat) (k : Int) : List Nat := (List.range (tpN n k)).map fun (m : Nat) => (tpLo n k + (m : Int) * k).toNat
section
variable {prog : Program} {w : World} {A : Around} {E : Value → Shared → Prop} {s : Shared}
theorem applied_step {sl : Addr} {k : Int} {u : Tok} {n : Nat} {Q : Int × Int × Nat → Shared → Prop} (hs : s.heap.IsSliceOf sl .none .none (.int k u)) (hk : k ≠ 0) (h : Q (tpLo n k, k, tpN n k) s) :
    wpAny (model prog w) A (Builtin.Slice.sliceApplied (.ref sl) (pure (n : Int))) Q E s := by
  obtain ⟨os, hos, hcs, hds⟩ := id hs
  unfold Builtin.Slice.sliceApplied Builtin.Slice.sliceFields
  refine wpAny_bind (wpAny_bind (wpAny_field hos hds (x := .none) rfl (wpAny_bind (wpAny_field hos hds (x := .none) rfl (wpAny_bind (wpAny_field hos hds (x := .int k u) rfl (wpAny_pure ?_)))))))
  refine wpAny_bind (slicePart_int ?_)
  show wpAny _ _ (if (k == 0) = true then _ else _) _ _ s
  rw [if_neg (by simpa using hk)]
  refine wpAny_bind (slicePart_none (wpAny_bind (slicePart_none (wpAny_bind (wpAny_pure ?_)))))
  exact wpAny_pure h
theorem tup_step {t sl : Addr} {items : Array Value} {k : Int} {u : Tok} {Q : Value → Shared → Prop} (ht : IsTup s.heap t items) (hs : s.heap.IsSliceOf sl .none .none (.int k u)) (hk : k ≠ 0) (hk1 : k ≠ 1)
    (h : Q (.ref s.heap.objs.size) { s with heap := s.heap.push { cls := .type "tuple", data := .seq (pickD items.toList (tpIx items.size k)).toArray } }) (hz : (pickD items.toList (tpIx items.size k)).length ≤ sizeLine) : wpAny (model prog w) A (getItem (.ref t) (.ref sl)) Q E s := by
  have hz2 : sizeOk (.seq (pickD items.toList (tpIx items.size k)).toArray) := by
    show (pickD items.toList (tpIx items.size k)).toArray.size ≤ sizeLine
    rw [List.size_toArray]
    exact hz
  obtain ⟨os, hos, hcs, hds⟩ := id hs
  have ty : s.TypeIs (.ref sl) "slice" := ⟨os, hos, hcs⟩
  unfold getItem
  try with_reducible refine wpAny_holding ?_
  first | refine wpAny_bind (wpAny_pure ?_) | skip
  refine wpAny_bind (wpAny_sequenceKey ht.typeIs (by decide) ?_)
  refine wpAny_bind (wpAny_callSpecial?_slot (name := Str.ofString "__getitem__") ht.typeIs PyProof.Rows.slot_tuple_getitem
    (wpAny_call_entry PyProof.Rows.slot_tuple_getitem ht.typeIs entry_tuple_getitem ?_ (args_tuple_getitem _ _)))
  show wpAny _ _ (Builtin.Tuple.tupleItemsOf (.ref t) >>= _) _ _ s
  refine wpAny_bind (tupleItemsOf_ ht ?_)
  refine wpAny_bind (wpAny_typeOf ty ?_)
  rw [if_pos (by decide)]
  refine wpAny_bind (applied_step hs hk ?_)
  have no : ¬ ((tpLo items.size k == 0 && k == 1 && tpN items.size k == items.size) = true) := by
    intro q
    rw [Bool.and_eq_true, Bool.and_eq_true] at q
    exact hk1 (eq_of_beq q.1.2)
  show wpAny _ _ (if (tpLo items.size k == 0 && k == 1 && tpN items.size k == items.size) = true then _ else _) _ _ s
  rw [if_neg no]
  have e : ((List.range (tpN items.size k)).filterMap fun (m : Nat) => items[(tpLo items.size k + (m : Int) * k).toNat]?).toArray = (pickD items.toList (tpIx items.size k)).toArray := by
    unfold pickD tpIx
    rw [List.filterMap_map]
    congr 2
    funext m
    simp
  rw [e]
  first
    | exact wpAny_bind (m := Builtin.Tuple.tupleExact _) (wpAny_newObj_type (wpAny_pure ⟨_, rfl, wpAny_pure h⟩) hz2)
    | exact wpAny_bind (m := Builtin.Tuple.tupleExact _) (wpAny_newObj_type (wpAny_bind (wpAny_pure (wpAny_pure ⟨_, rfl, wpAny_pure h⟩))) hz2)
    | exact wpAny_bind (wpAny_bind (m := Builtin.Tuple.tupleExact _) (wpAny_newObj_type (wpAny_pure (wpAny_pure ⟨_, rfl, wpAny_pure h⟩)) hz2))
    | exact wpAny_bind (wpAny_bind (m := Builtin.Tuple.tupleExact _) (wpAny_newObj_type (wpAny_pure ⟨_, rfl, wpAny_pure h⟩) hz2))
end
def rStp (K : PySem.W.Frag) : R2 := fun x y H Q => ∃ a k xs, x = .ref a ∧ y = .int k ∧ k ≠ 0 ∧
  ((SqL K H a xs ∧ ∀ p, H p = none → Q (.ref p) (upd H p (.lst (pickD xs (lsIx xs.length k))))) ∨ (SqT K H a xs ∧ k ≠ 1 ∧ (pickD xs (tpIx xs.length k)).length ≤ sizeLine ∧ ∀ p, H p = none → Q (.ref p) (upd H p (.tup (pickD xs (tpIx xs.length k))))))
theorem pick_len {xs : List V} {us : List Value} (r : Vals xs us) (is : List Nat) : (pickD xs is).length = (pickD us is).length := (vals_pick r is).length
/-- a[::k] -/
theorem pe_stp {X : Cx} {e k : Expr} {te tk : TE} {p2 pos : Pos} (he : PE X e te) (hk : PE X k tk) : PE X (.Subscript e (.Slice none none (some k) p2) pos) (tOp (rStp X.K) te tk) := by
  refine ⟨fun pins s σ H Q I h => ?_⟩
  refine Subscript_ (thn (he.run pins s σ H _ I h) fun v s1 ⟨x, H1, I1, r1, q1⟩ => ?_)
  refine wpAny_Slice ?_
  rw [evalPart_none]
  refine wpAny_pure ?_
  refine wpAny_pure ?_
  rw [evalPart_some]
  refine thn (hk.run pins s1 σ H1 _ I1 q1) fun u s2 ⟨y, H2, I2, r2, a, i, xs, e1, e2, hi, q⟩ => ?_
  subst e1; subst e2
  obtain ⟨t, rfl⟩ := r2
  cases r1
  have I3 : L2.Inv X pins σ H2 { s2 with heap := s2.heap.push { cls := .type "slice", data := .fields #[.none, .none, .int i t] } } := I2.kept (t' := s2.toks) fun b ob q => Heap.get?_push_of_some _ q
  have hs : (s2.heap.push { cls := .type "slice", data := .fields #[.none, .none, .int i t] }).IsSliceOf s2.heap.objs.size .none .none (.int i t) := Heap.IsSliceOf.new ..
  rcases q with ⟨hx, q⟩ | ⟨hx, hi1, hz1, q⟩
  · obtain ⟨its, r, ht, hz⟩ := I3.list hx
    have hlen := r.length
    refine tail_any (ops := [.ref a, .ref s2.heap.objs.size]) ht.isList.typeIs slot_list_getitem.lookup ?_ (by with_unfolding_all rfl)
    refine wpAny_getItem_list_slice ht.isList hs .none .none (.int i t) (by simpa using hi) ?_ (by rw [List.size_toArray] <;> omega)
    have e : slicePick its.toArray none none (some i) = (pickD its (lsIx its.length i)).toArray := by
      unfold slicePick pickD lsIx
      simp
    rw [e, ← hlen]
    have hl2 : (pickD xs (lsIx xs.length i)).length ≤ xs.length := by
      rw [pick_len r]
      have := slicePick_size_le its.toArray none none (some i)
      rw [e, List.size_toArray, List.size_toArray] at this
      rw [hlen]
      exact this
    exact ⟨.ref _, _, I3.laid (t' := s2.toks) (o := .lst (pickD xs (lsIx xs.length i))) (fun b ob q => Heap.get?_push_of_some _ q) (Nat.le_refl _) ⟨Nat.le_trans hl2 hz, _, 0, vals_pick r _, Heap.get?_push_size _ rfl⟩, rfl, q _ (I3.hok.fresh (Nat.le_refl _))⟩
  · obtain ⟨its, r, ht, hz⟩ := I3.tuple hx
    have hlen : its.toArray.size = xs.length := by rw [List.size_toArray]; exact r.length.symm
    refine tail_any (ops := [.ref a, .ref s2.heap.objs.size]) ht.typeIs PyProof.Rows.slot_tuple_getitem.lookup ?_ (by with_unfolding_all rfl)
    refine tup_step ht hs hi hi1 ?_ ?_
    · rw [hlen]
      exact ⟨.ref _, _, I3.laid (t' := s2.toks) (o := .tup (pickD xs (tpIx xs.length i))) (fun b ob q => Heap.get?_push_of_some _ q) (Nat.le_refl _) ⟨hz1, _, vals_pick r _, IsTup.new _ _⟩, rfl, q _ (I3.hok.fresh (Nat.le_refl _))⟩
    · rw [hlen, List.toList_toArray, ← pick_len r]
      exact hz1
/-- a[::k] -/
def stpD : D → D → Option D
  | .lst ds, .int k => if k ≠ 0 then some (.lst (pickD ds (lsIx ds.length k))) else none
  | .tup ds, .int k => if k ≠ 0 ∧ k ≠ 1 ∧ (pickD ds (tpIx ds.length k)).length ≤ sizeLine then some (.tup (pickD ds (tpIx ds.length k))) else none
  | _, _ => none
theorem stpD_ok {K : PySem.W.Frag} : OpS K (rStp K) stpD := by
  intro R H x y a b d Q hk tr ra rb e q
  unfold stpD at e
  split at e
  · split at e
    · rename_i hi
      cases e
      obtain ⟨p, xs, rfl, h1, r1⟩ := ra.lst
      refine ⟨p, _, xs, rfl, rb.int, hi, .inl ⟨.inl (.inl h1), fun l hl => ?_⟩⟩
      rw [← r1.len]
      obtain ⟨ex, dr⟩ := new_lst tr hl (r1.pick _)
      exact q _ _ ex dr
    · cases e
  · split at e
    · rename_i hi
      obtain ⟨h0, h1', h2⟩ := hi
      cases e
      obtain ⟨p, xs, rfl, h1, r1⟩ := ra.tup
      refine ⟨p, _, xs, rfl, rb.int, h0, .inr ⟨by rw [← hk]; exact h1.sq, h1', ?_, fun l hl => ?_⟩⟩
      · rw [← r1.len, ← (r1.pick _).len]
        exact h2
      · rw [← r1.len]
        obtain ⟨ex, dr⟩ := new_tup tr hl (r1.pick _)
        exact q _ _ ex dr
    · cases e
  · cases e
end Mi
set_option Elab.async false
set_option linter.all false
set_option maxRecDepth 100000
set_option maxHeartbeats 4000000
/-! X1: exception classes of the program over any built-in base: stores into their instances -/
namespace Xb
open PySem PySem.Spec PyProof.Rows PySem.W PySem.Calls
/-- what the written part says of the class at C -/
structure OexB (K : Frag) (C : Addr) (B newId initId : String) (bmB : List Value) : Prop where
  F : ExcBaseFacts B newId initId bmB
  SF : StoreFacts B bmB "object.__setattr__" "object"
  KF : KxsFacts B initId
  cls : excInitIn K C bmB newId = true
  over : excOver K C bmB = true
  hd : hasDictIn K C = true
  sa : findIn K (.ref C) "__setattr__" = some (some (.builtin "object.__setattr__"))
  exC : subIn K (.ref C) (.type "BaseException") = some true
  subB : subIn K (.ref C) (.type B) = some true
  tyC : typeIn K (.ref C) = some (.type "type")
  kC : keepIn K (.ref C) = true
section
open Builtin Builtin.ObjectAttr
variable {prog : Program} {w : World} {A : Around} {E : Value → Shared → Prop} {R : Result → Shared → Prop} {hp : Heap} {g : Array GenState} {d : Drawn} {t : Nat} {os : OsState} {B newId initId : String} {bmB : List Value}
theorem osb_new {K : Frag} {name : Str} {tk : Tok} {v : Value} {x C : Addr} {fv : Array Value} (T : OexB K C B newId initId bmB)
    (X : K.In hp) (hx : hp.get? x = some { cls := .ref C, data := .fields fv }) (ha : findIn K (.ref C) name = some none)
    (hq : ∀ h' tk' dx, (∀ b o, b ≠ x → hp.get? b = some o → h'.get? b = some o) → hp.objs.size ≤ dx → dx ≠ x → h'.get? x = some { cls := .ref C, dict := some dx, data := .fields fv } →
      h'.Ns1 dx (fun y => if y = name then some v else none) → R (.ok (.ret .none)) ⟨h', g, d, tk', os⟩) :
    codeAny (model prog w) A (.call (.builtin "object.__setattr__") ⟨[.ref x, .str name tk, v], []⟩) R ⟨hp, g, d, t, os⟩ := by
  have I : InstAt hp x { cls := .ref C, data := .fields fv } C none := ⟨hx, rfl, rfl, trivial⟩
  have hxs : x ≠ hp.objs.size := Nat.ne_of_lt (Heap.lt_size hx)
  have ht : takerIn K C name = some none := by
    unfold takerIn
    rw [ha]
    rfl
  refine osa_openX (od := none) (s := ⟨hp, g, d, t, os⟩) T.SF X I T.over ht fun b => ?_
  obtain ⟨cd, hcd, hh⟩ := any_some T.hd
  have hcls : W.Looks (model prog w) hp (classData C) cd := W.looks_clsIn X hcd
  obtain ⟨nm, bs, mro, ns, qn, hd, sn, sb, ab, col, del⟩ := cd
  dsimp only at hh
  subst hh
  show wpAny _ _ (storeInOwnDict (.ref x) (.ref C) (.str name tk) name v b) _ _ _
  unfold storeInOwnDict ownDictForStores
  repeat (first | with_reducible refine HandSPX.store_in_new ?_ ?_ | with_reducible refine wpAny_loadPart_at hx ?_ | with_reducible refine hcls.at ?_ | wp_step)
  · exact ⟨_, #[], _, (Heap.get?_update_ne _ _ _ _ hxs.symm).trans (Heap.get?_push_at rfl rfl), rfl, fun e he => absurd he (by simp), fun _ => rfl⟩
  · intro h' tk' hn' hs
    have hx₁ : (hp.push { cls := .type "dict", data := .dict #[] }).get? x = some { cls := .ref C, data := .fields fv } := Heap.get?_push_of_some _ hx
    refine hq h' tk' hp.objs.size (fun b o hb ho => ?_) (Nat.le_refl _) hxs.symm ?_ hn'
    · exact (hs.2 b (Nat.ne_of_lt (Heap.lt_size ho))).trans ((Heap.get?_update_ne _ _ _ _ hb).trans (Heap.get?_push_of_some _ ho))
    · exact (hs.2 x hxs).trans (Heap.get?_update_self _ hx₁ rfl)
theorem osb_old {K : Frag} {name : Str} {tk : Tok} {v : Value} {x C dx : Addr} {fv : Array Value} {m0 : Str → Option Value} {nl : List Str} (T : OexB K C B newId initId bmB)
    (X : K.In hp) (hx : hp.get? x = some { cls := .ref C, dict := some dx, data := .fields fv }) (hns : hp.Ns1 dx m0) (hw : Within m0 nl) (hz : nl.length ≤ 1000) (ha : findIn K (.ref C) name = some none)
    (hq : ∀ h' tk', (∀ b o, b ≠ dx → hp.get? b = some o → h'.get? b = some o) → h'.Ns1 dx (fun y => if y = name then some v else m0 y) → R (.ok (.ret .none)) ⟨h', g, d, tk', os⟩) :
    codeAny (model prog w) A (.call (.builtin "object.__setattr__") ⟨[.ref x, .str name tk, v], []⟩) R ⟨hp, g, d, t, os⟩ := by
  obtain ⟨oD, esD, epD, hoD, hdD, _⟩ := hns.count hw
  have I : InstAt hp x { cls := .ref C, dict := some dx, data := .fields fv } C (some oD) := ⟨hx, rfl, rfl, hoD⟩
  have ht : takerIn K C name = some none := by
    unfold takerIn
    rw [ha]
    rfl
  refine osa_openX (od := some oD) (s := ⟨hp, g, d, t, os⟩) T.SF X I T.over ht fun b => ?_
  obtain ⟨cd, hcd, hh⟩ := any_some T.hd
  have hcls : W.Looks (model prog w) hp (classData C) cd := W.looks_clsIn X hcd
  obtain ⟨nm, bs, mro, ns, qn, hd, sn, sb, ab, col, del⟩ := cd
  dsimp only at hh
  subst hh
  show wpAny _ _ (storeInOwnDict (.ref x) (.ref C) (.str name tk) name v b) _ _ _
  unfold storeInOwnDict ownDictForStores
  repeat (first | with_reducible refine OEX.store_in_old hns hw hz ?_ | with_reducible refine wpAny_loadPart_at hx ?_ | with_reducible refine hcls.at ?_ | wp_step)
  intro h' tk' hn' hs
  exact hq h' tk' (fun b o hb ho => (hs.2 b hb).trans ho) hn'
end
end Xb
namespace Xb
open PySem PySem.Spec PyProof.Rows L2
section
variable {X : Cx} {pins : List (Addr × Obj)} {σ : L2.St} {H : Hp} {s : Shared} {a C dx : Addr} {f : Str} {y : V} {u : Value} {fs : List (Str × V)} {Q : Unit → Shared → Prop} {E : Value → Shared → Prop} {A : Around} {B newId initId : String} {bmB : List Value}
/-- self.f = y, the first one -/
theorem osb_ost_new (T : OexB X.K C B newId initId bmB) (I : Inv X pins σ H s) (e : H a = some (exo a C none)) (hno : PySem.W.findIn X.K (.ref C) f = some none) (ry : RelV y u)
    (h : ∀ dx s', H dx = none → dx ≠ a → Inv X pins σ (upd (upd H dx (exd dx [(f, y)])) a (exo a C (some dx))) s' → Q () s') : wpAny (model X.prog X.w) A (setAttr (.ref a) f u) Q E s := by
  obtain ⟨t1, ho⟩ := exo_at I.hok e
  obtain ⟨hp, g, d, t, os⟩ := s
  refine PySem.W.set_plain I.kIn (ox := { cls := .ref C, dict := none, data := .fields #[.ref t1, .none, .none, .none, .bool false, .none] }) (od := none) ⟨ho, rfl, rfl, trivial⟩ T.sa ?_
  refine osb_new T I.kIn ho hno (fun h' tk' dx k dn dne hx hn => ?_)
  have hnd : H dx = none := I.hok.fresh dn
  have nd : ∀ {b : Addr} {o : Obj}, hp.get? b = some o → b ≠ dx := fun {b o} q => Nat.ne_of_lt (Nat.lt_of_lt_of_le (Heap.lt_size q) dn)
  have na : ∀ {b : Addr}, H b = none → b ≠ a := fun {b} n z => by
    rw [z, e] at n
    cases n
  have Un1 : Un X.fs [] H (upd (upd H dx (exd dx [(f, y)])) a (exo a C (some dx))) hp h' := {
    keep := fun b o q n _ _ => k b o (na n) q
    slot := fun b o q n _ _ => ⟨o.slots, k b o (na n) q⟩
    free := fun b o q n _ => by rw [upd_ne (na n), upd_ne (nd q)]; exact n
    there := fun b o q _ => by
      by_cases hb : b = a
      · exact ⟨_, by rw [hb]; exact hx⟩
      · exact ⟨o, k b o hb q⟩
    tups := fun b xs q => by rw [upd_ne (at_ne e q exo_tup), upd_ne (ne_of_none q hnd)]; exact q
    frzs := fun b o v q => by rw [upd_ne (at_ne e q exo_frz), upd_ne (ne_of_none q hnd)]; exact q
    tbls := fun b ps q => ⟨#[], by rw [upd_ne (at_ne e q exo_tbl), upd_ne (ne_of_none q hnd), q]; simp⟩ }
  refine h dx _ hnd dne (I.un (t' := tk') Un1 fun b o q => ?_)
  by_cases hb : b = a
  · subst hb
    rw [upd_same] at q
    cases q
    exact exo_ok hx
  · rw [upd_ne hb] at q
    by_cases hd : b = dx
    · subst hd
      rw [upd_same] at q
      cases q
      exact exd_ok hn (relO_put (fs := []) ry fun g => True.intro)
    · rw [upd_ne hd] at q
      exact (I.hok b o q).stay (fun c v hc z => k c v (by
          rcases hc with hc | hc
          · rw [hc]
            exact hb
          · exact at_ne e hc exo_own) z)
        (fun c hc => by rw [upd_ne (at_ne e hc exo_own), upd_ne (ne_of_none hc hnd)]; exact hc) (fun c xs hc => by rw [upd_ne (at_ne e hc exo_tup), upd_ne (ne_of_none hc hnd)]; exact hc)
/-- self.f = y, a further one -/
theorem osb_ost_old (T : OexB X.K C B newId initId bmB) (I : Inv X pins σ H s) (e : H a = some (exo a C (some dx))) (ed : H dx = some (exd dx fs)) (hl : fs.length ≤ 900) (hno : PySem.W.findIn X.K (.ref C) f = some none) (ry : RelV y u)
    (h : ∀ s', Inv X pins σ (upd H dx (exd dx ((f, y) :: fs))) s' → Q () s') : wpAny (model X.prog X.w) A (setAttr (.ref a) f u) Q E s := by
  obtain ⟨t1, ho⟩ := exo_at I.hok e
  obtain ⟨mA, hns, rel⟩ := exd_at I.hok ed
  have hw := within_of rel
  obtain ⟨hp, g, d, t, os⟩ := s
  obtain ⟨oD, _, _, hoD, _, _⟩ := hns.count hw
  refine PySem.W.set_plain I.kIn (ox := { cls := .ref C, dict := some dx, data := .fields #[.ref t1, .none, .none, .none, .bool false, .none] }) (od := some oD) ⟨ho, rfl, rfl, hoD⟩ T.sa ?_
  refine osb_old T I.kIn ho hns hw (by rw [List.length_map]; omega) hno (fun h' tk' k hn => ?_)
  have hd : ∃ o, h'.get? dx = some o := by
    obtain ⟨o, _, _, e', _⟩ := hn
    exact ⟨o, e'⟩
  exact h _ (I.write (t' := tk') (x := dx) (e := dx) (o := exd dx ((f, y) :: fs)) (by rw [ed]; exact True.intro) (.inl rfl) k hd (exd_ok hn (relO_put ry rel)))
end
end Xb
set_option Elab.async false
set_option linter.all false
set_option maxRecDepth 100000
set_option maxHeartbeats 4000000
/-! X2: super().__init__(..) in an own exception's __init__ -/
namespace Xb
open PySem PySem.Spec PyProof.Rows PySem.W PySem.Calls
section
variable {prog : Program} {w : World} {A : Around} {E : Value → Shared → Prop} {h : Heap} {g : Array GenState} {d : Drawn} {t : Nat} {os : OsState} {B newId initId : String} {bmB : List Value}
theorem call_mwB {K : Frag} {u e t0 C : Addr} {rest : List Value} {Q : Value → Shared → Prop} (T : OexB K C B newId initId bmB) (X : K.In h)
    (he : h.get? e = some (HandSPX.excO C t0)) (hu : h.get? u = some (kxs_mw initId e)) (hz : rest.length ≤ sizeLine)
    (hq : ∀ h' t1, (∀ b o, b ≠ e → h.get? b = some o → h'.get? b = some o) → h'.get? e = some (HandSPX.excO C t1) → Q .none ⟨h', g, d, t, os⟩) :
    wpAny (model prog w) A (call (.ref u) rest) Q E ⟨h, g, d, t, os⟩ := by
  obtain ⟨nm, N', qn, bs, bm, hdct, sn, sub, ab, col, dd, k0, k1, k2, k3, k5, hC, hT⟩ := excInit_of X T.cls
  refine wpAny_call (codeAny_of_tree ?_)
  show wpAny _ A.in1 (callAny (.ref u) ⟨rest, []⟩) _ _ _
  simp only [callAny]
  refine wpAny_bind (wpAny_load hu ?_)
  simp only [kxs_mw, show (Value.type "method-wrapper" == Value.type "method" || Value.type "method-wrapper" == Value.type "builtin_function_or_method" || Value.type "method-wrapper" == Value.type "method-wrapper") = true by decide, if_true]
  refine KFB.if_so (by decide) ?_
  refine wpAny_bind (check_bound_init T.F.toExcCallFacts hC he rfl ?_)
  refine wpAny_bind (wpAny_pure (wpAny_pure ?_))
  refine ⟨plainId_quiet T.F.init.plain _, codeAny_builtin T.F.initEntry ?_⟩
  exact exc_init_tree (cls := .ref C) (t0 := t0) (dv := none) (c2 := .none) (c3 := .none) (b4 := .bool false) he hz fun h' k e' t' => hq h' _ k e'
end
end Xb
namespace Xb
open PySem PySem.Spec PyProof.Rows L2
/-- what a method's frame must have for super() -/
structure SupF (X : Cx) (D : Addr) (sf : Str) : Prop where
  ks : X.env.kindOf "super" = some .globalImplicit
  kc : X.env.kindOf "__class__" = some .free
  ksf : X.env.kindOf sf = some .local
  fu : ∃ (f : Addr) (oc : Value) (od : Option Addr) (fd : FuncData) (osl : Array (Option Value)) (ar : Arg), X.env.func = some f ∧ X.K.lookup f = some ⟨oc, od, .func fd, osl⟩ ∧ (fd.params.posonlyargs ++ fd.params.args).head? = some ar ∧ ar.arg = sf
  co : ∃ (cda : Addr) (ccl : Value) (cdd : Option Addr) (vs : Array Value) (ccs : Array (Option Value)) (file : Str) (tf : Tok), X.env.code = .ref cda ∧ X.K.lookup cda = some ⟨ccl, cdd, .fields vs, ccs⟩ ∧ vs[2]? = some (.str file tf) ∧ ((X.prog.main.file : Str) == file) = true
  ce : ∃ (cc : Addr) (cl : Value) (cld : Option Addr) (csl : Array (Option Value)), X.env.cells.lookup ("__class__" : Str) = some cc ∧ X.K.lookup cc = some ⟨cl, cld, .cell (some (.ref D)), csl⟩
  cd : ∃ cdD, PySem.W.clsIn X.K D = some cdD
  hm : X.mg "super" = none
  top : (X.prog.main.scope.names.lookup ("super" : Str)).isSome = false
  opq : PySem.W.nsIn X.K cStatics "thirdparty.any" = some none
section
variable {X : Cx} {pins : List (Addr × Obj)} {σ : L2.St} {H : Hp} {s : Shared} {a C : Addr} {sf : Str} {B newId initId : String} {bmB : List Value} {E : Value → Shared → Prop}
theorem cls_obj {K : PySem.W.Frag} {h : Heap} {D : Addr} {cdD : ClassData} (X : K.In h) (hD : PySem.W.clsIn K D = some cdD) : ∃ oD, h.get? D = some oD ∧ oD.data = .cls cdD := by
  unfold PySem.W.clsIn at hD
  split at hD
  · rename_i c d cd' sl ho
    cases hD
    exact ⟨_, X _ _ ho, rfl⟩
  · cases hD
theorem mro_self {K : PySem.W.Frag} (T : OexB K C B newId initId bmB) : PySem.W.mroIn K C (.ref C) = some true := by
  obtain ⟨cd, hc, ho⟩ := PySem.W.any_some T.over
  unfold PySem.W.mroIn
  rw [hc, Option.bind_some]
  (try dsimp only at ho)
  split at ho
  · rename_i C' bm hm
    rw [Bool.and_eq_true, beq_iff_eq] at ho
    obtain ⟨rfl, _⟩ := ho
    rw [hm]
    simp
  · cases ho
theorem sup_base {body : List Stmt} {p0 p1 : Pos} {whole : Sem Value} {Q : Value → Shared → Prop} (T : OexB X.K C B newId initId bmB) (S : SupF X C sf) (I : Inv X pins σ H s) (e : H a = some (exo a C none)) (hN : X.N[0]? = some sf) (h0 : σ[0]? = some (some (.ref a)))
    (h : ∀ so h', (∀ b o, s.heap.get? b = some o → h'.get? b = some o) → h'.get? so = some (PySem.W.ks_superObj C a C) → s.heap.objs.size ≤ so → Q (.ref so) { s with heap := h' }) :
    _root_.PySem.wpAt (model X.prog X.w) X.A (.func body X.env) (attributeBase (.Call (.Name "super" p0) [] [] p1) "__init__" X.env whole) Q E s := by
  obtain ⟨f, oc, od, fd, osl, ar, f1, f2, f3, f4⟩ := S.fu
  obtain ⟨cda, ccl, cdd, vs, ccs, file, tf, c1, c2, c3, c4⟩ := S.co
  obtain ⟨cc, cl, cld, csl, g1, g2⟩ := S.ce
  obtain ⟨cdD, d1⟩ := S.cd
  obtain ⟨oD, o1, o2⟩ := cls_obj I.kIn d1
  obtain ⟨t1, ho⟩ := exo_at I.hok e
  obtain ⟨m, hn, hl⟩ := I.loc
  obtain ⟨mb, b1, b2⟩ := I.ok.mod.blt
  refine ks_wpAt_super_base (env := X.env) S.ks S.kc (by decide) f1 (I.kIn _ _ f2) rfl f3 c1 (I.kIn _ _ c2) rfl c3 c4 S.top ?_
  refine PySem.W.ks_loadName_global I.ok.kind S.ks (Calls.loadGlobal_builtin (by rw [I.ok.glob]; exact I.ok.mod.glob.keeps I.bk) S.hm (by rw [I.ok.blt]; exact b1.keeps I.bk) ((b2 _ (by decide)).trans (show bootBuiltins "super" = some (.type "super") by kernel_rfl)) ⟨rfl, ?_⟩)
  refine wpAny_loadName_free I.ok.kind S.kc g1 ⟨_, I.kIn _ _ g2, rfl⟩ ?_
  obtain ⟨u, ru, lu⟩ := hl 0 sf (.ref a) hN h0 (.inl S.ksf)
  cases ru
  have hm : m sf = some (.ref a) := by
    rcases lu with ⟨_, z⟩ | ⟨z, _⟩
    · exact z
    · rw [S.ksf] at z
      rcases z with z | z <;> cases z
  rw [f4]
  refine wpAny_loadName_local I.ok.kind S.ksf hn hm ?_
  refine ks_wpAny_isType_cls o1 o2 ⟨rfl, ?_⟩
  obtain ⟨hh, g, d, t, os⟩ := s
  refine ks_wpAny_call_super o1 o2 ho rfl (fun c e => by cases e) (PySem.W.looks_mroIn I.kIn (mro_self T)) (fun h' e k => h _ h' k e (Nat.le_refl _))
/-- getMethod of super().__init__ -/
theorem sup_meth {so : Addr} {pl : Sem Bool} {A : Around} {Q : Value × List Value → Shared → Prop} (T : OexB X.K C B newId initId bmB) (S : SupF X C sf) (I : Inv X pins σ H s) (e : H a = some (exo a C none)) (hso : s.heap.get? so = some (PySem.W.ks_superObj C a C))
    (hf : PySem.W.ks_superIn X.K C C "__init__" = some (some (.builtin initId)))
    (h : ∀ u h' tk, (∀ b o, s.heap.get? b = some o → h'.get? b = some o) → h'.get? u = some (PySem.W.kxs_mw initId a) → s.heap.objs.size ≤ u → Q (.ref u, []) { s with heap := h', toks := tk }) :
    wpAny (model X.prog X.w) A (getMethod (.ref so) "__init__" pl) Q E s := by
  obtain ⟨t1, ho⟩ := exo_at I.hok e
  obtain ⟨cdD, d1⟩ := S.cd
  have hne : a ≠ C := fun z => by
    subst z
    obtain ⟨oD, o1, o2⟩ := cls_obj I.kIn d1
    rw [ho] at o1
    cases o1
    cases o2
  have hI : PySem.W.Looks (model X.prog X.w) s.heap (isInstance (.ref a) (.type B)) true := PySem.W.Looks.andThen (fun A Q E s k q => wpAny_typeOf_ref (k _ _ ho) q) (PySem.W.looks_subIn I.kIn T.subB)
  have hm := hf
  unfold PySem.W.ks_superIn at hm
  rw [d1] at hm
  obtain ⟨hh, g, d, t, os⟩ := s
  refine PySem.W.kxs_getMethod T.KF hso (PySem.W.looks_opaque I.kIn S.opq) (l₀ := cdD.mro) ?_ rfl I.kIn hm hI hne (by decide) ?_
  · exact fun A Q E s k q => wpAny_bind ((PySem.W.looks_clsIn I.kIn d1) A _ E s k (wpAny_pure q))
  · exact h _ _ _ (fun b o z => Heap.get?_push_of_some _ z) (Heap.get?_push_at rfl rfl) (Nat.le_refl _)
theorem excO_exo {C t1 : Addr} : (HandSPX.excO C t1 : Obj) = { cls := .ref C, dict := none, data := .fields #[.ref t1, .none, .none, .none, .bool false, .none] } := rfl
/-- super().__init__(e, ..) as a statement -/
theorem sup_run {pl : Sem Bool} {body : List Stmt} {p0 p1 p2 p4 p5 : Pos} {ex : Expr} {es : List Expr} {ta : TA} {D : Hp → Prop} {Q : Flow → Shared → Prop} (T : OexB X.K C B newId initId bmB) (S : SupF X C sf) (I : Inv X pins σ H s) (e : H a = some (exo a C none)) (hN : X.N[0]? = some sf) (h0 : σ[0]? = some (some (.ref a)))
    (hf : PySem.W.ks_superIn X.K C C "__init__" = some (some (.builtin initId))) (ha : PA X (ex :: es) ta) (hta : ta σ H fun vs H1 => vs.length ≤ 1000 ∧ H1 a = some (exo a C none) ∧ D H1)
    (h : ∀ s' H1, Inv X pins σ H1 s' → D H1 → Q .next s') (hae : ∀ b ∈ X.fs, H b = none)
    (hc : eval (.Call (.Attribute (.Call (.Name "super" p0) [] [] p1) "__init__" p2) (ex :: es) [] p4) X.env = (do
      let ov ← attributeBase (.Call (.Name "super" p0) [] [] p1) "__init__" X.env (eval (.Call (.Name "super" p0) [] [] p1) X.env)
      standAt p2.atName
      let (f, first) ← holding [ov] (getMethod ov "__init__" pl)
      callWith p4 f first (backTo p4 (starEach (ex :: es) X.env)) []) := by rfl)
    (hi : interactive X.env = false := by rfl) (he : starEach (ex :: es) X.env = (false, eval ex X.env) :: starEach es X.env := by rfl) (hpl : ∀ pos, (backTo pos (starEach es X.env)).any (·.1) = false := by intro _; rfl) :
    _root_.PySem.wpAt (model X.prog X.w) X.A (.func body X.env) (exec (.Expr (.Call (.Attribute (.Call (.Name "super" p0) [] [] p1) "__init__" p2) (ex :: es) [] p4) p5) X.env) Q X.xe s := by
  refine ks_wpAt_Expr_any ?_ hi rfl
  refine ks_wpAt_MethodCall (pl := pl) ?_ hc
  refine sup_base T S I e hN h0 fun so h1 k1 hso n1 => ?_
  have I1 : Inv X pins σ H { s with heap := h1 } := I.kept (t' := s.toks) k1
  refine sup_meth T S I1 e hso hf fun u h2 tk k2 hu n2 => ?_
  have I2 : Inv X pins σ H { s with heap := h2, toks := tk } := I1.kept (t' := tk) k2
  have hun : H u = none := I1.hok.fresh n2
  obtain ⟨m, hn, _⟩ := I1.loc
  have I3 : Inv X ((u, PySem.W.kxs_mw initId a) :: pins) σ H { s with heap := h2, toks := tk } := I2.pins_of fun p hp => by
    rcases List.mem_cons.mp hp with rfl | hp
    · refine ⟨hu, hun, fun z => ?_, fun z => ?_, fun v z => by cases z⟩
      · have := hn.lt
        rw [← z] at this
        exact absurd this (Nat.not_lt.mpr n2)
      · exact I1.nofs n2 z
    · exact I2.pin p (List.mem_append_right _ hp)
  refine PySem.W.kxs_callWith (i := initId) (x := a) (first := []) ?_ ?_
  · rw [he]
    show (false || (backTo p4 (starEach es X.env)).any (·.1)) = false
    rw [hpl]
    rfl
  · have hrun := ha.run p4 _ _ σ H _ I3 hta
    rw [he] at hrun ⊢
    refine PySem.Calls.evalArgs_plain (f := .ref u) (x := eval ex X.env) (rest := backTo p4 (starEach es X.env)) ?_
    refine wpAny_mono hrun (fun us s3 hx => ?_) fun _ _ z => z
    obtain ⟨vs, H1, I4, rv, hl, e1, hd⟩ := hx
    have hu3 := (I4.pin (u, PySem.W.kxs_mw initId a) (List.mem_append_right _ List.mem_cons_self)).1
    refine ⟨hu3, ?_⟩
    obtain ⟨t1, ho⟩ := exo_at I4.hok e1
    have hlen : us.length ≤ sizeLine := by
      rw [← Paired.length rv, sizeLine_eq]
      omega
    obtain ⟨hp, g, d, t, os⟩ := s3
    show wpAny _ _ (call (.ref u) us) _ _ _
    refine call_mwB T I4.kIn ho hu3 hlen fun h' t2 k hx => ?_
    have J := I4.write (t' := t) (x := a) (e := a) (o := exo a C none) (by rw [e1]; exact True.intro) (.inl rfl) k ⟨_, hx⟩ (exo_ok hx)
    have eu : upd H1 a (exo a C none) = H1 := by
      funext b
      by_cases hb : b = a
      · rw [hb, upd_same, e1]
      · rw [upd_ne hb]
    rw [eu] at J
    refine h _ H1 (J.pins_of fun p hp => ?_) hd
    exact J.pin p (List.mem_append_right _ (List.mem_cons_of_mem _ hp))
end
end Xb
set_option Elab.async false
set_option linter.all false
set_option maxRecDepth 100000
set_option maxHeartbeats 4000000
/-! X3: __init__ of an own exception class as a def -/
namespace Xb
open PySem PySem.Spec PyProof.Rows L2 NdefX
theorem noswapN {x : Str} {p : Pos} {t : Option Expr} {l : Nat} {env : Env} : swapsWith (.Name x p) t l env = pure false := rfl
/-- self.f = e -/
def tOsB (C : Addr) (f : Str) (to te : TE) : TS := fun D σ H => te σ H fun y H1 => to σ H1 fun x H2 => ∃ a : Addr, x = .ref a ∧
  ((H2 a = some (exo a C none) ∧ ∀ dx, H2 dx = none → dx ≠ a → D.nx σ (upd (upd H2 dx (exd dx [(f, y)])) a (exo a C (some dx)))) ∨
    ∃ (dx : Addr) (fs : List (Str × V)), H2 a = some (exo a C (some dx)) ∧ H2 dx = some (exd dx fs) ∧ fs.length ≤ 900 ∧ D.nx σ (upd H2 dx (exd dx ((f, y) :: fs))))
section
variable {X : Cx} {C : Addr} {B newId initId : String} {bmB : List Value}
theorem ps_osB {o e : Expr} {to te : TE} {f : Str} {p' pos : Pos} (T : OexB X.K C B newId initId bmB) (hno : PySem.W.findIn X.K (.ref C) f = some none) (ho : PE X o to) (he : PE X e te) (hs : swapsWith e (some (.Attribute o f p')) pos.line X.env = pure false) :
    PS X (.Assign [.Attribute o f p'] e pos) (tOsB C f to te) := by
  refine ⟨fun pins s σ H D I h => ?_⟩
  refine plainObj_wpAny_Assign_Attribute (thn (he.run pins s σ H _ I h) fun v s1 ⟨y, H1, I1, r1, q1⟩ => thn (ho.run pins s1 σ H1 _ I1 q1) fun u s2 ⟨x, H2, I2, r2, a, ex, q⟩ => ?_) hs
  subst ex
  obtain rfl : u = Value.ref a := r2
  rcases q with ⟨ea, q⟩ | ⟨dx, fs, ea, ed, hl, q⟩
  · exact osb_ost_new T I2 ea hno r1 fun dx s' n ne J => ⟨σ, _, J, q dx n ne⟩
  · exact osb_ost_old T I2 ea ed hl hno r1 fun s' J => ⟨σ, _, J, q⟩
/-- the stores of a body, the parameters in a row -/
def stC : List Stmt → Option (List Str)
  | [] => some []
  | .Assign [.Attribute (.Name s _) f _] (.Name v _) _ :: r => if s = "self" ∧ v = f then (stC r).map (f :: ·) else none
  | _ => none
def tSts (C : Addr) : Nat → List Str → TS
  | _, [] => tNext
  | i, f :: r => tSeq (tOsB C f (tVar 0) (tVar i)) (tSts C (i + 1) r)
theorem stC_ok (T : OexB X.K C B newId initId bmB) (hself : X.N[0]? = some ("self" : Str)) (hsl : X.env.scope.names.lookup ("self" : Str) = some .local) : ∀ {body : List Stmt} {fs : List Str} {i : Nat}, stC body = some fs →
    (∀ (j : Nat) (f : Str), fs[j]? = some f → X.N[i + j]? = some f ∧ X.env.scope.names.lookup f = some .local ∧ PySem.W.findIn X.K (.ref C) f = some none ∧ (f == ("__debug__" : Str)) = false ∧ (f == ("__classdict__" : Str)) = false) → PSs X body (tSts C i fs)
  | [], _, i, e, _ => by
    cases e
    exact pss_nil
  | st :: r, fs, i, e, h => by
    unfold stC at e
    split at e
    · rename_i h1
      cases h1
    · rename_i s p1 f p2 v p3 p4 r' h1
      cases h1
      split at e
      · rename_i hsv
        obtain ⟨rfl, rfl⟩ := hsv
        cases e2 : stC r with
        | none => simp [e2] at e
        | some fs' =>
          simp [e2] at e
          subst e
          obtain ⟨a1, a2, a3, a4, a5⟩ := h 0 v rfl
          refine pss_cons (ps_osB T a3 (pe_var (i := 0) hself (.inl hsl)) (pe_var (i := i) (by simpa using a1) (.inl a2) a4 a5) noswapN) (stC_ok T hself hsl e2 fun j f hj => ?_)
          have := h (j + 1) f (by simpa using hj)
          rw [show i + (j + 1) = i + 1 + j by omega] at this
          exact this
      · cases e
    · cases e
/-- what the stores leave -/
theorem tSts_run {σ : L2.St} {a : Addr} (h0 : σ[0]? = some (some (.ref a))) : ∀ {fs : List Str} {ws : List V} {i : Nat} {D : Ends} {H : Hp} {dx : Addr} {ds : List (Str × V)}, fs.length = ws.length → ds.length + fs.length ≤ 900 → (∀ (j : Nat) (v : V), ws[j]? = some v → σ[i + j]? = some (some v)) →
    H a = some (exo a C (some dx)) → H dx = some (exd dx ds) → dx ≠ a → (∀ H', H' a = some (exo a C (some dx)) → H' dx = some (exd dx ((fs.zip ws).reverse ++ ds)) → (∀ b, b ≠ dx → H' b = H b) → D.nx σ H') → tSts C i fs D σ H
  | [], ws, i, D, H, dx, ds, hl, hz, hw, ha, hd, ne, k => by
    exact k H ha (by simpa using hd) fun _ _ => rfl
  | f :: fs, [], i, D, H, dx, ds, hl, hz, hw, ha, hd, ne, k => by cases hl
  | f :: fs, v :: ws, i, D, H, dx, ds, hl, hz, hw, ha, hd, ne, k => by
    rw [List.length_cons] at hz
    refine ⟨v, by simpa using hw 0 v rfl, .ref a, h0, a, rfl, .inr ⟨dx, ds, ha, hd, by omega, ?_⟩⟩
    refine tSts_run (dx := dx) (ds := (f, v) :: ds) h0 (by simpa using hl) (by rw [List.length_cons]; omega) (fun j v hj => ?_) ?_ ?_ ne fun H' k1 k2 k3 => k H' k1 ?_ fun b hb => ?_
    · have := hw (j + 1) v (by simpa using hj)
      rw [show i + (j + 1) = i + 1 + j by omega] at this
      exact this
    · rw [upd_ne (Ne.symm ne)]
      exact ha
    · rw [upd_same]
    · rw [k2]
      simp
    · rw [k3 b hb, upd_ne hb]
end
end Xb
set_option Elab.async false
set_option linter.all false
set_option maxRecDepth 100000
set_option maxHeartbeats 4000000
/-! X4: the promise of an own exception's __init__ -/
namespace Xb
open PySem PySem.Spec PyProof.Rows L2 NdefX
def pN (fs : List Str) : List Str := "self" :: fs
def nN (fs : List Str) : List Str := pN fs ++ [("__class__" : Str)]
/-- what the text and the written part say of such an __init__ -/
structure InitF (P : Program) (K : PySem.W.Frag) (mg : Str → Option Value) (C : Addr) (B newId initId : String) (bmB : List Value) (f : Addr) (fd : FuncData) (fs : List Str) : Prop where
  T : OexB K C B newId initId bmB
  sup : PySem.W.ks_superIn K C C "__init__" = some (some (.builtin initId))
  hm : mg "super" = none
  top : (P.main.scope.names.lookup ("super" : Str)).isSome = false
  opq : PySem.W.nsIn K cStatics "thirdparty.any" = some none
  noat : ∀ x ∈ fs, PySem.W.findIn K (.ref C) x = some none ∧ (x == ("__debug__" : Str)) = false ∧ (x == ("__classdict__" : Str)) = false
  few : fs.length ≤ 800
  fn : ∃ (name qual : Str) (params : Arguments) (body rest : List Stmt) (scope : Scope) (cc cda : Addr) (dV kV doc pm ct oc : Value) (an od : Option Addr) (osl : Array (Option Value)) (p0 p1 p2 p3 p4 p5 : Pos) (msg : Str) (j : Nat) (ar : Arg),
    fd = PySem.W.fnX name qual params body scope [("__class__", cc)] dV kV doc pm an (.ref cda) ct ∧ K.lookup f = some ⟨oc, od, .func fd, osl⟩ ∧ PySem.W.codeIn K (.ref cda) qual = true ∧
    NScope (nN fs) (pN fs) ["__class__"] scope ∧ scope.names.lookup ("super" : Str) = some .globalImplicit ∧
    body = .Expr (.Call (.Attribute (.Call (.Name "super" p0) [] [] p1) "__init__" p2) [.Constant (.str msg) j p3] [] p4) p5 :: rest ∧ stC rest = some fs ∧ (p2.endLine == p4.line) = true ∧
    (params.posonlyargs ++ params.args).head? = some ar ∧ ar.arg = ("self" : Str) ∧
    (∃ (ccl : Value) (cdd : Option Addr) (vs : Array Value) (ccs : Array (Option Value)) (file : Str) (tf : Tok), K.lookup cda = some ⟨ccl, cdd, .fields vs, ccs⟩ ∧ vs[2]? = some (.str file tf) ∧ ((P.main.file : Str) == file) = true) ∧
    (∃ (cl : Value) (cld : Option Addr) (csl : Array (Option Value)), K.lookup cc = some ⟨cl, cld, .cell (some (.ref C)), csl⟩)
/-- what it promises -/
def spInit (C : Addr) (fs : List Str) : Sp := fun vs H Q _ => ∃ (a : Addr) (ws : List V), vs = .ref a :: ws ∧ ws.length = fs.length ∧ H a = some (exo a C none) ∧
  ((fs = [] ∧ Q .non H) ∨ (fs ≠ [] ∧ ∀ dx H', H dx = none → dx ≠ a → H' a = some (exo a C (some dx)) → H' dx = some (exd dx (fs.zip ws).reverse) → (∀ b, b ≠ dx → b ≠ a → H' b = H b) → Q .non H'))
theorem sup_hc {p0 p1 p2 p3 p4 : Pos} {msg : Str} {j : Nat} {env : Env} (hl : (p2.endLine == p4.line) = true) : eval (.Call (.Attribute (.Call (.Name "super" p0) [] [] p1) "__init__" p2) [.Constant (.str msg) j p3] [] p4) env = (do
      let ov ← attributeBase (.Call (.Name "super" p0) [] [] p1) "__init__" env (eval (.Call (.Name "super" p0) [] [] p1) env)
      standAt p2.atName
      let (f, first) ← holding [ov] (getMethod ov "__init__" (do return (← importBound (.Call (.Name "super" p0) [] [] p1) env).getD true))
      callWith p4 f first (backTo p4 (starEach [.Constant (.str msg) j p3] env)) []) := by
  have e1 : methodCallPos true (.Call (.Name "super" p0) [] [] p1) env p2 p4 = pure p4 := by
    unfold methodCallPos
    simp [hl]
  show (do
    let ov ← attributeBase (.Call (.Name "super" p0) [] [] p1) "__init__" env (eval (.Call (.Name "super" p0) [] [] p1) env)
    standAt p2.atName
    let (f, first) ← holding [ov] (calleeOf true (.Call (.Name "super" p0) [] [] p1) env ov "__init__")
    let callPos ← methodCallPos true (.Call (.Name "super" p0) [] [] p1) env p2 p4
    callWith callPos f first (backTo p4 (starEach [.Constant (.str msg) j p3] env)) []) = _
  rw [e1]
  rfl
theorem fn_init {CX : CXT} {P : Program} {w : World} {K : PySem.W.Frag} {mg : Str → Option Value} {base : Heap} {C : Addr} {B newId initId : String} {bmB : List Value} {f : Addr} {fd : FuncData} {fs : List Str} (F : InitF P K mg C B newId initId bmB f fd fs) :
    FnOk P w K mg base CX 1 f fd (pN fs) (spInit C fs) := by
  refine ⟨fun vs H Q E h => ?_, fun A outer s H args us vs Q E hr e0 hb r hsp => ?_⟩
  · obtain ⟨a, ws, rfl, hl, _⟩ := h
    simp [hl, pN]
  obtain ⟨name, qual, params, body, rest, scope, cc, cda, dV, kV, doc, pm, ct, oc, an, od, osl, p0, p1, p2, p3, p4, p5, msg, j, ar, rfl, lk, hcd, S, hks, rfl, hst, hln, har, harg, ⟨ccl, cdd, vs0, ccs, file, tf, c2, c3, c4⟩, ⟨cl, cld, csl, g2⟩⟩ := F.fn
  obtain ⟨a, ws, rfl, hwl, hea, hq⟩ := hsp
  have KX : K.In s.heap := e0.mod.kin.keeps fun b o e => (e0.bs b o e).1
  have lim : s.heap.NoLimit := e0.mod.nolimit.keeps fun b o e => (e0.bs b o e).1
  have hccn : H cc = none := (e0.bs _ _ (e0.mod.kin _ _ g2)).2
  obtain ⟨cdC, hcdC, _⟩ := PySem.W.any_some F.T.over
  let NFv : NF := ⟨name, qual, params, .Expr (.Call (.Attribute (.Call (.Name "super" p0) [] [] p1) "__init__" p2) [.Constant (.str msg) j p3] [] p4) p5 :: rest, scope, [("__class__", cc)], cda⟩
  have hCl : CellsAt NFv.cl ["__class__"] [none] s.heap H := by
    refine ⟨rfl, fun y c e => ?_, fun x y c e1 e2 => ?_, fun i y e => ?_⟩
    · have e' : List.lookup y [(("__class__" : Str), cc)] = some c := e
      by_cases hy : y = ("__class__" : Str)
      · subst hy
        simp [List.lookup] at e'
        subst e'
        exact ⟨hccn, _, ⟨_, KX _ _ g2, rfl⟩⟩
      · have : (y == ("__class__" : Str)) = false := by simpa using hy
        simp [List.lookup, this] at e'
    · have k : ∀ {z : Str}, List.lookup z [(("__class__" : Str), cc)] = some c → z = ("__class__" : Str) := fun {z} e => by
        by_cases hy : z = ("__class__" : Str)
        · exact hy
        · have : (z == ("__class__" : Str)) = false := by simpa using hy
          simp [List.lookup, this] at e
      rw [k e1, k e2]
    · cases i with
      | zero =>
        simp at e
        subst e
        exact ⟨cc, by simp [NFv, List.lookup], fun v hv => by simp at hv⟩
      | succ i => simp at e
  have hlv : (V.ref a :: ws).length = (pN fs).length := by simp [hwl, pN]
  have kN : ∀ y ∈ (pN fs).zip us, scope.names.lookup y.1 = some .local := fun ⟨n, _⟩ hy => S.par n (List.of_mem_zip hy).1
  refine ks_codeAny_call_defAt (binds := (pN fs).zip us) hr.depth (KX _ _ lk) rfl lim (PySem.W.codeRec_of KX hcd) rfl hb S.nocell kN (fun h₁ hns hk₁ => ?_) S.co S.gen S.kind
  have I : Inv (ncx CX P w K mg base (nN fs) NFv f A outer s H E) [] (startF (nN fs) (.ref a :: ws) [none]) H { s with heap := h₁, toks := s.toks + ((pN fs).zip us).length } :=
    inv_startN S hr.hd e0 hlv r hCl hns hk₁
  have hself : (nN fs)[0]? = some ("self" : Str) := rfl
  have hsl : scope.names.lookup ("self" : Str) = some .local := S.par _ (by simp [pN])
  have SFp : SupF (ncx CX P w K mg base (nN fs) NFv f A outer s H E) C "self" := ⟨hks, S.frk _ (by simp), hsl, ⟨f, _, _, _, _, ar, rfl, lk, har, harg⟩, ⟨cda, _, _, vs0, _, file, tf, rfl, c2, c3, c4⟩, ⟨cc, _, _, _, by
    show List.lookup ("__class__" : Str) [(("__class__" : Str), cc)] = some cc
    simp [List.lookup], g2⟩, ⟨cdC, hcdC⟩, F.hm, F.top, F.opq⟩
  have h0 : (startF (nN fs) (.ref a :: ws) [none])[0]? = some (some (V.ref a)) := rfl
  refine ks_wpAt_execs_cons ?_
  refine sup_run (X := ncx CX P w K mg base (nN fs) NFv f A outer s H E) (D := fun H1 => H1 = H) (ta := tCons (tC (.str msg)) tNil) F.T SFp I hea hself h0 F.sup (pa_cons pe_str pa_nil) ⟨by simp, hea, rfl⟩ (fun s' H1 J hd => ?_) e0.frf (sup_hc hln) (by
    show (scope.kind == .module && _) = false
    rw [S.kind]
    rfl)
  obtain rfl : H1 = H := hd
  have slot : ∀ (j : Nat) (v : V), ws[j]? = some v → (startF (nN fs) (.ref a :: ws) [none])[1 + j]? = some (some v) := fun j v hj => by
    have hlt : j < ws.length := (List.getElem?_eq_some_iff.mp hj).1
    unfold startF
    rw [List.map_cons, List.cons_append, Nat.add_comm, List.getElem?_cons_succ, List.getElem?_append_left (by rw [List.length_map]; exact hlt), List.getElem?_map, hj]
    rfl
  have ht := stC_ok (X := ncx CX P w K mg base (nN fs) NFv f A outer s H1 E) F.T hself hsl (i := 1) hst fun j x hj => by
    have hm : x ∈ fs := List.mem_of_getElem? hj
    have hlt : j < fs.length := (List.getElem?_eq_some_iff.mp hj).1
    obtain ⟨n1, n2, n3⟩ := F.noat x hm
    refine ⟨?_, S.par x (by simp [pN, hm]), n1, n2, n3⟩
    show (nN fs)[1 + j]? = some x
    unfold nN pN
    rw [List.cons_append, Nat.add_comm, List.getElem?_cons_succ, List.getElem?_append_left hlt, hj]
  have hqq : tSts C 1 fs { nx := fun _ H' => Q .non H', rt := Q } (startF (nN fs) (.ref a :: ws) [none]) H1 := by
    rcases hq with ⟨rfl, hq⟩ | ⟨hne, hq⟩
    · exact hq
    · cases fs with
      | nil => exact absurd rfl hne
      | cons x fr =>
        cases ws with
        | nil => simp at hwl
        | cons v wr =>
          have few := F.few
          rw [List.length_cons] at few
          refine ⟨v, slot 0 v rfl, .ref a, h0, a, rfl, .inl ⟨hea, fun dx hdx ne => ?_⟩⟩
          refine tSts_run (fs := fr) (ws := wr) (i := 2) (dx := dx) (ds := [(x, v)]) h0 (by simpa using hwl.symm) (by rw [List.length_singleton]; omega) (fun j v hj => ?_) ?_ ?_ ne fun H' k1 k2 k3 => hq dx H' hdx ne k1 ?_ fun b hb hba => ?_
          · have := slot (j + 1) v (by simpa using hj)
            rw [show 1 + (j + 1) = 2 + j by omega] at this
            exact this
          · rw [upd_same]
          · rw [upd_ne ne, upd_same]
          · rw [k2]
            simp
          · rw [k3 b hb, upd_ne hba, upd_ne hb]
  refine wpAt_of_wpAny ?_
  refine wpAny_mono (ht.run [] s' _ H1 _ J hqq) (fun fl s2 hs => ?_) fun e s2 hs => hs
  have fin : ∀ {σ' : L2.St} {H' : Hp} {v : V} {u : Value}, Inv (ncx CX P w K mg base (nN fs) NFv f A outer s H1 E) [] σ' H' s2 → RelV v u → Q v H' → CE outer P w H1 s Q u s2 :=
    fun {σ' H' v u} J rv q => ⟨v, H', J.os, J.bare, J.base, J.hok, rv, q⟩
  cases fl with
  | ret u =>
    obtain ⟨v, σ', H', J, rv, q⟩ := hs
    exact fin J rv q
  | next =>
    obtain ⟨σ', H', J, q⟩ := hs
    exact fin (v := V.non) (u := Value.none) J rfl q
  | brk =>
    obtain ⟨_, _, _, q⟩ := hs
    exact False.elim q
  | cont =>
    obtain ⟨_, _, _, q⟩ := hs
    exact False.elim q
end Xb
set_option Elab.async false
set_option linter.all false
set_option maxRecDepth 100000
set_option maxHeartbeats 2000000
/-! Pk: keywords in another order -/
namespace Mi
open PySem L2
def pickL {α : Type} (n : Nat) (xs : List α) : List Nat → List α
  | [] => []
  | i :: pm => match xs[n + i]? with
    | some x => x :: pickL n xs pm
    | none => pickL n xs pm
def permL {α : Type} (na : Nat) (pm : List Nat) (xs : List α) : List α := xs.take na ++ pickL na xs pm
theorem vals_getP : ∀ {xs : List V} {us : List Value} (j : Nat), Vals xs us → (xs[j]? = none ∧ us[j]? = none) ∨ ∃ x u, xs[j]? = some x ∧ us[j]? = some u ∧ RelV x u
  | _, _, j, .nil => .inl (by simp)
  | _, _, 0, .cons r _ => .inr ⟨_, _, rfl, rfl, r⟩
  | _, _, j + 1, .cons _ s => by simpa using vals_getP j s
theorem vals_pickP {xs : List V} {us : List Value} (r : Vals xs us) (n : Nat) : ∀ pm : List Nat, Vals (pickL n xs pm) (pickL n us pm)
  | [] => .nil
  | i :: pm => by
    have ih := vals_pickP r n pm
    unfold pickL
    rcases vals_getP (n + i) r with ⟨h1, h2⟩ | ⟨x, u, h1, h2, h3⟩
    · rw [h1, h2]
      exact ih
    · rw [h1, h2]
      exact .cons h3 ih
theorem vals_takeP : ∀ {xs : List V} {us : List Value} (n : Nat), Vals xs us → Vals (xs.take n) (us.take n)
  | _, _, 0, _ => .nil
  | _, _, _ + 1, .nil => .nil
  | _, _, n + 1, .cons r s => .cons r (vals_takeP n s)
theorem vals_perm {xs : List V} {us : List Value} (n : Nat) (pm : List Nat) (r : Vals xs us) : Vals (permL n pm xs) (permL n pm us) := (vals_takeP n r).append (vals_pickP r n pm)
end Mi
set_option Elab.async false
set_option linter.all false
set_option maxRecDepth 100000
set_option maxHeartbeats 4000000
/-! Kw: an own exception class called with keywords -/
namespace PySem.XbK
open PySem PySem.Spec PyProof.Rows PySem.W PySem.Calls PySem.HandSPX
section
variable {M : Model} {A : Around} {E : Value → Shared → Prop} {h : Heap} {g : Array GenState} {d : Drawn} {t : Nat} {os : OsState}
variable {nm q : Str} {C N : Addr} {bs bm bmB : List Value} {hdct : Bool} {sn : List Str} {sub : List Value} {ab : Bool} {col : Option Bool} {dd : Option Addr} {k0 k1 k2 k3 k5 : Option Value} {B newId initId : String}
theorem ckNewKw (F : ExcBaseFacts B newId initId bmB) (hT : ∀ X : String, bm.contains (.type X) = bmB.contains (.type X)) {rest : List Value} {kw : List (Str × Value)} {Q : Unit → Shared → Prop}
    (hC : h.get? C = some (excClassObj nm q C N bs bm hdct sn sub ab col dd k0 k1 k2 k3 k5 newId)) (hq : Q () ⟨h, g, d, t, os⟩) : wpAny M A (checkBuiltinCall newId ⟨.ref C :: rest, kw⟩) Q E ⟨h, g, d, t, os⟩ := by
  have hcont : (Value.ref C :: bm).contains (.type B) = true := by rw [List.contains_cons, hT, F.hasB, Bool.or_true]
  have hstar := F.noStar
  simp only [checkBuiltinCall, F.newKind, F.newSplit, F.newRow]
  repeat (first | refine wpAny_loadPart_at hC ?_ | (refine wpAny_isSubtype_exc hC ?_; rw [hcont]) | refine wpAny_staticBase_exc hC ?_ | refine wpAny_madeBy_exc hC ?_ | simp only [bne_self_eq_false, Bool.false_eq_true, if_false] | wp_step)
  exact hq
end
section
variable {prog : Program} {w : World} {A : Around} {E : Value → Shared → Prop} {R : Result → Shared → Prop} {h : Heap} {g : Array GenState} {d : Drawn} {t : Nat} {os : OsState}
variable {nm q : Str} {C N : Addr} {bs bm bmB : List Value} {hdct : Bool} {sn : List Str} {sub : List Value} {ab : Bool} {col : Option Bool} {dd : Option Addr} {k0 k1 k2 k3 k5 : Option Value} {B newId initId : String}
theorem newKw (F : ExcBaseFacts B newId initId bmB) (hT : ∀ X : String, bm.contains (.type X) = bmB.contains (.type X)) {rest : List Value} {kw : List (Str × Value)}
    (hC : h.get? C = some (excClassObj nm q C N bs bm hdct sn sub ab col dd k0 k1 k2 k3 k5 newId))
    (hq : R (.ok (.ret (.ref (h.objs.size + 1)))) ⟨(h.push { cls := .type "tuple", data := .seq rest.toArray }).push
      { cls := .ref C, data := .fields #[.ref h.objs.size, .none, .none, .none, .bool false, .none] }, g, d, t, os⟩) (hrest : rest.length ≤ sizeLine) :
    codeAny (model prog w) A (.builtin newId ⟨.ref C :: rest, kw⟩) R ⟨h, g, d, t, os⟩ := by
  have hends := F.ends
  have hcB : (Value.ref C :: bm).contains (.type B) = true := by rw [List.contains_cons, hT, F.hasB, Bool.or_true]
  have hcA : (Value.ref C :: bm).contains (.type "AttributeError") = false := by rw [List.contains_cons, hT, F.noAttr]; rfl
  have hcN : (Value.ref C :: bm).contains (.type "NameError") = false := by rw [List.contains_cons, hT, F.noName]; rfl
  refine codeAny_builtinAt F.entry ?_
  unfold Builtin.«BaseException.__new__»
  refine wpAt_bind ?_
  show wpAt _ _ _ (stack >>= _) _ _ _
  refine wpAt_bind (wpAt_stack fun p below => wpAt_of_wpAny ?_)
  wp_walk
  refine wpAt_of_wpAny ?_
  rw [F.owner]
  repeat (first | with_reducible refine wpAny_madeHere_exc F.canon hC ?_ | with_reducible refine wpAny_loadPart_at hC ?_ | (with_reducible refine wpAny_isSubtype_exc hC ?_; first | rw [hcB] | rw [hcA] | rw [hcN]) | wp_step)
  show R _ _
  rw [Heap.size_push]
  exact hq
theorem tcallKw (F : ExcBaseFacts B newId initId bmB) (hT : ∀ X : String, bm.contains (.type X) = bmB.contains (.type X)) {rest : List Value} {kw : List (Str × Value)} {fI : Addr} {Q : Fin → Shared → Prop}
    (hC : h.get? C = some (excClassObj nm q C N bs bm hdct sn sub ab col dd k0 k1 k2 k3 k5 newId))
    (hi : W.Looks (model prog w) h (typeLookup (.ref C) "__init__") (some (.ref fI))) (hb : ∀ self, W.Looks (model prog w) h (bindSpecial (.ref fI) self) (.ref fI, [self])) (hrest : rest.length ≤ sizeLine)
    (hq : codeAny (model prog w) A (.call (.ref fI) ⟨.ref (h.objs.size + 1) :: rest, kw⟩)
      (fun r s' => match r with | .ok (.ret v) => v = .none ∧ Q (.done (.ret (.ref (h.objs.size + 1)))) s' | .ok _ => False | .error e => E e s')
      ⟨(h.push (W.kdv_tup rest)).push (excO C h.objs.size), g, d, t, os⟩) :
    wpAny (model prog w) A (Builtin.«type.__call__» ⟨.ref C :: rest, kw⟩) Q E ⟨h, g, d, t, os⟩ := by
  repeat (first | with_reducible refine wpAny_loadPart_at hC ?_ | with_reducible refine wpAny_madeBy_exc hC ?_ | wp_step)
  refine codeAny_call_builtin_code (Code.quiet_builtin _ F.quiet) (ckNewKw F hT hC ?_)
  refine newKw F hT hC ?_ hrest
  show wpAny _ _ _ _ _ _
  have k : ∀ b o, h.get? b = some o → ((h.push (W.kdv_tup rest)).push (excO C h.objs.size)).get? b = some o := fun b o e => Heap.get?_push_of_some _ (Heap.get?_push_of_some _ e)
  have hC₁ := k _ _ hC
  have hget : ((h.push (W.kdv_tup rest)).push (excO C h.objs.size)).get? (h.objs.size + 1) = some (excO C h.objs.size) := by heap_get
  have hcC : (Value.ref C :: bm).contains (.ref C) = true := by simp
  have i1 := hi.keeps k
  have b1 := (hb (.ref (h.objs.size + 1))).keeps k
  unfold isInstance
  repeat (first | with_reducible refine wpAny_loadPart_at hget ?_ | (with_reducible refine wpAny_isSubtype_exc hC₁ ?_; rw [hcC]) | wp_step)
  show wpAny _ _ (typeLookup (.ref C) _) _ _ _
  refine i1.at ?_
  refine wpAny_holding (wpAny_bind (b1.at ?_))
  refine wpAny_bind (wpAny_call (codeAny_mono hq fun r s' z => ?_))
  rcases r with e | (v | _ | _ | _) <;> first | exact z | exact z.elim | skip
  obtain ⟨rfl, z⟩ := z
  first
    | exact wpAny_pure (wpAny_pure z)
    | (wp_walk; exact z)
theorem callKw (F : ExcBaseFacts B newId initId bmB) (hT : ∀ X : String, bm.contains (.type X) = bmB.contains (.type X)) {rest : List Value} {kw : List (Str × Value)} {fI : Addr}
    (hC : h.get? C = some (excClassObj nm q C N bs bm hdct sn sub ab col dd k0 k1 k2 k3 k5 newId))
    (hi : W.Looks (model prog w) h (typeLookup (.ref C) "__init__") (some (.ref fI))) (hb : ∀ self, W.Looks (model prog w) h (bindSpecial (.ref fI) self) (.ref fI, [self])) (hrest : rest.length ≤ sizeLine)
    (hq : codeAny (model prog w) (A.under (.builtin "type.__call__" ⟨.ref C :: rest, kw⟩)) (.call (.ref fI) ⟨.ref (h.objs.size + 1) :: rest, kw⟩) (W.InitBack (h.objs.size + 1) R)
      ⟨(h.push (W.kdv_tup rest)).push (excO C h.objs.size), g, d, t, os⟩) :
    codeAny (model prog w) A (.call (.ref C) ⟨rest, kw⟩) R ⟨h, g, d, t, os⟩ := by
  have f1 := tc_lookup
  have f2 := tc_bind (.ref C)
  have hTy : (⟨h, g, d, t, os⟩ : Shared).TypeIs (.ref C) "type" := ⟨_, hC, rfl⟩
  refine codeAny_of_tree ?_
  show wpAny _ _ (callAny (.ref C) _) _ _ _
  repeat (any_goals (first | assumption | with_reducible refine wpAny_loadPart_at hC ?_ | wp_step))
  refine ⟨rfl, ?_⟩
  refine codeAny_call_builtin_at (Code.quiet_builtin _ (by decide +kernel)) entry_typeCall (wpAny_check_type_call_sub hC (tcallKw F hT hC hi hb hrest ?_))
  refine codeAny_mono hq fun r s' z => ?_
  rcases r with e | (v | _ | _ | _) <;> exact z
end
end PySem.XbK
set_option Elab.async false
set_option linter.all false
set_option maxRecDepth 100000
set_option maxHeartbeats 4000000
/-! X5: C(e, ..), C an own exception class: as what is raised -/
namespace Xb
open PySem PySem.Spec PyProof.Rows L2 NdefX
/-- what the text and the written part say of such a class -/
def BndF (kos : List (List Str × List Nat)) (fd : FuncData) (fs : List Str) : Prop := (∀ us : List Value, us.length = (pN fs).length → bindArgs fd ⟨us, []⟩ = pure ((pN fs).zip us)) ∧
  ∀ q ∈ kos, ∀ (self : Value) (ws : List Value), ws.length = q.1.length → bindArgs fd ⟨[self], q.1.zip ws⟩ = pure ((pN fs).zip (self :: Mi.pickL 0 ws q.2))
structure ClsF (P : Program) (K : PySem.W.Frag) (mg : Str → Option Value) (C : Addr) (fs : List Str) (kos : List (List Str × List Nat)) : Prop where
  ex : ∃ (B newId initId : String) (bmB : List Value) (f : Addr) (fd : FuncData), InitF P K mg C B newId initId bmB f fd fs ∧ PySem.W.findIn K (.ref C) "__init__" = some (some (.ref f)) ∧ PySem.W.typeIn K (.ref f) = some (.type "function") ∧ BndF kos fd fs
/-- C(e, ..) -/
def tMkB (C : Addr) (fs : List Str) (ta : TA) : L2.St → Hp → XK → Prop := fun σ H Q => ta σ H fun vs H1 => vs.length = fs.length ∧
  ((fs = [] ∧ Q (.ref C) none H1) ∨ (fs ≠ [] ∧ ∀ d H', H1 d = none → (∀ b, b ≠ d → H' b = H1 b) → H' d = some (.xd (fs.zip vs).reverse) → Q (.ref C) (some d) H'))
section
variable {X : Cx} {e : Expr} {es : List Expr} {ta : TA} {p pos : Pos} {C : Addr} {fs : List Str}
/-- the end of C(): the exception is let go -/
theorem mk_endN {pins : List (Addr × Obj)} {σ : L2.St} {H1 H2 : Hp} {Q : XK} {hp hp2 h2 : Heap} {g1 g2 : Array GenState} {d1 d2 : Drawn} {t1 t2 : Nat} {os1 os2 : OsState} {a C : Addr} (T : Raises X (.ref C)) (I1 : Inv X pins σ H1 ⟨hp, g1, d1, t1, os1⟩)
    (ha : hp.objs.size ≤ a) (k : ∀ b o, hp.get? b = some o → hp2.get? b = some o) (un : Un (frs X.stack) [] (upd H1 a (exo a C none)) H2 hp2 h2) (hok : HOk X.prog X.w H2 h2) (ho : os2 = os1) (hb : AllBare g2)
    (e2 : H2 = upd H1 a (exo a C none)) (q : Q (.ref C) none H1) : MkP X pins σ Q (.ref a) ⟨h2, g2, d2, t2, os2⟩ := by
  subst e2
  have ea : upd H1 a (exo a C none) a = some (exo a C none) := upd_same
  obtain ⟨t0, hoe⟩ := exo_at hok ea
  have hn : H1 a = none := I1.hok.fresh ha
  obtain ⟨G, g1', g2'⟩ := restrict h2 fun b => decide (b ≠ a)
  have gk : ∀ b, b ≠ a → G.get? b = h2.get? b := fun b hb => g1' b (decide_eq_true hb)
  have ge : G.get? a = none := g2' a (by simp)
  have nha : ∀ {b : Addr} {o : Obj}, hp.get? b = some o → b ≠ a := fun {b o} z => Nat.ne_of_lt (Nat.lt_of_lt_of_le (Heap.lt_size z) ha)
  have up : ∀ {b : Addr}, b ≠ a → H1 b = none → upd H1 a (exo a C none) b = none := fun {b} hb n => by rw [upd_ne hb]; exact n
  have U : Un (frs X.stack) [] H1 H1 hp G := {
    keep := fun b o z n hf hx => by
      rw [gk b (nha z)]
      exact un.keep b o (k b o z) (up (nha z) n) hf hx
    slot := fun b o z n hf hx => by
      rw [gk b (nha z)]
      exact un.slot b o (k b o z) (up (nha z) n) hf hx
    free := fun b o z n hx => n
    there := fun b o z hx => by
      rw [gk b (nha z)]
      exact un.there b o (k b o z) hx
    tups := fun b xs z => z
    frzs := fun b o v z => z
    tbls := fun b ps z => ⟨#[], by rw [z]; simp⟩ }
  have hok3 : HOk X.prog X.w H1 G := fun b o z => by
    have hba : b ≠ a := fun e => by
      rw [e, hn] at z
      cases z
    have z2 : upd H1 a (exo a C none) b = some o := by
      rw [upd_ne hba]
      exact z
    have noa : ∀ {c : Addr}, upd H1 a (exo a C none) c = some (.own b) → c ≠ a := fun {c} hc => at_ne ea hc exo_own
    exact (hok b o z2).stay (fun c v hc y => by
        have hca : c ≠ a := by
          rcases hc with hc | hc
          · rw [hc]
            exact hba
          · exact noa hc
        rw [gk c hca]
        exact y)
      (fun c hc => by
        rw [upd_ne (noa hc)] at hc
        exact hc) (fun c xs hc => by
        rw [upd_ne (at_ne ea hc exo_tup)] at hc
        exact hc)
  have J : Inv X pins σ H1 ⟨G, g2, d2, t2, os2⟩ := I1.call' (ch := []) ho U hok3 hb (fun b z => absurd z (by simp))
  refine ⟨a, _, _, ⟨G, g2, d2, t2, os2⟩, H1, .ref C, none, rfl, J, fun b o z => ?_, ge, hoe, ⟨rfl, rfl⟩, rfl, rfl, hn, rfl, hb, T, q⟩
  by_cases hba : b = a
  · rw [hba, ge] at z
    cases z
  · exact (gk b hba).symm.trans z
/-- the call, behind its arguments -/
theorem run_mkG {us0 : List Value} {kw : List (Str × Value)} {kos : List (List Str × List Nat)} {pins : List (Addr × Obj)} {σ : L2.St} {H1 : Hp} {s1 : Shared} {us : List Value} {vs : List V} {Q : XK} (F : ClsF X.prog X.K X.mg C fs kos) (hr : Room 2 X.A) (I1 : Inv X pins σ H1 s1) (r1 : Vals vs us) (hl : vs.length = fs.length) (h0 : us0.length ≤ 1000) (hbd : ∀ fd, BndF kos fd fs → ∀ self, bindArgs fd ⟨self :: us0, kw⟩ = pure ((pN fs).zip (self :: us)))
    (q1 : (fs = [] ∧ Q (.ref C) none H1) ∨ (fs ≠ [] ∧ ∀ d H', H1 d = none → (∀ b, b ≠ d → H' b = H1 b) → H' d = some (.xd (fs.zip vs).reverse) → Q (.ref C) (some d) H')) :
    wpAny (model X.prog X.w) X.A (call (.ref C) us0 kw) (MkP X pins σ Q) X.xe s1 := by
  obtain ⟨B, newId, initId, bmB, fI, fd, IF, iC, tI, hbind⟩ := F.ex
  have T := IF.T
  obtain ⟨nm, N', qn, bs, bm, hdct, sn, sub, ab, col, dd, k0, k1, k2, k3, k5, hC, hT⟩ := PySem.W.excInit_of I1.kIn T.cls
  have few := IF.few
  obtain ⟨hp, g, dr, tk, os⟩ := s1
  have hsz : hp.objs.size ≤ hp.objs.size + 1 := Nat.le_succ _
  have hn : H1 (hp.objs.size + 1) = none := I1.hok.fresh hsz
  have kk : ∀ b o, hp.get? b = some o → ((hp.push (PySem.W.kdv_tup us0)).push (PySem.HandSPX.excO C hp.objs.size)).get? b = some o := fun b o e => Heap.get?_push_of_some _ (Heap.get?_push_of_some _ e)
  have hget : ((hp.push (PySem.W.kdv_tup us0)).push (PySem.HandSPX.excO C hp.objs.size)).get? (hp.objs.size + 1) = some (PySem.HandSPX.excO C hp.objs.size) := by heap_get
  have I2 : Inv X pins σ (upd H1 (hp.objs.size + 1) (exo (hp.objs.size + 1) C none)) ⟨(hp.push (PySem.W.kdv_tup us0)).push (PySem.HandSPX.excO C hp.objs.size), g, dr, tk, os⟩ :=
    I1.laid (t' := tk) (a := hp.objs.size + 1) (o := exo (hp.objs.size + 1) C none) (h' := (hp.push (PySem.W.kdv_tup us0)).push (PySem.HandSPX.excO C hp.objs.size)) kk hsz (exo_ok hget)
  have r2 : Vals (V.ref (hp.objs.size + 1) :: vs) (Value.ref (hp.objs.size + 1) :: us) := .cons rfl r1
  have hul : (Value.ref (hp.objs.size + 1) :: us).length = (pN fs).length := by
    rw [← r2.length]
    simp [pN, hl]
  have hus : us0.length ≤ sizeLine := by
    rw [sizeLine_eq]
    omega
  let a := hp.objs.size + 1
  let Q2 : VK := fun v H2 => v = .non ∧ ((fs = [] ∧ H2 = upd H1 a (exo a C none)) ∨ (fs ≠ [] ∧ ∃ d, d ≠ a ∧ H1 d = none ∧ H2 a = some (exo a C (some d)) ∧ H2 d = some (exd d (fs.zip vs).reverse) ∧ ∀ b, b ≠ d → b ≠ a → H2 b = H1 b))
  have hsp : spInit C fs (V.ref a :: vs) (upd H1 a (exo a C none)) Q2 (fun _ _ _ => False) := by
    refine ⟨a, vs, rfl, hl, upd_same, ?_⟩
    by_cases hf : fs = []
    · exact .inl ⟨hf, rfl, .inl ⟨hf, rfl⟩⟩
    · refine .inr ⟨hf, fun dx H' hdx ne k1 k2 k3 => ⟨rfl, .inr ⟨hf, dx, ne, ?_, k1, k2, fun b hb hba => ?_⟩⟩⟩
      · rw [upd_ne ne] at hdx
        exact hdx
      · rw [k3 b hb hba, upd_ne hba]
  have FI := fn_init (CX := L2.CX X.prog X.w) (w := X.w) (base := X.base) IF
  refine wpAny_call (PySem.XbK.callKw T.F (fun Y => hT Y) hC (PySem.W.looks_findIn I1.kIn iC) (fun self => PySem.W.bind_fn I1.kIn self tI) hus
    (codeAny_mono (FI.run _ X.stack _ _ ⟨Value.ref a :: us0, kw⟩ (Value.ref a :: us) _ _ (fun _ _ _ => False) (hr.make C us0 kw) (I2.env0.make C us0 kw) (.of_eq (hbd _ hbind _)) r2 hsp) fun r s' hq' => ?_))
  cases r with
  | error er =>
    obtain ⟨_, _, _, _, _, _, _, _, _, _, _, _, z⟩ := hq'
    exact z.elim
  | ok fl =>
    cases fl with
    | ret u =>
      obtain ⟨v, H2, os2, bare2, un2, hok2, rv, ev, q2⟩ := hq'
      subst ev
      obtain ⟨h2, g2, d2, t2, os'⟩ := s'
      refine ⟨rv, ?_⟩
      have TR : Raises X (.ref C) := raises_own T.exC T.tyC
      rcases q2 with ⟨hf, e2⟩ | ⟨hf, d, hda, hd1, ea, ed, hoth⟩
      · rcases q1 with ⟨_, q⟩ | ⟨h1, _⟩
        · exact mk_endN TR I1 hsz kk un2 hok2 os2 bare2 e2 q
        · exact absurd hf h1
      · rcases q1 with ⟨h1, _⟩ | ⟨_, q⟩
        · exact absurd h1 hf
        · refine mk_end TR I1 hsz kk un2 hok2 os2 bare2 ea ed hd1 (q d _ hd1 (fun b hb => ?_) upd_same)
          rw [upd_ne hb]
          by_cases hba : b = a
          · rw [hba, del_same]
            exact hn.symm
          · rw [del_ne hba]
            exact hoth b hb hba
    | next => exact False.elim hq'
    | brk => exact False.elim hq'
    | cont => exact False.elim hq'
theorem run_mkB {pins : List (Addr × Obj)} {σ : L2.St} {H1 : Hp} {s1 : Shared} {us : List Value} {vs : List V} {Q : XK} {kos : List (List Str × List Nat)} (F : ClsF X.prog X.K X.mg C fs kos) (hr : Room 2 X.A) (I1 : Inv X pins σ H1 s1) (r1 : Vals vs us) (hl : vs.length = fs.length)
    (q1 : (fs = [] ∧ Q (.ref C) none H1) ∨ (fs ≠ [] ∧ ∀ d H', H1 d = none → (∀ b, b ≠ d → H' b = H1 b) → H' d = some (.xd (fs.zip vs).reverse) → Q (.ref C) (some d) H')) :
    wpAny (model X.prog X.w) X.A (call (.ref C) us) (MkP X pins σ Q) X.xe s1 := by
  have few : fs.length ≤ 800 := by
    obtain ⟨_, _, _, _, _, _, IF, _⟩ := F.ex
    exact IF.few
  have hu : us.length = fs.length := by rw [← r1.length]; exact hl
  exact run_mkG (us0 := us) (kw := []) F hr I1 r1 hl (by omega) (fun fd hb self => hb.1 _ (by simp [pN, hu])) q1
theorem pmk_B {x : Str} {kos : List (List Str × List Nat)} (F : ClsF X.prog X.K X.mg C fs kos) (hr : Room 2 X.A) (hg : Gl X x) (hm : X.mg x = some (.ref C)) (ha : PA X (e :: es) ta)
    (hdb : (x == ("__debug__" : Str)) = false) (he : starEach (e :: es) X.env = (false, eval e X.env) :: starEach es X.env) (hpl : (backTo pos (starEach es X.env)).any (·.1) = false) :
    PMk X (.Call (.Name x p) (e :: es) [] pos) (tMkB C fs ta) := by
  intro pins s σ H Q I h
  have kC : PySem.W.keepIn X.K (.ref C) = true := by
    obtain ⟨_, _, _, _, _, _, IF, _⟩ := F.ex
    exact IF.T.kC
  refine wpAny_Call_Name_kw (ld_glob I hg hm ?_ hdb)
  refine PySem.W.callWith_K (h₀ := X.base) I.ok.mod.kin kC (thn (ha.run pos pins s σ H _ I h) fun us s1 ⟨vs, H1, I1, r1, hz, q1⟩ => ⟨I1.kIn, ?_⟩) he hpl
  exact run_mkB F hr I1 r1 hz q1
theorem pmk_B0 {x : Str} {kos : List (List Str × List Nat)} (F : ClsF X.prog X.K X.mg C fs kos) (hr : Room 2 X.A) (hg : Gl X x) (hm : X.mg x = some (.ref C)) (hdb : (x == ("__debug__" : Str)) = false) :
    PMk X (.Call (.Name x p) [] [] pos) (tMkB C fs tNil) := by
  intro pins s σ H Q I h
  have kC : PySem.W.keepIn X.K (.ref C) = true := by
    obtain ⟨_, _, _, _, _, _, IF, _⟩ := F.ex
    exact IF.T.kC
  obtain ⟨hz, q1⟩ := h
  refine wpAny_Call_Name_kw (ld_glob I hg hm ?_ hdb)
  exact PySem.W.callWith_K0 I.kIn kC (run_mkB F hr I .nil hz q1)
theorem pmk_K {x : Str} {kos : List (List Str × List Nat)} {ko : List Str} {pm : List Nat} {kws : List Keyword} (F : ClsF X.prog X.K X.mg C fs kos) (hr : Room 2 X.A) (hg : Gl X x) (hm : X.mg x = some (.ref C)) (hkw : PK X kws ta)
    (hall : (backToKw pos (keywordEach kws X.env)).all (·.1.isSome) = true) (hall2 : (backToKw pos (keywordEach kws X.env)).any (·.1.isNone) = false) (hks : (backToKw pos (keywordEach kws X.env)).filterMap (·.1) = ko) (hq : (ko, pm) ∈ kos) (hdb : (x == ("__debug__" : Str)) = false) :
    PMk X (.Call (.Name x p) [] kws pos) (tMkB C fs fun σ H Q => ta σ H fun vs H1 => vs.length = ko.length ∧ Q (Mi.pickL 0 vs pm) H1) := by
  intro pins s σ H Q I h
  have kC : PySem.W.keepIn X.K (.ref C) = true := by
    obtain ⟨_, _, _, _, _, _, IF, _⟩ := F.ex
    exact IF.T.kC
  refine wpAny_Call_Name_kw (ld_glob I hg hm ?_ hdb)
  refine PySem.W.callWith_KW0 (h₀ := X.base) I.ok.mod.kin kC hall (thn (hkw.run pos pins s σ H _ I h) fun ws s1 ⟨vs, H1, I1, r1, hl, hz, q1⟩ => ⟨I1.kIn, ?_⟩) (by rw [hall2]; rfl)
  rw [hks]
  have hwl : ws.length = ko.length := by rw [← r1.length]; exact hl
  exact run_mkG (us0 := []) (us := Mi.pickL 0 ws pm) F hr I1 (Mi.vals_pickP r1 0 pm) hz (by simp) (fun fd hb self => hb.2 _ hq self ws hwl) q1
end
end Xb
set_option Elab.async false
set_option linter.all false
set_option maxRecDepth 100000
set_option maxHeartbeats 4000000
/-! X6: try .. except C as n, the exception tracked, so that it may be kept -/
namespace Xb
open PySem PySem.Spec PyProof.Rows L2
def exwv (a : Addr) (cls : Value) (d : Option Addr) : HO := .ext fun h => ∃ (oe : Obj) (fv : Array Value), h.get? a = some oe ∧ oe.cls = cls ∧ oe.dict = d ∧ oe.data = .fields fv
theorem exwv_ok {P : Program} {w : World} {H : Hp} {h : Heap} {a : Addr} {cls : Value} {d : Option Addr} {oe : Obj} {fv : Array Value} (e : h.get? a = some oe) (z : Zc cls d oe) (hd : oe.data = .fields fv) : ObjOk P w H h a (exwv a cls d) :=
  ⟨⟨oe, fv, e, z.1, z.2, hd⟩, ⟨oe, e⟩, fun _ _ ⟨o, v, q, r⟩ k => ⟨o, v, k o q, r⟩⟩
section
variable {X : Cx} {pins : List (Addr × Obj)} {σ : L2.St} {H : Hp} {s : Shared}
theorem Inv.track {a : Addr} {cls : Value} {d : Option Addr} {oe : Obj} {fv : Array Value} (I : Inv X pins σ H s) (ha : s.heap.get? a = some oe) (hz : Zc cls d oe) (hd : oe.data = .fields fv) (na : H a = none) (nL : a ≠ X.env.locals)
    (n0 : X.s_0.heap.get? a = none) (np : ∀ p ∈ X.pn ++ pins, p.1 ≠ a) : Inv X pins σ (upd H a (exwv a cls d)) s := by
  have nc : ∀ x c, X.env.cells.lookup x = some c → c ≠ a := fun x c e z => by
    obtain ⟨v, o, ho, hdc⟩ := I.cell x c e
    rw [z, ha] at ho
    cases ho
    rw [hd] at hdc
    cases hdc
  refine ⟨I.ok, I.os, I.bare, ⟨I.base.keep, I.base.slot, fun b o e n hx => ?_, I.base.there, fun b xs e => ?_, fun b o u e => ?_, fun b ps e => ?_⟩, I.loc, I.cell, ?_, fun x c e => ?_, fun p hp => ?_, fun b o e => ?_, I.len⟩
  · have hb : b ≠ a := fun z => by
      rw [z, n0] at e
      cases e
    rw [upd_ne hb]
    exact I.base.free b o e n hx
  · have q := I.base.tups b xs e
    rw [upd_ne (ne_of_none q na)]
    exact q
  · have q := I.base.frzs b o u e
    rw [upd_ne (ne_of_none q na)]
    exact q
  · obtain ⟨m, q⟩ := I.base.tbls b ps e
    exact ⟨m, by rw [upd_ne (ne_of_none q na)]; exact q⟩
  · rw [upd_ne (Ne.symm nL)]
    exact I.free
  · rw [upd_ne (nc x c e)]
    exact I.freeC x c e
  · obtain ⟨e, n, r⟩ := I.pin p hp
    exact ⟨e, by rw [upd_ne (np p hp)]; exact n, r⟩
  · by_cases hb : b = a
    · subst hb
      rw [upd_same] at e
      cases e
      exact exwv_ok ha hz hd
    · rw [upd_ne hb] at e
      exact (I.hok b o e).stay (fun c v _ q => q) (fun c q => by rw [upd_ne (ne_of_none q na)]; exact q) fun c xs q => by rw [upd_ne (ne_of_none q na)]; exact q
theorem Inv.toSuite (I : Inv X pins σ H s) (a : Addr) : Inv (X.suite a (X.pn ++ pins)) [] σ H s :=
  ⟨I.ok.suite _ _, I.os, I.bare, I.base, I.loc, I.cell, I.free, I.freeC, fun p hp => I.pin p (by rw [List.append_nil] at hp; exact hp), I.hok, I.len⟩
theorem Inv.ofSuite {a : Addr} {pn' : List (Addr × Obj)} (I : Inv (X.suite a (X.pn ++ pins)) pn' σ H s) (ok : X.Ok) : Inv X pins σ H s :=
  ⟨ok, I.os, I.bare, I.base, I.loc, I.cell, I.free, I.freeC, fun p hp => I.pin p (List.mem_append_left _ hp), I.hok, I.len⟩
end
/-- what the clause 'except x as n' wishes of an exception of the body: slot i is n's -/
def wAsT (K : PySem.W.Frag) (c : Value) (i : Nat) (ts : TS) (Wout : WX) (D : Ends) : WX := fun cls d σ H =>
  ∃ b, PySem.W.exmOne K cls c = some b ∧ (b = true → ∀ a, H a = none → ts { nx := fun σ' H' => D.nx (σ'.set i none) H', rt := D.rt, bk := fun σ' H' => D.bk (σ'.set i none) H', ct := fun σ' H' => D.ct (σ'.set i none) H' } (σ.set i (some (.ref a))) (upd H a (exwv a cls d))) ∧
    (b = false → Wout cls d σ H)
section
variable {X : Cx} {x n : Str} {c : Value} {i : Nat} {body suite : List Stmt} {b₀ : Stmt} {np pos pos' : Pos} {tb : WX → TS} {ts : TS} {Wout : WX}
theorem ps_try_asT (hex : X.ex = []) (hs : X.stack = X.env :: X.outer) (hf : X.env.frame = some X.env.locals) (hN : X.N.Nodup) (hi : X.N[i]? = some n) (hln : X.env.kindOf n = some .local) (hc : Names X x c) (tk : Takes X Wout)
    (hb : ∀ (W : WX) (pn : List (Addr × Obj)) (xe : Value → Shared → Prop), Takes (X.tr pn xe) W → PassesOwn (model X.prog X.w) X.A X.env xe → PSs (X.tr pn xe) body (tb W))
    (hsu : ∀ (a : Addr) (pn : List (Addr × Obj)), PSs (X.suite a pn) (b₀ :: suite) ts) :
    PS X (.Try body [.ExceptHandler (some (.Name x np)) (some n) (b₀ :: suite) pos'] [] [] pos) (fun D σ H => tb (wAsT X.K c i ts Wout D) D σ H) := by
  refine ⟨fun pins s σ H D I h => ?_⟩
  have ok := I.ok
  have hfr : X.A.frames = some (X.env :: X.outer) := by rw [ok.frames, hs]
  have hloc : Loc X.env.scope n := .inl hln
  refine wpAny_Try_except ?_
  refine wpAny_mono ((hb (wAsT X.K c i ts Wout D) (X.pn ++ pins) (fun e s₁ => wpAny (model X.prog X.w) X.A (noteFrame e X.env) (fun _ s₂ => wpAny (model X.prog X.w) X.A (setFlight e none) (fun _ s₃ =>
    wpAny (model X.prog X.w) X.A (handleBy e X.env [.ExceptHandler (some (.Name x np)) (some n) (b₀ :: suite) pos']) (SP X pins D) X.xe s₃) X.xe s₂) X.xe s₁) (fun u s' xx => ?_) PassesOwn.looking).run [] s σ H D (I.toTry _) h) (fun f s1 hsp => ?_) (fun e s1 he => he)
  · -- the catch
    obtain ⟨a, B, sI, pins', σ', H', cls, d, rfl, J', nb, up, sky, na, os, ag, b, hb1, hyes, hno⟩ := xx
    have J : Inv X pins σ' H' sI := J'.ofTry ok
    have sky' : Sky B (X.env :: X.outer) a (Zc cls d) X.env.locals s'.heap := by rw [← hs]; exact sky
    show wpAny (model X.prog X.w) X.A (noteFrame (.ref a) X.env) _ _ _
    refine Sky.land Zc.steady hfr hf sky' fun h3 fl3 up3 => ?_
    have J3 : Inv X pins σ' H' { s' with heap := h3 } := J.landed nb fl3.1 (up.trans up3) os ag
    obtain ⟨oe3, vs3, he3, hz3, hd3⟩ := fl3.there
    have notFr : ∀ {h : Heap} {o : Obj} {vs : Array Value}, h.FunFrames B (X.env :: X.outer) → h.get? a = some o → o.data = .fields vs → a ∉ frs (X.env :: X.outer) := fun {h o vs} ff e dd hm => by
      obtain ⟨_, o', e', hnf⟩ := ff.mem hm
      rw [e] at e'; cases e'
      exact hnf _ dd
    have nfr := notFr fl3.2.2.1 he3 hd3
    have nL : a ≠ X.env.locals := fun z => nfr (List.mem_filterMap.mpr ⟨X.env, List.mem_cons_self, by rw [hf, z]⟩)
    have Ba : B.get? a = none := fl3.2.1
    have stk : ∀ b, b ≠ X.env.locals → b ∉ X.fs → b ∉ frs X.stack := fun b h1 h2 hm => by
      rw [hs] at hm
      obtain ⟨e, he, q⟩ := List.mem_filterMap.mp hm
      rcases List.mem_cons.mp he with rfl | he
      · rw [hf] at q
        cases q
        exact h1 rfl
      · exact h2 (List.mem_filterMap.mpr ⟨e, he, q⟩)
    have nF : a ∉ X.fs := fun hm => by
      obtain ⟨e, he, q⟩ := List.mem_filterMap.mp hm
      exact nfr (List.mem_filterMap.mpr ⟨e, List.mem_cons_of_mem _ he, q⟩)
    have n0 : X.s_0.heap.get? a = none := by
      cases e : X.s_0.heap.get? a with
      | none => rfl
      | some o =>
        obtain ⟨o', q⟩ := J.base.there a o e (by rw [hex]; exact fun z => nomatch z)
        have := nb a o' q (stk a nL nF)
        rw [Ba] at this
        cases this
    have np' : ∀ p ∈ X.pn ++ pins, p.1 ≠ a := fun p hp z => by
      obtain ⟨q1, q2, q3, q4, q5⟩ := J.pin p hp
      have := nb p.1 _ q1 (stk p.1 q3 q4)
      rw [z, Ba] at this
      cases this
    have S3 := J3.suite he3 hd3 na nL nF
    refine wpAny_handleBy_cons (codeAny_handlers_test ?_) (by intro q; cases q)
    have LT : PySem.W.Looks (model X.prog X.w) h3 (typeOf (.ref a)) cls := fun A Q E s k q => wpAny_typeOf_ref (k _ _ he3) (by rw [hz3.1]; exact q)
    have LM := PySem.W.exm_one (M := model X.prog X.w) (J3.kIn) LT hb1
    have test : ∀ {Q : Value → Shared → Prop} {E : Value → Shared → Prop}, Q c { s' with heap := h3 } → wpAny (model X.prog X.w) (X.A.mark (some (.ref a))) (eval (.Name x np) X.env) Q E { s' with heap := h3 } := fun {Q E} q => by
      obtain ⟨hg, hdbg, hm | ⟨hm, hv, hnn⟩⟩ := hc
      · exact ld_glob (X := X.suite a ((a, oe3) :: (X.pn ++ pins))) S3 hg hm q hdbg
      · exact ld_blt (X := X.suite a ((a, oe3) :: (X.pn ++ pins))) S3 hg hm hv q hnn hdbg
    refine test (LM.here ?_)
    cases b with
    | true =>
      refine codeAny_handlers_suite_as ?_
      refine HandSPX.lands_againZ fl3 fun h4 fl4 up4 => ?_
      have J4 : Inv X pins σ' H' { s' with heap := h4 } := J.landed nb fl4.1 ((up.trans up3).trans up4) os ag
      obtain ⟨oe4, vs4, he4, hz4, hd4⟩ := fl4.there
      have S4 := Inv.toSuite (Inv.track J4 he4 hz4 hd4 na nL n0 np') a
      refine store_ok (X := X.suite a (X.pn ++ pins)) (v := .ref a) S4 hN hi hloc rfl (fun s5 S5 => ?_) (.inr hln)
      refine wpAny_mono ((hsu a (X.pn ++ pins)).run [] s5 _ _ _ S5 (hyes rfl a na)) (fun f s6 hsp => ?_) (fun _ _ z => False.elim z)
      have end_ : ∀ {σ6 : L2.St} {H6 : Hp} {Q : Shared → Prop}, Inv (X.suite a (X.pn ++ pins)) [] σ6 H6 s6 → (∀ s7, Inv X pins (σ6.set i none) H6 s7 → Q s7) →
          wpAny (model X.prog X.w) X.A (do bindName X.env n .none; unbindBehindTheSuite X.env n pos') (fun _ s7 => Q s7) X.xe s6 := fun {σ6 H6 Q} S6 hq => gone_ok (Inv.ofSuite S6 ok) hN hi hln hq
      cases f with
      | next =>
        obtain ⟨σ6, H6, S6, q6⟩ := hsp
        exact end_ S6 fun s7 J7 => ⟨_, _, J7, q6⟩
      | brk =>
        obtain ⟨σ6, H6, S6, q6⟩ := hsp
        exact end_ S6 fun s7 J7 => ⟨_, _, J7, q6⟩
      | cont =>
        obtain ⟨σ6, H6, S6, q6⟩ := hsp
        exact end_ S6 fun s7 J7 => ⟨_, _, J7, q6⟩
      | ret u =>
        obtain ⟨v6, σ6, H6, S6, r6, q6⟩ := hsp
        exact end_ S6 fun s7 J7 => ⟨_, _, _, J7, r6, q6⟩
    | false =>
      show wpAny _ X.A (handleBy (.ref a) X.env []) _ _ _
      refine wpAny_handleBy_nil ?_
      obtain ⟨k1, k2, k3, oe, vs, T, oT, ts', he, hz, hd, h1, hr⟩ := id fl3
      unfold PySem.passOn
      refine wpAny_bind (wpAny_field he hd h1 ?_)
      rw [if_neg (show ¬ ((Value.ref T == Value.none) = true) from by simp)]
      have fin : wpAny (model X.prog X.w) X.A (setFlight (.ref a) X.env.frame) (fun _ s4 => wpAny (model X.prog X.w) X.A (throw (.ref a) : Sem Flow) (SP X pins D) X.xe s4) X.xe { s' with heap := h3 } := by
        rw [hf]
        refine HandSPX.setFlight_upZ fl3 fun h4 hh4 up4 => wpAny_throw (tk _ _ ?_)
        exact ⟨a, B, sI, pins, σ', H', cls, d, rfl, J, nb, (up.trans up3).trans up4, .inr (.inr (by rw [hs]; exact hh4)), na, os, ag, hno rfl⟩
      first
        | exact wpAny_bind (wpAny_pure (wpAny_bind fin))
        | exact wpAny_bind fin
  · cases f with
    | next =>
      obtain ⟨σ', H', J', q⟩ := hsp
      exact wpAny_execs_nil ⟨σ', H', J'.ofTry ok, q⟩
    | brk =>
      obtain ⟨σ', H', J', q⟩ := hsp
      exact ⟨σ', H', J'.ofTry ok, q⟩
    | cont =>
      obtain ⟨σ', H', J', q⟩ := hsp
      exact ⟨σ', H', J'.ofTry ok, q⟩
    | ret u =>
      obtain ⟨v, σ', H', J', r, q⟩ := hsp
      exact ⟨v, σ', H', J'.ofTry ok, r, q⟩
end
end Xb
set_option Elab.async false
set_option linter.all false
set_option maxRecDepth 100000
set_option maxHeartbeats 4000000
/-! X7: an exception that is held: its class, its fields -/
namespace Xb
open PySem PySem.Spec PyProof.Rows L2 Mi
/-- what is asked of the class -/
structure IsC (K : PySem.W.Frag) (C : Addr) : Prop where
  cl : (PySem.W.clsIn K C).isSome = true
  ga : PySem.W.findIn K (.ref C) "__getattribute__" = some (some (.builtin "BaseException.__getattribute__"))
  gg : PySem.W.findIn K (.ref C) "__getattr__" = some none
  sub : PySem.W.subIn K (.ref C) (.type "BaseException") = some true
  hd : PySem.W.hasDictIn K C = true
  ca : PySem.W.findIn K (.ref C) "__class__" = some (some (.builtin "object.__class__"))
  sg : PySem.W.specialIn K (.builtin "object.__class__") "__get__" = some (some (.builtin "getset_descriptor.__get__"))
  tk : PySem.W.takesIn K (.builtin "object.__class__") = some true
  ob : PySem.W.mroIn K C (.type "object") = some true
/-- it stands at a -/
def ExwAt (H : Hp) (a C : Addr) (d : Option Addr) : Prop := H a = some (exw a C d) ∧ (d = none ∨ ∃ dd vs, d = some dd ∧ H dd = some (.xd vs))
section
variable {X : Cx} {pins : List (Addr × Obj)} {σ : L2.St} {H : Hp} {s : Shared} {a C : Addr} {d : Option Addr}
theorem exw_at (I : Inv X pins σ H s) (h : ExwAt H a C d) : ∃ (oe : Obj) (od : Option Obj), PySem.W.InstAt s.heap a oe C od := by
  obtain ⟨h1, h2⟩ := h
  obtain ⟨⟨oe, fv, e1, e2, e3, e4⟩, _, _⟩ := I.hok a _ h1
  have nc : PySem.W.notCls oe = true := by
    unfold PySem.W.notCls
    rw [e4]
  rcases h2 with rfl | ⟨dd, vs, rfl, hx⟩
  · exact ⟨oe, none, e1, e2, nc, by rw [e3]; trivial⟩
  · have hx' : ObjOk X.prog X.w H s.heap dd (.xd vs) := I.hok dd _ hx
    obtain ⟨mA, hns, _⟩ := hx'
    obtain ⟨od, ho, _⟩ := lookIn_ns hns
    exact ⟨oe, some od, e1, e2, nc, by rw [e3]; exact ho⟩
theorem kitx_exw {oe : Obj} {od : Option Obj} (C' : IsC X.K C) : PySem.W.KitX X.K (.ref a) (.ref C) (fun h => PySem.W.InstAt h a oe C od) :=
  PySem.W.kitx_exc C'.cl C'.ga C'.gg C'.sub C'.ca C'.sg C'.tk C'.ob
/-- isinstance(e, c) -/
def rIsx (K : PySem.W.Frag) : List V → Hp → VK → Prop := fun xs H Q => ∃ (a C : Addr) (d : Option Addr) (c : V) (cv : Value) (b : Bool), xs = [.ref a, c] ∧ ExwAt H a C d ∧ IsC K C ∧ (∀ u, RelV c u → u = cv) ∧ PySem.W.kitOne K (.ref C) cv = some b ∧ Q (.bl b) H
theorem call_isx {X : Cx} : CallR X (.builtin "isinstance") (rIsx X.K) := by
  intro pins s σ H xs us Q I r h
  obtain ⟨a, C, d, c, cv, b, rfl, hx, hC, hcv, e, q⟩ := h
  cases r with
  | cons rx rr =>
    cases rr with
    | cons rt rr =>
      cases rr
      cases rx
      have ec := hcv _ rt
      subst ec
      obtain ⟨oe, od, J⟩ := exw_at I hx
      exact PySem.W.kia_one (kitx_exw hC) I.kIn J e (fun z => nomatch z) fun tk => ⟨.bl b, H, I.kept (t' := tk) fun _ _ z => z, rfl, q⟩
/-- isinstance(e, (c, ..)) -/
def rIsxT (K : PySem.W.Frag) : List V → Hp → VK → Prop := fun xs H Q => ∃ (a C : Addr) (d : Option Addr) (t : Addr) (cs : List V) (cvs : List Value) (b : Bool), xs = [.ref a, .ref t] ∧ ExwAt H a C d ∧ IsC K C ∧ H t = some (.tup cs) ∧ (∀ us, Vals cs us → us = cvs) ∧ PySem.W.kitAny K (.ref C) cvs = some b ∧ Q (.bl b) H
theorem call_isxT {X : Cx} : CallR X (.builtin "isinstance") (rIsxT X.K) := by
  intro pins s σ H xs us Q I r h
  obtain ⟨a, C, d, t, cs, cvs, b, rfl, hx, hC, ht, hcv, e, q⟩ := h
  cases r with
  | cons rx rr =>
    cases rr with
    | cons rt rr =>
      cases rr
      cases rx
      cases rt
      obtain ⟨oe, od, J⟩ := exw_at I hx
      have ho : ObjOk X.prog X.w H s.heap t (.tup cs) := I.hok t _ ht
      obtain ⟨_, its, rv, p⟩ := ho
      have ec := hcv _ rv
      subst ec
      obtain ⟨o, e1, e2, n, e3⟩ := p
      obtain ⟨oc, od', dt, osl⟩ := o
      dsimp only at e2 e3
      subst e2 e3
      exact PySem.W.kia_tup (kitx_exw hC) I.kIn J e1 e (fun z => nomatch z) fun tk => ⟨.bl b, H, I.kept (t' := tk) fun _ _ z => z, rfl, q⟩
/-- e.f -/
def tXw (K : PySem.W.Frag) (f : Str) (te : TE) : TE := fun σ H Q => te σ H fun x H1 => ∃ (a C dd : Addr) (fs : List (Str × V)) (v : V), x = .ref a ∧ H1 a = some (exw a C (some dd)) ∧ IsC K C ∧ PySem.W.findIn K (.ref C) f = some none ∧ H1 dd = some (.xd fs) ∧ fs.lookup f = some v ∧ Q v H1
theorem pe_xw {e : Expr} {te : TE} {pos : Pos} {n : Str} (he : PE X e te) (hb : attributeBase e n X.env (eval e X.env) = eval e X.env) : PE X (.Attribute e n pos) (tXw X.K n te) := by
  refine ⟨fun pins s σ H Q I h => ?_⟩
  refine attr_of hb (thn (he.run pins s σ H _ I h) fun u s1 hh => ?_)
  obtain ⟨x, H1, I1, rx, a, C, dd, fs, v, ex, h1, hC, hno, ea, l, q⟩ := hh
  subst ex
  obtain rfl : u = Value.ref a := rx
  obtain ⟨⟨oe, fv, e1, e2, e3, e4⟩, _, _⟩ := I1.hok a _ h1
  have hx : ObjOk X.prog X.w H1 s1.heap dd (.xd fs) := I1.hok dd _ ea
  obtain ⟨mA, hns, hr⟩ := hx
  obtain ⟨od, ho, hl⟩ := lookIn_ns hns
  obtain ⟨u, hu, ru⟩ := RelO.some_of (v := v) (o := mA n) (by rw [← l]; exact hr n)
  have J : PySem.W.InstAt s1.heap a oe C (some od) := ⟨e1, e2, by unfold PySem.W.notCls; rw [e4], by rw [e3]; exact ho⟩
  exact HandSPX.exc_get I1.kIn J hC.ga hC.gg hC.sub (PySem.W.findObj_own hC.hd hno rfl (by rw [hl, hu])) (handed_of ru) ⟨v, H1, I1.tok _, ru, q⟩
end
end Xb
set_option Elab.async false
set_option linter.all false
set_option maxRecDepth 100000
set_option maxHeartbeats 4000000
/-! X8: try with several except clauses, each a class or a tuple of classes, with a name or without; the exception tracked where it has a name -/
namespace Xb
open PySem PySem.Spec PyProof.Rows L2
theorem TracedZ.keeps {h h' base : Heap} {e : Addr} {Z : Obj → Prop} {fl : Value} (t : HandSPX.TracedZ h base e Z fl) (k : ∀ b o, h.get? b = some o → h'.get? b = some o) : HandSPX.TracedZ h' base e Z fl := by
  obtain ⟨oe, vs, T, oT, ts, he, hz, hd, h1, hnT, hTe, hT, hdT, h3⟩ := t
  exact ⟨oe, vs, T, oT, ts, k _ _ he, hz, hd, h1, hnT, hTe, k _ _ hT, hdT, h3⟩
theorem FlyingZ.keeps {h h' base : Heap} {l : List Env} {e : Addr} {Z : Obj → Prop} (t : HandSPX.FlyingZ base l e Z h) (k : ∀ b o, h.get? b = some o → h'.get? b = some o) : HandSPX.FlyingZ base l e Z h' :=
  ⟨fun b o q => k b o (t.1 b o q), t.2.1, t.2.2.1.of_keeps fun b o q _ => ⟨o, k b o q, rfl⟩, TracedZ.keeps t.2.2.2 k⟩
/-- the test of an except clause -/
def Tst (X : Cx) (te : Expr) (cs : List Value) : Prop := ∀ (a : Addr) (pn : List (Addr × Obj)) (σ : L2.St) (H : Hp) (s : Shared) (cls : Value) (b : Bool) (E : Value → Shared → Prop) (Q : Bool → Shared → Prop),
  Inv (X.suite a pn) [] σ H s → PySem.W.Looks (model X.prog X.w) s.heap (typeOf (.ref a)) cls → PySem.W.exmAny X.K cls cs = some b → (∀ h', (∀ q o, s.heap.get? q = some o → h'.get? q = some o) → Q b { s with heap := h' }) →
  wpAny (model X.prog X.w) (X.A.mark (some (.ref a))) (eval te X.env) (fun c s1 => wpAny (model X.prog X.w) (X.A.mark (some (.ref a))) (excMatches (.ref a) c) Q E s1) E s
theorem names_ev {X : Cx} {x : Str} {c : Value} {np : Pos} (hc : Names X x c) {a : Addr} {pn : List (Addr × Obj)} {σ : L2.St} {H : Hp} {s : Shared} {E : Value → Shared → Prop} {Q : Value → Shared → Prop} (I : Inv (X.suite a pn) [] σ H s) (q : Q c s) :
    wpAny (model X.prog X.w) (X.A.mark (some (.ref a))) (eval (.Name x np) X.env) Q E s := by
  obtain ⟨hg, hdbg, hm | ⟨hm, hv, hnn⟩⟩ := hc
  · exact ld_glob (X := X.suite a pn) I hg hm q hdbg
  · exact ld_blt (X := X.suite a pn) I hg hm hv q hnn hdbg
theorem exmAny_one {K : PySem.W.Frag} {cls c : Value} {b : Bool} (h : PySem.W.exmAny K cls [c] = some b) : PySem.W.exmOne K cls c = some b := by
  obtain ⟨b1, d1, h1, h2, rfl⟩ := PySem.W.exmAny_cons h
  cases h2
  simpa using h1
theorem tst_name {X : Cx} {x : Str} {c : Value} {np : Pos} (hc : Names X x c) : Tst X (.Name x np) [c] := fun a pn σ H s cls b E Q I LT he q =>
  names_ev hc I ((PySem.W.exm_one I.kIn LT (exmAny_one he)).here (q s.heap fun _ _ z => z))
theorem tst_tup2 {X : Cx} {x1 x2 : Str} {c1 c2 : Value} {p1 p2 tp : Pos} {k : Nat} (n1 : Names X x1 c1) (n2 : Names X x2 c2) : Tst X (.Tuple [.Name x1 p1, .Name x2 p2] k tp) [c1, c2] := fun a pn σ H s cls b E Q I LT he q => by
  refine wpAny_Tuple ?_
  refine wpAny_items_cons (names_ev n1 I ?_)
  refine wpAny_items_cons (names_ev n2 I ?_)
  refine wpAny_items_nil ⟨by size_fits, ?_⟩
  have kp : ∀ q o, s.heap.get? q = some o → (s.heap.push { cls := .type "tuple", data := .seq [c1, c2].toArray }).get? q = some o := fun _ _ z => Heap.get?_push_of_some _ z
  exact (PySem.W.exm_tup2 (I.kIn.keeps kp) (LT.keeps kp) (Heap.get?_push_size s.heap rfl) he).here (q _ kp)
theorem tst_tup3 {X : Cx} {x1 x2 x3 : Str} {c1 c2 c3 : Value} {p1 p2 p3 tp : Pos} {k : Nat} (n1 : Names X x1 c1) (n2 : Names X x2 c2) (n3 : Names X x3 c3) : Tst X (.Tuple [.Name x1 p1, .Name x2 p2, .Name x3 p3] k tp) [c1, c2, c3] := fun a pn σ H s cls b E Q I LT he q => by
  refine wpAny_Tuple ?_
  refine wpAny_items_cons (names_ev n1 I ?_)
  refine wpAny_items_cons (names_ev n2 I ?_)
  refine wpAny_items_cons (names_ev n3 I ?_)
  refine wpAny_items_nil ⟨by size_fits, ?_⟩
  have kp : ∀ q o, s.heap.get? q = some o → (s.heap.push { cls := .type "tuple", data := .seq [c1, c2, c3].toArray }).get? q = some o := fun _ _ z => Heap.get?_push_of_some _ z
  exact (PySem.W.exm_tup3 (I.kIn.keeps kp) (LT.keeps kp) (Heap.get?_push_size s.heap rfl) he).here (q _ kp)
theorem tst_tup4 {X : Cx} {x1 x2 x3 x4 : Str} {c1 c2 c3 c4 : Value} {p1 p2 p3 p4 tp : Pos} {k : Nat} (n1 : Names X x1 c1) (n2 : Names X x2 c2) (n3 : Names X x3 c3) (n4 : Names X x4 c4) : Tst X (.Tuple [.Name x1 p1, .Name x2 p2, .Name x3 p3, .Name x4 p4] k tp) [c1, c2, c3, c4] := fun a pn σ H s cls b E Q I LT he q => by
  refine wpAny_Tuple ?_
  refine wpAny_items_cons (names_ev n1 I ?_)
  refine wpAny_items_cons (names_ev n2 I ?_)
  refine wpAny_items_cons (names_ev n3 I ?_)
  refine wpAny_items_cons (names_ev n4 I ?_)
  refine wpAny_items_nil ⟨by size_fits, ?_⟩
  have kp : ∀ q o, s.heap.get? q = some o → (s.heap.push { cls := .type "tuple", data := .seq [c1, c2, c3, c4].toArray }).get? q = some o := fun _ _ z => Heap.get?_push_of_some _ z
  exact (PySem.W.exm_tup4 (I.kIn.keeps kp) (LT.keeps kp) (Heap.get?_push_size s.heap rfl) he).here (q _ kp)

/-- what the clauses wish of an exception of the body -/
def wHs (K : PySem.W.Frag) (Wout : WX) (D : Ends) : List (List Value × Option Nat × TS) → WX
  | [] => Wout
  | (cs, o, ts) :: r => fun cls d σ H => ∃ b, PySem.W.exmAny K cls cs = some b ∧ (b = true → match o with
      | none => ts D σ H
      | some i => ∀ a, H a = none → ts { nx := fun σ' H' => D.nx (σ'.set i none) H', rt := D.rt, bk := fun σ' H' => D.bk (σ'.set i none) H', ct := fun σ' H' => D.ct (σ'.set i none) H' } (σ.set i (some (.ref a))) (upd H a (exwv a cls d))) ∧
    (b = false → wHs K Wout D r cls d σ H)
def NmOk (X : Cx) (n : Option Str) (o : Option Nat) : Prop := (n = none ∧ o = none) ∨ ∃ x i, n = some x ∧ o = some i ∧ X.N[i]? = some x ∧ X.env.kindOf x = some .local
inductive HsOk (X : Cx) : List ExceptHandler → List (List Value × Option Nat × TS) → Prop
  | nil : HsOk X [] []
  | cons {te : Expr} {cs : List Value} {n : Option Str} {o : Option Nat} {ts : TS} {b₀ : Stmt} {suite : List Stmt} {pos' : Pos} {hds : List ExceptHandler} {l : List (List Value × Option Nat × TS)} (ht : Tst X te cs) (hn : NmOk X n o)
      (hsu : ∀ (a : Addr) (pn : List (Addr × Obj)), PSs (X.suite a pn) (b₀ :: suite) ts) (r : HsOk X hds l) : HsOk X (.ExceptHandler (some te) n (b₀ :: suite) pos' :: hds) ((cs, o, ts) :: l)
section
variable {X : Cx} {body : List Stmt} {h₀ : ExceptHandler} {hds : List ExceptHandler} {l : List (List Value × Option Nat × TS)} {pos : Pos} {tb : WX → TS} {Wout : WX}
theorem ps_try_hs (hex : X.ex = []) (hs : X.stack = X.env :: X.outer) (hf : X.env.frame = some X.env.locals) (hN : X.N.Nodup) (tk : Takes X Wout)
    (hb : ∀ (W : WX) (pn : List (Addr × Obj)) (xe : Value → Shared → Prop), Takes (X.tr pn xe) W → PassesOwn (model X.prog X.w) X.A X.env xe → PSs (X.tr pn xe) body (tb W))
    (hh : HsOk X (h₀ :: hds) l) : PS X (.Try body (h₀ :: hds) [] [] pos) (fun D σ H => tb (wHs X.K Wout D l) D σ H) := by
  refine ⟨fun pins s σ H D I h => ?_⟩
  have ok := I.ok
  have hfr : X.A.frames = some (X.env :: X.outer) := by rw [ok.frames, hs]
  refine wpAny_Try_except ?_
  refine wpAny_mono ((hb (wHs X.K Wout D l) (X.pn ++ pins) (fun e s₁ => wpAny (model X.prog X.w) X.A (noteFrame e X.env) (fun _ s₂ => wpAny (model X.prog X.w) X.A (setFlight e none) (fun _ s₃ =>
    wpAny (model X.prog X.w) X.A (handleBy e X.env (h₀ :: hds)) (SP X pins D) X.xe s₃) X.xe s₂) X.xe s₁) (fun u s' xx => ?_) PassesOwn.looking).run [] s σ H D (I.toTry _) h) (fun f s1 hsp => ?_) (fun e s1 he => he)
  · -- the catch
    obtain ⟨a, B, sI, pins', σ', H', cls, d, rfl, J', nb, up, sky, na, os, ag, w⟩ := xx
    have J : Inv X pins σ' H' sI := J'.ofTry ok
    have sky' : Sky B (X.env :: X.outer) a (Zc cls d) X.env.locals s'.heap := by rw [← hs]; exact sky
    show wpAny (model X.prog X.w) X.A (noteFrame (.ref a) X.env) _ _ _
    refine Sky.land Zc.steady hfr hf sky' fun h3 fl3 up3 => ?_
    have stk : ∀ b, b ≠ X.env.locals → b ∉ X.fs → b ∉ frs X.stack := fun b h1 h2 hm => by
      rw [hs] at hm
      obtain ⟨e, he, q⟩ := List.mem_filterMap.mp hm
      rcases List.mem_cons.mp he with rfl | he
      · rw [hf] at q
        cases q
        exact h1 rfl
      · exact h2 (List.mem_filterMap.mpr ⟨e, he, q⟩)
    have notFr : ∀ {h : Heap} {o : Obj} {vs : Array Value}, h.FunFrames B (X.env :: X.outer) → h.get? a = some o → o.data = .fields vs → a ∉ frs (X.env :: X.outer) := fun {h o vs} ff e dd hm => by
      obtain ⟨_, o', e', hnf⟩ := ff.mem hm
      rw [e] at e'; cases e'
      exact hnf _ dd
    have go : ∀ {hds' : List ExceptHandler} {l' : List (List Value × Option Nat × TS)} {h3 : Heap}, HsOk X hds' l' → HandSPX.FlyingZ B (X.env :: X.outer) a (Zc cls d) h3 → s'.heap.UpToSlots h3 → wHs X.K Wout D l' cls d σ' H' →
        wpAny (model X.prog X.w) X.A (handleBy (.ref a) X.env hds') (SP X pins D) X.xe { s' with heap := h3 } := by
      intro hds' l' h3 hk
      induction hk generalizing h3 with
      | nil =>
        intro fl3 up3 w
        refine wpAny_handleBy_nil ?_
        obtain ⟨k1, k2, k3, oe, vs, T, oT, ts', he, hz, hd, h1, hr⟩ := id fl3
        unfold PySem.passOn
        refine wpAny_bind (wpAny_field he hd h1 ?_)
        rw [if_neg (show ¬ ((Value.ref T == Value.none) = true) from by simp)]
        have fin : wpAny (model X.prog X.w) X.A (setFlight (.ref a) X.env.frame) (fun _ s4 => wpAny (model X.prog X.w) X.A (throw (.ref a) : Sem Flow) (SP X pins D) X.xe s4) X.xe { s' with heap := h3 } := by
          rw [hf]
          refine HandSPX.setFlight_upZ fl3 fun h4 hh4 up4 => wpAny_throw (tk _ _ ?_)
          exact ⟨a, B, sI, pins, σ', H', cls, d, rfl, J, nb, (up.trans up3).trans up4, .inr (.inr (by rw [hs]; exact hh4)), na, os, ag, w⟩
        first
          | exact wpAny_bind (wpAny_pure (wpAny_bind fin))
          | exact wpAny_bind fin
      | @cons te cs n o ts b₀ suite pos' hds2 l2 ht hn hsu r ih =>
        intro fl3 up3 w
        obtain ⟨b, hb1, hyes, hno⟩ := w
        have J3 : Inv X pins σ' H' { s' with heap := h3 } := J.landed nb fl3.1 (up.trans up3) os ag
        obtain ⟨oe3, vs3, he3, hz3, hd3⟩ := fl3.there
        have nfr := notFr fl3.2.2.1 he3 hd3
        have nL : a ≠ X.env.locals := fun z => nfr (List.mem_filterMap.mpr ⟨X.env, List.mem_cons_self, by rw [hf, z]⟩)
        have Ba : B.get? a = none := fl3.2.1
        have nF : a ∉ X.fs := fun hm => by
          obtain ⟨e, he, q⟩ := List.mem_filterMap.mp hm
          exact nfr (List.mem_filterMap.mpr ⟨e, List.mem_cons_of_mem _ he, q⟩)
        have n0 : X.s_0.heap.get? a = none := by
          cases e : X.s_0.heap.get? a with
          | none => rfl
          | some o =>
            obtain ⟨o', q⟩ := J.base.there a o e (by rw [hex]; exact fun z => nomatch z)
            have := nb a o' q (stk a nL nF)
            rw [Ba] at this
            cases this
        have np' : ∀ p ∈ X.pn ++ pins, p.1 ≠ a := fun p hp z => by
          obtain ⟨q1, q2, q3, q4, q5⟩ := J.pin p hp
          have := nb p.1 _ q1 (stk p.1 q3 q4)
          rw [z, Ba] at this
          cases this
        have S3 := Inv.toSuite J3 a
        have LT : PySem.W.Looks (model X.prog X.w) h3 (typeOf (.ref a)) cls := fun A Q E s k q => wpAny_typeOf_ref (k _ _ he3) (by rw [hz3.1]; exact q)
        cases n with
        | none =>
          have ho : o = none := by
            rcases hn with ⟨_, h⟩ | ⟨x, i, h, _⟩
            · exact h
            · cases h
          subst ho
          refine wpAny_handleBy_cons (codeAny_handlers_test ?_) (by intro q; cases q)
          refine ht a _ σ' H' _ cls b _ _ S3 LT hb1 fun h4 kp => ?_
          have fl4 := FlyingZ.keeps fl3 kp
          have up4 : s'.heap.UpToSlots h4 := up3.trans (Heap.UpToSlots.of_keeps kp)
          cases b with
          | true =>
            refine codeAny_handlers_suite ?_
            refine HandSPX.lands_againZ fl4 fun h5 fl5 up5 => ?_
            have J5 : Inv X pins σ' H' { s' with heap := h5 } := J.landed nb fl5.1 ((up.trans up4).trans up5) os ag
            have S5 := Inv.toSuite J5 a
            refine wpAny_mono ((hsu a (X.pn ++ pins)).run [] _ _ H' _ S5 (hyes rfl)) (fun f s6 hsp => ?_) (fun _ _ z => False.elim z)
            cases f with
            | next =>
              obtain ⟨σ6, H6, S6, q6⟩ := hsp
              exact ⟨_, _, Inv.ofSuite S6 ok, q6⟩
            | brk =>
              obtain ⟨σ6, H6, S6, q6⟩ := hsp
              exact ⟨_, _, Inv.ofSuite S6 ok, q6⟩
            | cont =>
              obtain ⟨σ6, H6, S6, q6⟩ := hsp
              exact ⟨_, _, Inv.ofSuite S6 ok, q6⟩
            | ret u =>
              obtain ⟨v6, σ6, H6, S6, r6, q6⟩ := hsp
              exact ⟨_, _, _, Inv.ofSuite S6 ok, r6, q6⟩
          | false =>
            show wpAny _ X.A (handleBy (.ref a) X.env hds2) _ _ _
            exact ih fl4 up4 (hno rfl)
        | some n =>
          obtain ⟨i, ho, hi, hln⟩ : ∃ i, o = some i ∧ X.N[i]? = some n ∧ X.env.kindOf n = some .local := by
            rcases hn with ⟨h, _⟩ | ⟨x, i, h, h1, h2, h3⟩
            · cases h
            · cases h
              exact ⟨i, h1, h2, h3⟩
          subst ho
          have hloc : Loc X.env.scope n := .inl hln
          refine wpAny_handleBy_cons (codeAny_handlers_test ?_) (by intro q; cases q)
          refine ht a _ σ' H' _ cls b _ _ S3 LT hb1 fun h4 kp => ?_
          have fl4 := FlyingZ.keeps fl3 kp
          have up4 : s'.heap.UpToSlots h4 := up3.trans (Heap.UpToSlots.of_keeps kp)
          cases b with
          | true =>
            refine codeAny_handlers_suite_as ?_
            refine HandSPX.lands_againZ fl4 fun h5 fl5 up5 => ?_
            have J5 : Inv X pins σ' H' { s' with heap := h5 } := J.landed nb fl5.1 ((up.trans up4).trans up5) os ag
            obtain ⟨oe5, vs5, he5, hz5, hd5⟩ := fl5.there
            have S5 := Inv.toSuite (Inv.track J5 he5 hz5 hd5 na nL n0 np') a
            refine store_ok (X := X.suite a (X.pn ++ pins)) (v := .ref a) S5 hN hi hloc rfl (fun s5 S5 => ?_) (.inr hln)
            refine wpAny_mono ((hsu a (X.pn ++ pins)).run [] s5 _ _ _ S5 (hyes rfl a na)) (fun f s6 hsp => ?_) (fun _ _ z => False.elim z)
            have end_ : ∀ {σ6 : L2.St} {H6 : Hp} {Q : Shared → Prop}, Inv (X.suite a (X.pn ++ pins)) [] σ6 H6 s6 → (∀ s7, Inv X pins (σ6.set i none) H6 s7 → Q s7) →
                wpAny (model X.prog X.w) X.A (do bindName X.env n .none; unbindBehindTheSuite X.env n pos') (fun _ s7 => Q s7) X.xe s6 := fun {σ6 H6 Q} S6 hq => gone_ok (Inv.ofSuite S6 ok) hN hi hln hq
            cases f with
            | next =>
              obtain ⟨σ6, H6, S6, q6⟩ := hsp
              exact end_ S6 fun s7 J7 => ⟨_, _, J7, q6⟩
            | brk =>
              obtain ⟨σ6, H6, S6, q6⟩ := hsp
              exact end_ S6 fun s7 J7 => ⟨_, _, J7, q6⟩
            | cont =>
              obtain ⟨σ6, H6, S6, q6⟩ := hsp
              exact end_ S6 fun s7 J7 => ⟨_, _, J7, q6⟩
            | ret u =>
              obtain ⟨v6, σ6, H6, S6, r6, q6⟩ := hsp
              exact end_ S6 fun s7 J7 => ⟨_, _, _, J7, r6, q6⟩
          | false =>
            show wpAny _ X.A (handleBy (.ref a) X.env hds2) _ _ _
            exact ih fl4 up4 (hno rfl)
    exact go hh fl3 up3 w
  · cases f with
    | next =>
      obtain ⟨σ', H', J', q⟩ := hsp
      exact wpAny_execs_nil ⟨σ', H', J'.ofTry ok, q⟩
    | brk =>
      obtain ⟨σ', H', J', q⟩ := hsp
      exact ⟨σ', H', J'.ofTry ok, q⟩
    | cont =>
      obtain ⟨σ', H', J', q⟩ := hsp
      exact ⟨σ', H', J'.ofTry ok, q⟩
    | ret u =>
      obtain ⟨v, σ', H', J', r, q⟩ := hsp
      exact ⟨v, σ', H', J'.ofTry ok, r, q⟩
end
end Xb
set_option Elab.async false
set_option linter.all false
set_option maxRecDepth 100000
set_option maxHeartbeats 2000000
/-! X9: an own exception as a value -/
namespace Xb
open PySem PySem.Spec PyProof.Rows L2
theorem pe_mk {X : Cx} {e : Expr} {t : L2.St → Hp → XK → Prop} (h : PMk X e t) : PE X e (fun σ H Q => t σ H fun cls d H' => ∀ a, H' a = none → Q (.ref a) (upd H' a (exwv a cls d))) := by
  refine ⟨fun pins s σ H Q I hq => ?_⟩
  refine wpAny_mono (h pins s σ H _ I hq) (fun u s1 hu => ?_) fun _ _ x => x
  obtain ⟨a, oe, vs, sI, H', cls, d, rfl, J, k, hne, ha, hz, hd, h1, na, os, ag, r, q⟩ := hu
  refine ⟨.ref a, upd H' a (exwv a cls d), ?_, rfl, q a na⟩
  obtain ⟨hp1, g1, d1, t1, os1⟩ := s1
  exact J.call' (ch := []) os (Un.laidN k hne na) (J.hok.laidN k na (exwv_ok ha hz hd)) ag (fun b z => absurd z (by simp))
end Xb
set_option Elab.async false
set_option linter.all false
set_option maxRecDepth 100000
set_option maxHeartbeats 2000000
/-! Y1: exceptions in the small language: raise, try, what is asked of them -/
namespace Mi
open PySem PySem.Spec L2 Xb
open PyProof.Rows hiding St
theorem ClI.rel (K : PySem.W.Frag) (t : ClI) : RelV (t.vv K) (t.v K) := by
  obtain ⟨nm, fs, mro, own, b, kos⟩ := t
  cases b <;> rfl
theorem ClI.rel_eq {K : PySem.W.Frag} {t : ClI} {u : Value} (h : RelV (t.vv K) u) : u = t.v K := by
  obtain ⟨nm, fs, mro, own, b, kos⟩ := t
  cases b <;> exact h
structure ClsOk (P : Program) (K : PySem.W.Frag) (mg : Str → Option Value) (cls : List ClI) : Prop where
  gl : ∀ c ∈ cls, c.b = none → mg c.nm = some (.ref (He.ga K c.nm))
  glb : ∀ c ∈ cls, ∀ n, c.b = some n → mg c.nm = none ∧ bootBuiltins c.nm = some (.type n) ∧ c.nm ≠ "__name__"
  is : ∀ c ∈ cls, c.b = none → IsC K (He.ga K c.nm)
  make : ∀ c ∈ cls, c.b = none → c.own = true → ClsF P K mg (He.ga K c.nm) c.fs c.kos
  noat : ∀ c ∈ cls, c.b = none → ∀ f ∈ c.fs, PySem.W.findIn K (.ref (He.ga K c.nm)) f = some none
  kit : ∀ c ∈ cls, c.b = none → ∀ t ∈ cls, PySem.W.kitOne K (.ref (He.ga K c.nm)) (t.v K) = some (c.mro.contains t.nm)
  exm : ∀ c ∈ cls, c.b = none → ∀ t ∈ cls, PySem.W.exmOne K (.ref (He.ga K c.nm)) (t.v K) = some (c.mro.contains t.nm)
def tabOf : List ClI → List Str → List (Str × Bool)
  | [], _ => []
  | c :: cls, ts => match c.b with
    | some _ => tabOf cls ts
    | none => (c.nm, ts.any fun t => c.mro.contains t) :: tabOf cls ts
theorem tabOf_ok : ∀ {cls : List ClI} {ts : List Str} {c : Str} {b : Bool}, (tabOf cls ts).lookup c = some b → ∃ ci ∈ cls, ci.b = none ∧ ci.nm = c ∧ b = ts.any fun t => ci.mro.contains t
  | [], _, _, _, h => by cases h
  | ci :: cls, ts, c, b, h => by
    unfold tabOf at h
    split at h
    · obtain ⟨ci', h1, h2, h3⟩ := tabOf_ok (cls := cls) h
      exact ⟨ci', List.mem_cons_of_mem _ h1, h2, h3⟩
    · rename_i hb
      rw [List.lookup_cons] at h
      split at h
      · rename_i hc
        cases h
        exact ⟨ci, List.mem_cons_self .., hb, (by simpa using hc : c = ci.nm).symm, rfl⟩
      · obtain ⟨ci', h1, h2, h3⟩ := tabOf_ok (cls := cls) h
        exact ⟨ci', List.mem_cons_of_mem _ h1, h2, h3⟩
def isxD (tab : List (Str × Bool)) : D → Option Bool
  | .exc c _ => tab.lookup c
  | _ => none
def attD (f : Str) (ok : List Str) : D → Option D
  | .exc c fs => if ok.contains c = true then fs.lookup f else none
  | _ => none
def isxM (tab : List (Str × Bool)) (f : Mo Hd) : Mo Hd := Mo.bind f fun a => Mo.bind (deref a) fun x => Mo.bind (Mo.lift (isxD tab x)) fun b => Mo.pure (.val (.bl b))
def attM (n : Str) (ok : List Str) (f : Mo Hd) : Mo Hd := Mo.bind f fun a => Mo.bind (deref a) fun x => Mo.bind (Mo.lift (attD n ok x)) fun d => Mo.pure (.val d)
/-- an exception that a reading holds -/
theorem AR.exc {R : RC} {H : Hp} {c : Str} {fs : List (Str × D)} {x : V} (h : AR R H (.exc c fs) x) : ∃ a vs, x = .ref a ∧ ExAt R H a c vs ∧ vs.map (·.1) = fs.map (·.1) ∧ DRs R H (fs.map (·.2)) (vs.map (·.2)) := by
  rcases h with h | ⟨o, a, e, _, _⟩
  · cases h with
    | exc h1 h2 h3 => exact ⟨_, _, rfl, h1, h2, h3⟩
  · cases o <;> cases e
theorem ExAt.exw {R : RC} {H : Hp} {a : Addr} {c : Str} {vs : List (Str × V)} (h : ExAt R H a c vs) : ∃ d, ExwAt H a (He.ga R.K c) d := by
  obtain ⟨d, h1, _, h3⟩ := h
  refine ⟨d, h1, ?_⟩
  rcases h3 with ⟨_, h3⟩ | ⟨dd, h3, h4, _⟩
  · exact .inl h3
  · exact .inr ⟨dd, vs, h3, h4⟩
section
variable {K : PySem.W.Frag} {W : WX} {σ : St} {H : Hp} {D : Ends} {cls : List ClI} {P : Program} {mg : Str → Option Value}
/-- what isxM asks -/
theorem isxM_parts (hc : ClsOk P K mg cls) {ts : List Str} {f : Mo Hd} {Q : VK} (h : tA K W (isxM (tabOf cls ts) f) σ H Q) :
    tA K W f σ H fun x H1 => ∃ p ci d, x = .ref p ∧ ci ∈ cls ∧ ci.b = none ∧ ExwAt H1 p (He.ga K ci.nm) d ∧ ∀ H2, Evl.Ex H1 H2 → Q (.bl (ts.any fun t => ci.mro.contains t)) H2 := by
  obtain ⟨R, ρ, rr, hk, e, hf, q⟩ := h
  rcases bind_ok hf with ⟨a, ρ1, h1, h2⟩ | ⟨x, ρ1, h1, rfl⟩
  · refine ⟨R, ρ, _, hk, e, h1, fun R1 x H1 n1 r1 => ?_⟩
    unfold Mo.bind deref at h2
    cases k1 : deref1 ρ1 a with
    | none => simp [k1] at h2
    | some d =>
      cases d with
      | exc c fs =>
        cases k2 : (tabOf cls ts).lookup c with
        | none => simp [k1, isxD, k2, Mo.lift] at h2
        | some b =>
          simp [k1, isxD, k2, Mo.lift, Mo.pure] at h2
          subst h2
          obtain ⟨ci, m1, mb, rfl, rfl⟩ := tabOf_ok k2
          obtain ⟨p, vs, rfl, hx, _, _⟩ := (deref1_ok n1.en r1 k1).exc
          obtain ⟨dd, hw⟩ := hx.exw
          have hk1 := n1.k.trans hk
          rw [hk1] at hw
          exact ⟨p, ci, dd, rfl, m1, mb, hw, fun H2 ex => q R1 _ H2 (n1.trans (Nx.ex n1.en ex)) (DR.bl _)⟩
      | _ => simp [k1, isxD, Mo.lift] at h2
  · exact ⟨R, ρ, _, hk, e, h1, q⟩
theorem tA_mono {f : Mo Hd} {Q Q' : VK} (h : tA K W f σ H Q) (i : ∀ x H', Q x H' → Q' x H') : tA K W f σ H Q' := by
  obtain ⟨R, ρ, rr, hk, e, hf, q⟩ := h
  refine ⟨R, ρ, rr, hk, e, hf, ?_⟩
  cases rr with
  | ok a ρ' => exact fun R' x H' n r => i _ _ (q R' x H' n r)
  | ex x ρ' => exact q
/-- isinstance(e, c) -/
theorem isxM_ok1 (hc : ClsOk P K mg cls) {t : ClI} (ht : t ∈ cls) {f : Mo Hd} {Q : VK} (h : tA K W (isxM (tabOf cls [t.nm]) f) σ H Q) : tCB (rIsx K) (tCons (tA K W f) (tCons (tC (t.vv K)) tNil)) σ H Q := by
  refine tA_mono (isxM_parts hc h) ?_
  rintro x H1 ⟨p, ci, d, rfl, m1, mb, hw, q⟩
  refine ⟨p, _, d, t.vv K, t.v K, _, rfl, hw, hc.is ci m1 mb, fun u hu => ClI.rel_eq hu, hc.kit ci m1 mb t ht, ?_⟩
  have := q H1 fun _ _ z => z
  simpa using this
theorem kitAny_ok (hc : ClsOk P K mg cls) {ci : ClI} (m1 : ci ∈ cls) (mb : ci.b = none) : ∀ {ts : List ClI}, (∀ t ∈ ts, t ∈ cls) → PySem.W.kitAny K (.ref (He.ga K ci.nm)) (ts.map fun t => t.v K) = some ((ts.map (·.nm)).any fun t => ci.mro.contains t)
  | [], _ => rfl
  | t :: ts, h => by
    have ih := kitAny_ok hc m1 mb (ts := ts) fun t ht => h t (List.mem_cons_of_mem _ ht)
    have e := hc.kit ci m1 mb t (h t (List.mem_cons_self ..))
    simp only [List.map_cons, List.any_cons]
    cases hb : ci.mro.contains t.nm with
    | true =>
      rw [hb] at e
      simp only [PySem.W.kitAny, e, ih, Bool.true_or]
      done
    | false =>
      rw [hb] at e
      simp only [PySem.W.kitAny, e, ih, Bool.false_or]
      done
theorem clsvs_eq : ∀ {ts : List ClI} {us : List Value}, Vals (ts.map fun t => t.vv K) us → us = ts.map fun t => t.v K
  | [], _, h => by cases h; rfl
  | t :: ts, _, h => by
    cases h with
    | cons r rr => rw [List.map_cons, clsvs_eq rr, ClI.rel_eq r]
/-- isinstance(e, (c, ..)) -/
theorem isxM_okT (hc : ClsOk P K mg cls) {ts : List ClI} (ht : ∀ t ∈ ts, t ∈ cls) {f : Mo Hd} {Q : VK} {tt : TE} (hl : ts.length ≤ sizeLine) (htt : ∀ σ H Q, (∀ p, H p = none → Q (.ref p) (upd H p (.tup (ts.map fun t => t.vv K)))) → tt σ H Q) (h : tA K W (isxM (tabOf cls (ts.map (·.nm))) f) σ H Q) : tCB (rIsxT K) (tCons (tA K W f) (tCons tt tNil)) σ H Q := by
  refine tA_mono (isxM_parts hc h) ?_
  rintro x H1 ⟨p, ci, d, rfl, m1, mb, hw, q⟩
  refine htt _ _ _ fun t ht0 => ?_
  have ex : Evl.Ex H1 (upd H1 t (.tup (ts.map fun t => t.vv K))) := fun b o hb => by
    rw [upd_ne (fun z => by rw [z, ht0] at hb; cases hb)]
    exact hb
  refine ⟨p, _, d, t, _, _, _, rfl, ⟨ex _ _ hw.1, ?_⟩, hc.is ci m1 mb, upd_same, fun us hu => clsvs_eq hu, kitAny_ok hc m1 mb ht, q _ ex⟩
  rcases hw.2 with h | ⟨dd, vs, h1, h2⟩
  · exact .inl h
  · exact .inr ⟨dd, vs, h1, ex _ _ h2⟩
/-- e.f -/
theorem attM_ok (hc : ClsOk P K mg cls) {n : Str} (hnb : ∀ ci ∈ cls, n ∈ ci.fs → ci.b = none) {f : Mo Hd} {Q : VK} (h : tA K W (attM n ((cls.filter fun c => c.fs.contains n).map (·.nm)) f) σ H Q) : tXw K n (tA K W f) σ H Q := by
  obtain ⟨R, ρ, rr, hk, e, hf, q⟩ := h
  rcases bind_ok hf with ⟨a, ρ1, h1, h2⟩ | ⟨x, ρ1, h1, rfl⟩
  · refine ⟨R, ρ, _, hk, e, h1, fun R1 x H1 n1 r1 => ?_⟩
    unfold Mo.bind deref at h2
    cases k1 : deref1 ρ1 a with
    | none => simp [k1] at h2
    | some d =>
      cases d with
      | exc c fs =>
        by_cases hok : ((cls.filter fun c => c.fs.contains n).map (·.nm)).contains c = true
        · cases k2 : fs.lookup n with
          | none => simp only [k1, attD, if_pos hok, k2, Mo.lift] at h2; cases h2
          | some v =>
            simp only [k1, attD, if_pos hok, k2, Mo.lift, Mo.pure] at h2
            cases h2
            have hok2 : ∃ a, (a ∈ cls ∧ n ∈ a.fs) ∧ a.nm = c := by simpa using hok
            obtain ⟨ci, ⟨m2, m3⟩, rfl⟩ := hok2
            have mb := hnb ci m2 m3
            obtain ⟨p, vs, rfl, hx, hn, hv⟩ := (deref1_ok n1.en r1 k1).exc
            have hk1 := n1.k.trans hk
            obtain ⟨d, g1, g2, g3⟩ := hx
            rw [hk1] at g1
            rcases g3 with ⟨g3, _⟩ | ⟨dd, rfl, g4, _⟩
            · subst g3
              cases fs with
              | nil => cases k2
              | cons a b => simp at hn
            · have key : ∀ {fs : List (Str × Mi.D)} {vs : List (Str × V)}, vs.map (·.1) = fs.map (·.1) → DRs R1 H1 (fs.map (·.2)) (vs.map (·.2)) → fs.lookup n = some v → ∃ y, vs.lookup n = some y ∧ DR R1 H1 v y := by
                intro fs
                induction fs with
                | nil => intro vs _ _ h; cases h
                | cons p fs ih =>
                  intro vs e1 e2 e3
                  cases vs with
                  | nil => cases e1
                  | cons p' vs =>
                    obtain ⟨a, b⟩ := p
                    obtain ⟨a', b'⟩ := p'
                    simp only [List.map_cons, List.cons.injEq] at e1 e2
                    obtain ⟨rfl, e1⟩ := e1
                    cases e2 with
                    | cons z1 z2 =>
                      rw [List.lookup_cons] at e3 ⊢
                      split at e3
                      · cases e3
                        exact ⟨b', rfl, z1⟩
                      · exact ih e1 z2 e3
              obtain ⟨y, y1, y2⟩ := key hn hv k2
              exact ⟨p, _, dd, vs, y, rfl, g1, hc.is ci m2 mb, hc.noat ci m2 mb n m3, g4, y1, q R1 y H1 n1 y2⟩
        · simp only [k1, attD, if_neg hok, Mo.lift] at h2
          cases h2
      | _ => simp [k1, attD, Mo.lift] at h2
  · exact ⟨R, ρ, _, hk, e, h1, q⟩
end
end Mi
set_option Elab.async false
set_option linter.all false
set_option maxRecDepth 100000
set_option maxHeartbeats 2000000
/-! Y2: raise and try as statements of the small language -/
namespace Mi
open PySem PySem.Spec L2 Xb
open PyProof.Rows hiding St
def raiseM (c : Str) (fs : List Str) (es : Mo (List Hd)) : Ms := Mo.bind es fun hs => Mo.bind (freezes hs) fun ds ρ => if ds.length = fs.length then some (.ex ⟨c, (fs.zip ds).reverse⟩ ρ) else none
/-- an except clause: what it catches, the slot of its name, its suite -/
structure Hn where
  tab : List (Str × Bool)
  o : Option Nat
  m : Ms
def catchM (x : Xc) : List Hn → Ms
  | [] => fun ρ => some (.ex x ρ)
  | h :: r => fun ρ => match h.tab.lookup x.c with
    | some true => (match h.o with
      | none => (match h.m ρ with
        | some (.ok fl ρ') => some (.ok fl ρ')
        | _ => none)
      | some i => if i < ρ.length then (match h.m (ρ.set i (.v (.exc x.c x.fs))) with
        | some (.ok (.rt fr) ρ') => some (.ok (.rt fr) ρ')
        | some (.ok fl ρ') => some (.ok fl (ρ'.set i .no))
        | _ => none) else none)
    | some false => catchM x r ρ
    | none => none
def tryM (b : Ms) (hs : List Hn) : Ms := fun ρ => match b ρ with
  | some (.ok fl ρ') => some (.ok fl ρ')
  | some (.ex x ρ') => catchM x hs ρ'
  | none => none
section
variable {K : PySem.W.Frag} {W : WX} {σ : St} {H : Hp} {D : Ends} {cls : List ClI} {P : Program} {mg : Str → Option Value}
theorem map_zip1 {fs : List Str} {ds : List α} (h : ds.length = fs.length) : ((fs.zip ds).reverse).map (·.1) = fs.reverse := by
  rw [List.map_reverse, List.map_fst_zip (by omega)]
theorem map_zip2 {fs : List Str} {ds : List α} (h : ds.length = fs.length) : ((fs.zip ds).reverse).map (·.2) = ds.reverse := by
  rw [List.map_reverse, List.map_snd_zip (by omega)]
theorem raiseM_ok {c : Str} {fs : List Str} {es : Mo (List Hd)} (h : tS K W (raiseM c fs es) D σ H) : tMkB (He.ga K c) fs (tAs K W es) σ H fun cl d H' => W cl d σ H' := by
  obtain ⟨R, ρ, r, hk, e, hf, q⟩ := h
  rcases bind_ok hf with ⟨hs, ρ1, h1, h2⟩ | ⟨x, ρ1, h1, rfl⟩
  · refine ⟨R, ρ, _, hk, e, h1, fun R1 vs H1 n1 r1 => ?_⟩
    rcases bind_ok h2 with ⟨ds, ρ2, h3, h4⟩ | ⟨x, ρ2, h3, h4⟩
    · obtain ⟨ds', ρ2', z, R2, n2, r2⟩ := freezes_ok n1.en r1 h3
      cases z
      split at h4
      · rename_i hl
        cases h4
        have hv : vs.length = fs.length := r2.len.symm.trans hl
        refine ⟨hv, ?_⟩
        have hk2 : R2.K = K := (n2.k.trans n1.k).trans hk
        by_cases hf0 : fs = []
        · subst hf0
          exact .inl ⟨rfl, q R2 σ H1 (.ref (He.ga K c)) none (n1.trans n2).ns ⟨by rw [hk2], .inl ⟨by simp, rfl⟩⟩⟩
        · refine .inr ⟨hf0, fun d H' hd hoth hx => ?_⟩
          have ex : Evl.Ex H1 H' := fun b o hb => by
            rw [hoth b (fun z => by rw [z, hd] at hb; cases hb)]
            exact hb
          have n3 := Nx.ex n2.en ex
          have nm : ¬ R2.M d := fun z => by
            obtain ⟨o, ho⟩ := n2.en.tr d z
            rw [hd] at ho
            cases ho
          refine q R2 σ H' (.ref (He.ga K c)) (some d) (n1.trans (n2.trans n3)).ns ⟨by rw [hk2], .inr ⟨d, _, rfl, hx, nm, ?_, ?_⟩⟩
          · rw [map_zip1 hv, map_zip1 hl]
          · rw [map_zip2 hv, map_zip2 hl]
            exact (r2.to (n3.to n2.en)).reverse
      · cases h4
    · obtain ⟨ds', ρ2', z, _⟩ := freezes_ok n1.en r1 h3
      cases z
  · exact ⟨R, ρ, _, hk, e, h1, fun R' H' cl d n er => q R' σ H' cl d n.ns er⟩
/-- what holds of a tracked exception -/
theorem mk_dr {R : RC} {H : Hp} {ρ : En} {x : Xc} {cl : Value} {d : Option Addr} {a : Addr} (e : EnR R H ρ σ) (er : ExR R H x cl d) (ha : H a = none) : DR R (upd H a (exwv a cl d)) (.exc x.c x.fs) (.ref a) ∧ Nx R ρ σ H R ρ (upd H a (exwv a cl d)) := by
  have ex : Evl.Ex H (upd H a (exwv a cl d)) := fun b o hb => by
    rw [upd_ne (fun z => by rw [z, ha] at hb; cases hb)]
    exact hb
  have nx := Nx.ex e ex
  have nm : ¬ R.M a := fun z => by
    obtain ⟨o, ho⟩ := e.tr a z
    rw [ha] at ho
    cases ho
  refine ⟨?_, nx⟩
  have h1 : upd H a (exwv a cl d) a = some (exw a (He.ga R.K x.c) d) := by
    rw [upd_same, er.1]
    rfl
  rcases er.2 with ⟨f1, f2⟩ | ⟨dd, vs, rfl, g1, g2, g3, g4⟩
  · refine .exc (vs := []) ⟨d, h1, nm, .inl ⟨rfl, f2⟩⟩ (by rw [f1]; rfl) (by rw [f1]; exact .nil)
  · exact .exc ⟨some dd, h1, nm, .inr ⟨dd, rfl, ex _ _ g1, g2⟩⟩ g3 (g4.to (nx.to e))
/-- an own exception, made -/
def mkM (c : Str) (fs : List Str) (es : Mo (List Hd)) : Mo Hd := Mo.bind es fun hs => Mo.bind (freezes hs) fun ds ρ => if ds.length = fs.length then some (.ok (.val (.exc c (fs.zip ds).reverse)) ρ) else none
theorem mkM_ok {c : Str} {fs : List Str} {es : Mo (List Hd)} {Q : VK} (h : tA K W (mkM c fs es) σ H Q) : tMkB (He.ga K c) fs (tAs K W es) σ H fun cl d H' => ∀ a, H' a = none → Q (.ref a) (upd H' a (exwv a cl d)) := by
  obtain ⟨R, ρ, r, hk, e, hf, q⟩ := h
  rcases bind_ok hf with ⟨hs, ρ1, h1, h2⟩ | ⟨x, ρ1, h1, rfl⟩
  · refine ⟨R, ρ, _, hk, e, h1, fun R1 vs H1 n1 r1 => ?_⟩
    rcases bind_ok h2 with ⟨ds, ρ2, h3, h4⟩ | ⟨x, ρ2, h3, h4⟩
    · obtain ⟨ds', ρ2', z, R2, n2, r2⟩ := freezes_ok n1.en r1 h3
      cases z
      split at h4
      · rename_i hl
        cases h4
        have hv : vs.length = fs.length := r2.len.symm.trans hl
        refine ⟨hv, ?_⟩
        have hk2 : R2.K = K := (n2.k.trans n1.k).trans hk
        by_cases hf0 : fs = []
        · subst hf0
          refine .inl ⟨rfl, fun a ha => ?_⟩
          obtain ⟨k1, k2⟩ := mk_dr (x := ⟨c, (([] : List Str).zip ds).reverse⟩) (cl := .ref (He.ga K c)) (d := none) n2.en ⟨by rw [hk2], .inl ⟨by simp, rfl⟩⟩ ha
          exact q R2 (.ref a) _ (n1.trans (n2.trans k2)) k1
        · refine .inr ⟨hf0, fun d H' hd hoth hx a ha => ?_⟩
          have ex : Evl.Ex H1 H' := fun b o hb => by
            rw [hoth b (fun z => by rw [z, hd] at hb; cases hb)]
            exact hb
          have n3 := Nx.ex n2.en ex
          have nm : ¬ R2.M d := fun z => by
            obtain ⟨o, ho⟩ := n2.en.tr d z
            rw [hd] at ho
            cases ho
          have er : ExR R2 H' ⟨c, (fs.zip ds).reverse⟩ (.ref (He.ga K c)) (some d) := by
            refine ⟨by rw [hk2], .inr ⟨d, _, rfl, hx, nm, ?_, ?_⟩⟩
            · rw [map_zip1 hv, map_zip1 hl]
            · rw [map_zip2 hv, map_zip2 hl]
              exact (r2.to (n3.to n2.en)).reverse
          obtain ⟨k1, k2⟩ := mk_dr n3.en er ha
          exact q R2 (.ref a) _ (n1.trans (n2.trans (n3.trans k2))) k1
      · cases h4
    · obtain ⟨ds', ρ2', z, _⟩ := freezes_ok n1.en r1 h3
      cases z
  · exact ⟨R, ρ, _, hk, e, h1, q⟩
theorem unset_ns {R R' : RC} {ρ ρ' : En} {σ σ' : St} {H H' : Hp} (n : Ns R ρ σ H R' ρ' σ' H') (i : Nat) : Ns R ρ σ H R' (ρ'.set i .no) (σ'.set i none) H' := by
  have ow : ∀ {j : Nat} {l : Bool} {o : Ow}, (ρ'.set i .no)[j]? = some (.own l o) → i ≠ j ∧ ρ'[j]? = some (.own l o) := fun {j l o} h => by
    rcases set_get h with ⟨_, z, _⟩ | ⟨hne, h⟩
    · cases z
    · exact ⟨hne, h⟩
  have sg : ∀ {j : Nat}, i ≠ j → (σ'.set i none)[j]? = σ'[j]? := fun h => List.getElem?_set_ne h
  refine ⟨⟨by rw [List.length_set, List.length_set]; exact n.en.len, fun j s h => ?_, fun j k l m o u hjk hj hk => ?_, n.en.tr, n.en.tb, n.en.nt⟩, n.k, n.m, n.cov, n.h, fun a h => ?_, fun j o h => ?_, fun a h => ?_, n.al⟩
  · rcases set_get h with ⟨rfl, e, hl⟩ | ⟨hne, h⟩
    · subst e
      exact ⟨none, List.getElem?_set_self (by rw [← n.en.len]; exact hl), trivial⟩
    · obtain ⟨y, h1, h2⟩ := n.en.sl j s h
      exact ⟨y, by rw [sg hne]; exact h1, h2⟩
  · obtain ⟨a1, a2⟩ := ow hj
    obtain ⟨b1, b2⟩ := ow hk
    rw [sg a1, sg b1]
    exact n.en.ap j k l m o u hjk a2 b2
  · obtain ⟨j, l, o, h1, h2⟩ := h
    obtain ⟨a1, a2⟩ := ow h1
    exact n.own a ⟨j, l, o, a2, by rw [← sg a1]; exact h2⟩
  · obtain ⟨a1, a2⟩ := ow h
    obtain ⟨g1, g2⟩ := n.lent j o a2
    exact ⟨g1, by rw [sg a1]; exact g2⟩
  · obtain ⟨j, o, h1, h2⟩ := h
    obtain ⟨a1, a2⟩ := ow h1
    exact n.ownF a ⟨j, o, a2, by rw [← sg a1]; exact h2⟩
theorem exmAny_ok (hc : ClsOk P K mg cls) {ci : ClI} (m1 : ci ∈ cls) (mb : ci.b = none) : ∀ {ts : List ClI}, (∀ t ∈ ts, t ∈ cls) → PySem.W.exmAny K (.ref (He.ga K ci.nm)) (ts.map fun t => t.v K) = some ((ts.map (·.nm)).any fun t => ci.mro.contains t)
  | [], _ => rfl
  | t :: ts, h => by
    have ih := exmAny_ok hc m1 mb (ts := ts) fun t ht => h t (List.mem_cons_of_mem _ ht)
    have e := hc.exm ci m1 mb t (h t (List.mem_cons_self ..))
    simp only [List.map_cons, List.any_cons, PySem.W.exmAny, e, ih]
/-- the clauses, by their classes -/
def HnsOf (cls : List ClI) : List Hn → List (List ClI) → Prop
  | [], [] => True
  | h :: hs, ts :: r => h.tab = tabOf cls (ts.map (·.nm)) ∧ (∀ t ∈ ts, t ∈ cls) ∧ HnsOf cls hs r
  | _, _ => False
def hnL (K : PySem.W.Frag) (W : WX) : List Hn → List (List ClI) → List (List Value × Option Nat × TS)
  | h :: hs, ts :: r => (ts.map fun t => t.v K, h.o, tS K W h.m) :: hnL K W hs r
  | _, _ => []
theorem catchM_ok (hc : ClsOk P K mg cls) {R R' : RC} {ρ ρ' : En} {σ' : St} {H' : Hp} {r : R3 Fl} {x : Xc} {cl : Value} {d : Option Addr} (hk : R.K = K) (e : EnR R H ρ σ) (n : Ns R ρ σ H R' ρ' σ' H') (er : ExR R' H' x cl d) (q : AfterS W R ρ σ H D r) :
    ∀ {hs : List Hn} {ts : List (List ClI)}, HnsOf cls hs ts → catchM x hs ρ' = some r → wHs K W D (hnL K W hs ts) cl d σ' H'
  | [], [], _, hf => by
    cases hf
    exact q R' σ' H' cl d n er
  | [], _ :: _, h, _ => h.elim
  | _ :: _, [], h, _ => h.elim
  | h :: hs, ts :: r', ⟨h1, h2, h3⟩, hf => by
    unfold catchM at hf
    cases hl : h.tab.lookup x.c with
    | none => simp [hl] at hf
    | some bb =>
      simp only [hl] at hf
      obtain ⟨ci, m1, mb, e1, e2⟩ := tabOf_ok (by rw [← h1]; exact hl)
      have hk' : R'.K = K := n.k.trans hk
      have hcl : cl = .ref (He.ga K ci.nm) := by rw [er.1, hk', e1]
      refine ⟨bb, by rw [hcl, exmAny_ok hc m1 mb h2, ← e2], fun hbt => ?_, fun hbf => ?_⟩
      · subst hbt
        cases ho : h.o with
        | none =>
          simp only [ho] at hf
          dsimp only
          cases hm : h.m ρ' with
          | none => simp [hm] at hf
          | some r2 =>
            cases r2 with
            | ex x2 ρ2 => simp [hm] at hf
            | ok fl ρ2 =>
              simp only [hm] at hf
              cases hf
              exact ⟨R', ρ', _, hk', n.en, hm, q.ns e n⟩
        | some i =>
          simp only [ho] at hf
          dsimp only
          intro a ha
          by_cases hi : i < ρ'.length
          · rw [if_pos hi] at hf
            have hσ : i < σ'.length := by rw [← n.en.len]; exact hi
            have ex : Evl.Ex H' (upd H' a (exwv a cl d)) := fun b o hb => by
              rw [upd_ne (fun z => by rw [z, ha] at hb; cases hb)]
              exact hb
            have nx := Nx.ex n.en ex
            have n1 := Ns.trans e n nx.ns
            have nm : ¬ R'.M a := fun z => by
              obtain ⟨o, ho⟩ := n.en.tr a z
              rw [ha] at ho
              cases ho
            have dr : DR R' (upd H' a (exwv a cl d)) (.exc x.c x.fs) (.ref a) := by
              have h1 : upd H' a (exwv a cl d) a = some (exw a (He.ga R'.K x.c) d) := by
                rw [upd_same, er.1]
                rfl
              rcases er.2 with ⟨f1, f2⟩ | ⟨dd, vs, rfl, g1, g2, g3, g4⟩
              · refine .exc (vs := []) ⟨d, h1, nm, .inl ⟨rfl, f2⟩⟩ (by rw [f1]; rfl) (by rw [f1]; exact .nil)
              · exact .exc ⟨some dd, h1, nm, .inr ⟨dd, rfl, ex _ _ g1, g2⟩⟩ g3 (g4.to (nx.to n.en))
            have n2 := set_ns2 (fr := .dat (.exc x.c x.fs)) n1 dr i
            have q2 := q.ns e n2
            cases hm : h.m (ρ'.set i (.v (.exc x.c x.fs))) with
            | none => simp [hm] at hf
            | some r2 =>
              cases r2 with
              | ex x2 ρ2 => simp [hm] at hf
              | ok fl ρ2 =>
                refine ⟨R', _, _, hk', n2.en, hm, ?_⟩
                cases fl with
                | nx =>
                  simp only [hm] at hf
                  cases hf
                  exact fun R3 σ3 H3 n3 => q2 R3 _ H3 (unset_ns n3 i)
                | bk =>
                  simp only [hm] at hf
                  cases hf
                  exact fun R3 σ3 H3 n3 => q2 R3 _ H3 (unset_ns n3 i)
                | ct =>
                  simp only [hm] at hf
                  cases hf
                  exact fun R3 σ3 H3 n3 => q2 R3 _ H3 (unset_ns n3 i)
                | rt fr =>
                  simp only [hm] at hf
                  cases hf
                  exact fun R3 σ3 H3 x n3 fr => q2 R3 σ3 H3 x n3 fr
          · rw [if_neg hi] at hf
            cases hf
      · subst hbf
        exact catchM_ok hc hk e n er q h3 hf
theorem tryM_ok (hc : ClsOk P K mg cls) {b : Ms} {hs : List Hn} {ts : List (List ClI)} (hh : HnsOf cls hs ts) (h : tS K W (tryM b hs) D σ H) : tS K (wHs K W D (hnL K W hs ts)) b D σ H := by
  obtain ⟨R, ρ, r, hk, e, hf, q⟩ := h
  unfold tryM at hf
  cases hb : b ρ with
  | none => simp [hb] at hf
  | some r0 =>
    cases r0 with
    | ok fl ρ' =>
      simp [hb] at hf
      subst hf
      refine ⟨R, ρ, _, hk, e, hb, ?_⟩
      cases fl <;> exact q
    | ex x ρ' =>
      simp only [hb] at hf
      exact ⟨R, ρ, _, hk, e, hb, fun R' σ' H' cl d n er => catchM_ok hc hk e n er q hh hf⟩
end
end Mi
set_option Elab.async false
set_option linter.all false
set_option maxRecDepth 100000
set_option maxHeartbeats 4000000
/-! B1: list(text) -/
namespace Bb
open PySem PySem.Spec PyProof.Rows L2
section
variable {prog : Program} {w : World} {A : Around} {E : Value → Shared → Prop} {s : Shared}
theorem hint_str {x : Str} {t : Tok} {Q : Bool → Shared → Prop} (h : Q false s) : wpAny (model prog w) A (Builtin.List.listLengthHint (.str x t)) Q E s := by
  have hT : s.TypeIs (.str x t) "str" := typeIs_str s x t
  unfold Builtin.List.listLengthHint
  refine wpAny_bind (wpAny_specialOf hT F.slot_str_len.lookup ?_)
  generalize hid : ("str.__len__" : String) = id0
  wp_delta
  rw [show splitId id0 = some ("str", "__len__") from by subst hid; decide +kernel]
  subst hid
  refine wpAny_bind (wpAny_isInstance (T := "str") (b := true) hT (by rw [isSubtype_type]; kernel_rfl) ?_)
  refine wpAny_ite_split (fun hab => absurd hab (by decide)) (fun _ => ?_)
  refine wpAny_ite_split (fun _ => ?_) (fun hab => absurd (by decide +kernel) hab)
  refine wpAny_bind (wpAny_typeOf hT ?_)
  exact wpAny_pure h
theorem extend_str {R : Result → Shared → Prop} (hh : A.handled = none) (x : Str) (t : Tok) (S : Addr) (res : Value) (c₀ : Nat) (hS : s.heap.get? S = some { cls := .type "list", data := .seq #[] c₀ })
    (hR : ∀ h' tk acc' c', (∀ b o, b ≠ S → s.heap.get? b = some o → h'.get? b = some o) → h'.get? S = some { cls := .type "list", dict := none, data := .seq acc' c', slots := #[] } →
      ItemsOf (SignAt x) acc' x.cps.size → R (.ok (.ret res)) { s with heap := h', toks := tk }) (hn : x.cps.size ≤ sizeLine) :
    wpAny (model prog w) A.in1 (Builtin.List.listExtendWith (.ref S) (.str x t) res)
      (fun fin s' => match fin with | .done f => R (.ok f) s' | .again c' => c'.quiet = true ∧ codeAny (model prog w) A c' R s') (fun e s' => R (.error e) s') s := by
  have hSI : S ≠ s.heap.objs.size := Nat.ne_of_lt (Heap.lt_size hS)
  have hSf : S ∉ [s.heap.objs.size] := fun hm => hSI (List.mem_singleton.mp hm)
  unfold Builtin.List.listExtendWith
  refine wpAny_bind (wpAny_typeOf (T := "str") (v := .str x t) (typeIs_str s x t) ?_)
  have h1 : Builtin.List.listSameRef (.ref S) (.str x t) = false := rfl
  have h2 : (Value.type "str" == Value.type "list") = false := by decide
  have h3 : (Value.type "str" == Value.type "tuple") = false := by decide
  simp only [h1, h2, h3, Bool.or_false, Bool.false_eq_true, if_false]
  cases ha : x.cps.all (· < 128)
  · refine wpAny_bind (wpAny_pyIter_wide ha ?_)
    refine wpAny_bind (wpAny_holding (hint_str ?_))
    rw [if_neg (by first | decide | decide +kernel)]
    have W := Walks.strWide (prog := prog) (w := w) (A := A.in1) hh s.heap.objs.size x t
    refine wpAny_pure ⟨plainId_quiet PySem.F.plain_extend_loop _, codeAny_extend_loopS W.toS hn _ hSf _ x.cps.size 0 _ _ _ rfl (Nat.zero_le _) ⟨_, Heap.get?_push_size _ rfl, rfl, rfl⟩ (Heap.get?_push_of_some _ hS) (ItemsOf.nil _) fun s' acc' c' hm hS' hacc => ?_⟩
    rw [Moved.eq_with hm]
    refine hR s'.heap s'.toks acc' c' (fun b ob hb e => hm.heap b ob (fun hmem => ?_) (Heap.get?_push_of_some _ e)) hS' hacc
    rcases List.mem_cons.mp hmem with e' | hmem
    · exact hb e'
    · exact absurd (Heap.lt_size e) (by rw [List.mem_singleton.mp hmem]; exact Nat.lt_irrefl _)
  · refine wpAny_bind (wpAny_pyIter_ascii ha ?_)
    refine wpAny_bind (wpAny_holding (hint_str ?_))
    rw [if_neg (by first | decide | decide +kernel)]
    have W := Walks.strAscii (prog := prog) (w := w) (A := A.in1) hh s.heap.objs.size x t
    refine wpAny_pure ⟨plainId_quiet PySem.F.plain_extend_loop _, codeAny_extend_loopS W.toS hn _ hSf _ x.cps.size 0 _ _ _ rfl (Nat.zero_le _) ⟨_, Heap.get?_push_size _ rfl, rfl, rfl⟩ (Heap.get?_push_of_some _ hS) (ItemsOf.nil _) fun s' acc' c' hm hS' hacc => ?_⟩
    rw [Moved.eq_with hm]
    refine hR s'.heap s'.toks acc' c' (fun b ob hb e => hm.heap b ob (fun hmem => ?_) (Heap.get?_push_of_some _ e)) hS' hacc
    rcases List.mem_cons.mp hmem with e' | hmem
    · exact hb e'
    · exact absurd (Heap.lt_size e) (by rw [List.mem_singleton.mp hmem]; exact Nat.lt_irrefl _)
theorem list_init_str {R : Result → Shared → Prop} (hh : A.handled = none) (x : Str) (t : Tok) (S : Addr) (hS : s.heap.get? S = some { cls := .type "list", data := .seq #[] })
    (hR : ∀ h' tk acc' c', (∀ b o, b ≠ S → s.heap.get? b = some o → h'.get? b = some o) → h'.get? S = some { cls := .type "list", dict := none, data := .seq acc' c', slots := #[] } →
      ItemsOf (SignAt x) acc' x.cps.size → R (.ok (.ret .none)) { s with heap := h', toks := tk }) (hn : x.cps.size ≤ sizeLine) :
    wpAny (model prog w) A.in1 (Builtin.«list.__init__» ⟨[.ref S, .str x t], []⟩)
      (fun fin s' => match fin with | .done f => R (.ok f) s' | .again c' => c'.quiet = true ∧ codeAny (model prog w) A c' R s') (fun e s' => R (.error e) s') s := by
  show wpAny _ _ (do let old ← Builtin.List.listItems (.ref S); Builtin.List.listUpdate (.ref S) (fun _ => #[]); letGo old.toList.reverse; Builtin.List.listExtendWith (.ref S) (.str x t) .none) _ _ s
  refine wpAny_bind ?_
  unfold Builtin.List.listItems
  refine wpAny_bind (wpAny_seqItems hS rfl (wpAny_pure ?_))
  show wpAny _ _ (updateSeq S (fun _ => #[]) >>= fun _ => letGo (#[] : Array Value).toList.reverse >>= fun _ => Builtin.List.listExtendWith (.ref S) (.str x t) .none) _ _ s
  refine wpAny_bind (wpAny_updateSeq hS rfl ?_)
  have hS₂ := Heap.get?_update_self (Obj.mapSeq (fun _ => (#[] : Array Value))) hS rfl
  have oth : ∀ b o, b ≠ S → s.heap.get? b = some o → (s.heap.update S (Obj.mapSeq (fun _ => (#[] : Array Value)))).get? b = some o :=
    fun b o hb e => (Heap.get?_update_other _ _ (Ne.symm hb)).trans e
  refine wpAny_bind (wpAny_letGo ?_)
  refine extend_str hh x t S .none _ hS₂ (fun h' tk acc' c' hk hS' hacc => ?_) hn
  exact hR h' tk acc' c' (fun b o hb e => hk b o hb (oth b o hb e)) hS' hacc
theorem call_list_str {x : Str} {t : Tok} {Q : Value → Shared → Prop} (hh : A.handled = none) (hn : x.cps.size ≤ sizeLine)
    (hQ : ∀ h' tk acc' c', (∀ b o, s.heap.get? b = some o → h'.get? b = some o) →
      h'.get? s.heap.objs.size = some { cls := .type "list", dict := none, data := .seq acc' c', slots := #[] } → ItemsOf (SignAt x) acc' x.cps.size → Q (.ref s.heap.objs.size) { s with heap := h', toks := tk }) :
    wpAny (model prog w) A (call (.type "list") [.str x t]) Q E s := by
  refine callType_codes (Q₁ := fun obj s₁ => obj = .ref s.heap.objs.size ∧ s₁ = { s with heap := s.heap.push { cls := .type "list", data := .seq #[] } }) PySem.F.called_list (PySem.F.typeCall_list_1 _) PySem.F.entry_list_init
    (code_list_new _ ⟨rfl, rfl⟩) fun obj s₁ h₁ => ?_
  obtain ⟨rfl, rfl⟩ := h₁
  have hS : (s.heap.push { cls := .type "list", data := .seq #[] }).get? s.heap.objs.size = some { cls := .type "list", data := .seq #[] } := Heap.get?_push_size _ rfl
  refine ⟨⟨_, hS, rfl⟩, PySem.F.args_list_init_2 _ _, list_init_str (A := A.in1) hh x t _ hS (fun h' tk acc' c' hk hS' hacc => ?_) hn⟩
  exact ⟨rfl, hQ h' tk acc' c' (fun b o e => hk b o (Nat.ne_of_lt (Heap.lt_size e)) (Heap.get?_push_of_some _ e)) hS' hacc⟩
end
/-- the signs of a text, as texts -/
def sgs (x : Str) : List V := x.cps.toList.map fun c => V.str ⟨#[c]⟩
def rListS : List V → Hp → VK → Prop := fun xs H Q => ∃ x, xs = [V.str x] ∧ x.length ≤ sizeLine ∧ ∀ q, H q = none → Q (.ref q) (upd H q (.lst (sgs x)))
theorem cr_listS {X : Cx} (hc : X.calm = true) : CallR X (.type "list") rListS := by
  intro pins s σ H xs us Q I r h
  obtain ⟨x, rfl, hz, q⟩ := h
  obtain ⟨u, rfl, ru⟩ := vals1 r
  obtain ⟨t, rfl⟩ := ru
  refine call_list_str (I.ok.hd hc) hz fun h' tk acc c' hk e hi => ?_
  have hlen : (sgs x).length = x.cps.size := by
    unfold sgs
    rw [List.length_map, Array.length_toList]
  refine ⟨.ref s.heap.objs.size, upd H s.heap.objs.size (.lst (sgs x)), I.laid hk (Nat.le_refl _) ⟨by rw [hlen]; exact hz, acc.toList, c', ?_, by rw [Array.toArray_toList]; exact e⟩, rfl, q _ (I.hok.fresh (Nat.le_refl _))⟩
  refine vals_of_idx _ _ (by rw [hlen, Array.length_toList]; exact hi.1) fun j u hj => ?_
  obtain ⟨c, t', hc, rfl⟩ := hi.2 j u (by rw [← Array.getElem?_toList]; exact hj)
  refine ⟨.str ⟨#[c]⟩, ?_, ⟨_, rfl⟩⟩
  unfold sgs
  rw [List.getElem?_map, Array.getElem?_toList, hc]
  rfl
end Bb
set_option Elab.async false
set_option linter.all false
set_option maxRecDepth 100000
set_option maxHeartbeats 4000000
/-! B2: sorted(texts), any number of them -/
namespace Bb
open PySem PySem.Spec PyProof.Rows L2
/-- the sorted texts -/
def leS (a b : List Nat) : Bool := !decide (b < a)
def srtS (xs : List (List Nat)) : List (List Nat) := xs.mergeSort leS
theorem leS_tot (a b : List Nat) : (leS a b || leS b a) = true := by
  unfold leS
  by_cases h : b < a
  · have h2 : ¬ a < b := fun z => List.lt_irrefl _ (List.lt_trans z h)
    simp [h, h2]
  · simp [h]
theorem leS_trans (a b c : List Nat) (h1 : leS a b = true) (h2 : leS b c = true) : leS a c = true := by
  unfold leS at *
  simp only [Bool.not_eq_true', decide_eq_false_iff_not] at *
  have h3 := List.le_trans (List.not_lt.mp h1) (List.not_lt.mp h2)
  exact List.not_lt.mpr h3
theorem leS_anti {a b : List Nat} (h1 : leS a b = true) (h2 : leS b a = true) : a = b := by
  unfold leS at *
  simp only [Bool.not_eq_true', decide_eq_false_iff_not] at *
  exact List.le_antisymm (List.not_lt.mp h1) (List.not_lt.mp h2)
theorem rising_pw : ∀ {l : List Str} {p : Str}, risingS p l = true → (p :: l).Pairwise fun a b => leS a.cps.toList b.cps.toList = true
  | [], p, _ => List.pairwise_singleton _ _
  | x :: r, p, h => by
    unfold risingS at h
    simp only [Bool.and_eq_true, Bool.not_eq_true'] at h
    obtain ⟨h1, h2⟩ := h
    have ih := rising_pw h2
    refine List.pairwise_cons.mpr ⟨fun y hy => ?_, ih⟩
    have e1 : leS p.cps.toList x.cps.toList = true := by
      rw [ltCps_eq] at h1
      unfold leS
      rw [h1]
      rfl
    rcases List.mem_cons.mp hy with rfl | hy
    · exact e1
    · exact leS_trans _ _ _ e1 ((List.pairwise_cons.mp ih).1 y hy)
theorem sorted_pw {l : List Str} (h : sortedS l = true) : l.Pairwise fun a b => leS a.cps.toList b.cps.toList = true := by
  cases l with
  | nil => exact List.Pairwise.nil
  | cons p l => exact rising_pw h
theorem srtS_of {xs ys : List Str} (hp : ys.Perm xs) (hs : sortedS ys = true) : ys.map (fun y => y.cps.toList) = srtS (xs.map fun y => y.cps.toList) := by
  have h1 : (ys.map fun y => y.cps.toList).Pairwise fun a b => leS a b = true := List.pairwise_map.mpr (sorted_pw hs)
  have h2 := List.pairwise_mergeSort (le := leS) leS_trans leS_tot (xs.map fun y => y.cps.toList)
  have h3 : (ys.map fun y => y.cps.toList).Perm (srtS (xs.map fun y => y.cps.toList)) := (hp.map _).trans (List.mergeSort_perm _ _).symm
  exact List.Perm.eq_of_pairwise (le := fun a b => leS a b = true) (fun a b _ _ h1 h2 => leS_anti h1 h2) h1 h2 h3
def rSortedSA (K : PySem.W.Frag) : List V → Hp → VK → Prop := fun vs H Q => ∃ (a : Addr) (xs : List Str), vs = [V.ref a] ∧ SqL K H a (xs.map V.str) ∧
  ∀ (ys : List Str) (p : Addr), ys.Perm xs → sortedS ys = true → H p = none → Q (.ref p) (upd H p (.lst (ys.map V.str)))
theorem cr_sortedSA {X : Cx} : CallR X (.builtin "sorted") (rSortedSA X.K) := by
  intro pins s σ H vs us Q I r h
  obtain ⟨a, xs, rfl, hs, q⟩ := h
  obtain ⟨its, rv, hl, hz⟩ := I.list hs
  rw [Vals.ref1 r]
  have hlen0 := rv.length
  rw [List.length_map] at hlen0
  have hz2 : xs.length ≤ sizeLine := by rw [List.length_map] at hz; exact hz
  refine sorted_strsAny hl.isList rv.strs (by rw [← hlen0]; exact hz2) fun out ys h1 h2 h3 => ?_
  obtain ⟨ep, he'⟩ := PyProof.Rows.sortedAll_at s.heap its out
  have hlen : (ys.map V.str).length ≤ sizeLine := by rw [List.length_map, h2.length_eq]; exact hz2
  exact ⟨.ref _, upd H (s.heap.objs.size + 1) (.lst (ys.map V.str)), I.laid (t' := s.toks) (fun _ _ => PyProof.Rows.sortedAll_old) (Nat.le_succ _) ⟨hlen, out.toList, ep, vals_of_strs h1, he'⟩, rfl, q ys _ h2 h3 (I.hok.fresh (Nat.le_succ _))⟩
end Bb
set_option Elab.async false
set_option linter.all false
set_option maxRecDepth 100000
set_option maxHeartbeats 4000000
/-! B3: len(set(texts)), any texts (the road of HandS.Strs, for several) -/
namespace Bb
open PySem PySem.Spec PyProof.Rows L2 SS
/-- what was met among the first i, once each -/
def ded (xs : List Str) (i : Nat) : List Str := (xs.take i).foldl step_dedup []
theorem ded_succ {xs : List Str} {i : Nat} (h : i < xs.length) : ded xs (i + 1) = step_dedup (ded xs i) (xs.getD i Str.empty) := by
  unfold ded
  rw [List.take_succ, List.getElem?_eq_getElem h, List.getD_eq_getElem?_getD, List.getElem?_eq_getElem h, List.foldl_append]
  rfl
theorem ded_le (xs : List Str) : ∀ i, (ded xs i).length ≤ i := by
  intro i
  have go : ∀ (l : List Str) (a : List Str), (l.foldl step_dedup a).length ≤ a.length + l.length := by
    intro l
    induction l with
    | nil => intro a; simp
    | cons x l ih =>
      intro a
      have h1 := ih (step_dedup a x)
      have h2 : (step_dedup a x).length ≤ a.length + 1 := by
        unfold step_dedup
        split <;> simp
      simp only [List.foldl_cons, List.length_cons]
      omega
  have h := go (xs.take i) []
  simp only [List.length_nil, List.length_take] at h
  unfold ded
  omega
theorem step_anyG (σ : List Str) (v k : Str) : (σ.any (· == k) || decide (k = v)) = (step_dedup σ v).any (· == k) := by
  unfold step_dedup
  by_cases h : σ.any (· == v) = true
  · rw [if_pos h]
    by_cases e : k = v
    · subst e
      simp [h]
    · simp [e]
  · rw [if_neg h, List.any_append]
    by_cases e : k = v
    · subst e
      simp
    · have hb : (v == k) = false := beq_eq_false_iff_ne.mpr fun z => e z.symm
      simp [e, hb]
theorem step_lenG (σ : List Str) (v : Str) : (if σ.any (· == v) = true then σ.length else σ.length + 1) = (step_dedup σ v).length := by
  unfold step_dedup
  split <;> simp
section
variable {prog : Program} {w : World} {A : Around} {R : Result → Shared → Prop} {I : Addr} {fp wr : List Addr} {G : Array GenState → Array GenState → Prop} {n : Nat} {P : Nat → Value → Prop} {St : Nat → Shared → Prop}
theorem loopD (W : WalksS prog w A.in1 I fp wr G n P St) (S : Addr) (hSf : S ∉ fp) (xs : List Str) (hsz : xs.length = n) (hb0 : n + 1 < scanBound)
    (hval : ∀ i v, P i v → ∃ t, v = .str (xs.getD i Str.empty) t) :
    ∀ (k i : Nat) (s : Shared), n - i = k → i ≤ n → St i s →
      s.heap.SetOf (PySem.strKind prog w) S (fun k' => (ded xs i).any (· == k')) (ded xs i).length →
      (∀ s', Moved (S :: wr) G s s' → s'.heap.SetOf (PySem.strKind prog w) S (fun k' => (ded xs n).any (· == k')) (ded xs n).length → R (.ok (.ret .none)) s') →
      codeAny (model prog w) A (.builtin "set.update.loop" ⟨[.ref S, .ref I], []⟩) R s := by
  have hSw : S ∉ wr := fun h => hSf (W.sub _ h)
  have hsub : ∀ b ∈ wr, b ∈ S :: wr := fun b hb => List.mem_cons_of_mem _ hb
  intro k
  induction k with
  | zero =>
    intro i s hk hi hst hS hR
    have hin : i = n := by omega
    subst hin
    refine codeAny_builtin PyProof.Rows.F.entry_set_update_loop ?_
    rw [Around.under_plainId PyProof.Rows.F.plain_set_update_loop _]
    show wpAny _ A.in1 (pyNext (.ref I) >>= _) _ _ s
    refine wpAny_bind (W.done s _ _ hst fun s' hm => ?_)
    show wpAny _ A.in1 (ret Value.none) _ _ s'
    exact wpAny_pure (hR s' (hm.mono hsub) (by
      obtain ⟨o, es, ep, t, ho, rest⟩ := hS
      exact ⟨o, es, ep, t, hm.heap S _ hSw ho, rest⟩))
  | succ k ih =>
    intro i s hk hi hst hS hR
    have hlt : i < n := by omega
    refine codeAny_builtin PyProof.Rows.F.entry_set_update_loop ?_
    rw [Around.under_plainId PyProof.Rows.F.plain_set_update_loop _]
    show wpAny _ A.in1 (pyNext (.ref I) >>= _) _ _ s
    refine wpAny_bind (W.item i s _ _ hlt hst fun v s' hP hst' hm => ?_)
    obtain ⟨t, rfl⟩ := hval i v hP
    have hS' : s'.heap.SetOf (PySem.strKind prog w) S (fun k' => (ded xs i).any (· == k')) (ded xs i).length := by
      obtain ⟨o, es, ep, tb, ho, rest⟩ := hS
      exact ⟨o, es, ep, tb, hm.heap S _ hSw ho, rest⟩
    show wpAny _ A.in1 (holding [Value.str (xs.getD i Str.empty) t] (setAdd S (.str (xs.getD i Str.empty) t)) >>= _) _ _ s'
    refine wpAny_bind (wpAny_holding ?_)
    unfold setAdd
    refine wpAny_holding ?_
    refine wpAny_bind ((PySem.strKind prog w).pyHash (k := xs.getD i Str.empty) (strKind_is _ _ _ _) ?_)
    refine wpAny_setAddHashed_of (knd := PySem.strKind prog w) (s := { s' with toks := s'.toks + 1 }) (strKind_is _ _ _ _) rfl hS' (by have := ded_le xs i; omega) fun h' hsb hS2 => ?_
    have hSi : h'.SetOf (PySem.strKind prog w) S (fun k' => (ded xs (i + 1)).any (· == k')) (ded xs (i + 1)).length :=
      SetOf_congr hS2 (fun k' => by rw [ded_succ (by omega : i < xs.length), ← step_anyG]) (by rw [ded_succ (by omega : i < xs.length), ← step_lenG])
    refine wpAny_pure ⟨plainId_quiet PyProof.Rows.F.plain_set_update_loop _, ih (i + 1) _ (by omega) hlt (W.frame _ s' _ _ hst' (Nat.le_succ _) fun b hb o e => ?_) hSi fun s'' hm'' hS'' => ?_⟩
    · rw [hsb.2 b (fun h : b = S => hSf (by rw [← h]; exact hb))]; exact e
    · refine hR s'' (Moved.trans W.gtrans ((hm.mono hsub).then_heap (Nat.le_succ _) fun b o hb e => ?_) hm'') hS''
      rw [hsb.2 b (fun h : b = S => hb (by rw [h]; exact List.mem_cons_self))]; exact e
end

section
variable {prog : Program} {w : World} {A : Around} {E : Value → Shared → Prop} {s : Shared}
set_option maxHeartbeats 3200000 in
theorem call_set_listD {l : Addr} {items : Array Value} {xs : List Str} {Q : Value → Shared → Prop}
    (hh : A.handled = none) (hl : s.heap.IsList l items) (hi : PyProof.Rows.StrsAre items.toList xs) (hn1 : items.size + 1 < scanBound)
    (h : ∀ (h' : Heap) (tk : Nat), h'.SetOf (PySem.strKind prog w) s.heap.objs.size (fun k' => (ded xs items.size).any (· == k')) (ded xs items.size).length →
      (∀ b o, b < s.heap.objs.size → s.heap.get? b = some o → h'.get? b = some o) → Q (.ref s.heap.objs.size) { s with heap := h', toks := tk }) :
    wpAny (model prog w) A (call (.type "set") [.ref l]) Q E s := by
  obtain ⟨c, tl, hmro⟩ := PySem.F.called_set.mro
  have hmade := PySem.F.called_set.made
  have hsub := PySem.F.called_set.sub
  refine wpAny_call (codeAny_of_tree ?_)
  show wpAny _ _ (callAny (.type "set") _) _ _ _
  refine wpAny_pure ⟨Code.quiet_builtin _ (by decide +kernel), codeAny_builtin PySem.F.entry_type_call ?_⟩
  rw [Around.under_plain (weight_type_call_type "set" [.ref l] []) rfl]
  have h1 := PySem.F.called_set.notType
  have h2 := PySem.F.called_set.canCreate
  have hct := PySem.F.typeCall_set_1 (.ref l)
  repeat (any_goals (first | assumption | wp_step))

  refine codeAny_mono (code_set_new_1 (.ref l) (E := E) (Q₁ := fun obj s₁ => ∃ led : Bool, obj = .ref s.heap.objs.size ∧ s₁ = { s with heap := s.heap.push { cls := .type "set", dict := none, data := .set #[] 0 (.fresh 0 0 led) } }) fun led => ⟨led, rfl, rfl⟩) fun r s₁ hr => ?_
  cases r with
  | error e => exact hr
  | ok fl =>
    cases fl with
    | ret obj =>
      obtain ⟨led, rfl, rfl⟩ := hr
      have hS : (s.heap.push { cls := .type "set", dict := none, data := .set #[] 0 (.fresh 0 0 led) }).get? s.heap.objs.size = some { cls := .type "set", dict := none, data := .set #[] 0 (.fresh 0 0 led) } := Heap.get?_push_size _ rfl
      have hT : Shared.TypeIs { s with heap := s.heap.push { cls := .type "set", dict := none, data := .set #[] 0 (.fresh 0 0 led) } } (.ref s.heap.objs.size) "set" := ⟨_, hS, rfl⟩
      have hli := PySem.F.called_set.init.lookup
      have hbi := PySem.F.called_set.init.bind (.ref s.heap.objs.size)
      repeat (any_goals (first | assumption | wp_step))

      refine codeAny_mono (codeAny_call_builtin (R := wants (fun r s₂ => r = .none ∧ ∃ h' tk, s₂ = { s with heap := h', toks := tk } ∧
          h'.SetOf (PySem.strKind prog w) s.heap.objs.size (fun k' => (ded xs items.size).any (· == k')) (ded xs items.size).length ∧
          (∀ b o, b < s.heap.objs.size → s.heap.get? b = some o → h'.get? b = some o)) E) PySem.F.called_set.init.plain PySem.F.entry_set_init (check_set_init_1 hT ?_)) fun r₂ s₂ hr₂ => ?_
      · obtain ⟨ol, hol, hcl, nl, hdl⟩ := hl
        obtain ⟨ocls, odict, odata, oslots⟩ := ol
        simp only at hcl hdl
        subst hcl; subst hdl
        have hol' : (s.heap.push { cls := .type "set", dict := none, data := .set #[] 0 (.fresh 0 0 led) }).get? l = some { cls := .type "list", dict := odict, data := .seq items nl, slots := oslots } := Heap.get?_push_of_some _ hol
        have hsls := PySem.F.sub_list_set
        have hslf := PySem.F.sub_list_frozenset
        have hne : (Value.type "list" == Value.type "dict") = false := by decide
        have hl1 : (s.heap.push { cls := .type "set", dict := none, data := .set #[] 0 (.fresh 0 0 led) }).IsList l items := ⟨_, hol', rfl, nl, rfl⟩
        unfold Builtin.«set.__init__» noKeywords Builtin.Frozenset.updateFrom
        generalize hPI : pyIter = PI
        wp_walk
        subst hPI

        refine wpAny_pyIter_list hl1 ?_
        refine wpAny_bind (wpAny_runValue ?_)
        have hlS : l < s.heap.objs.size := Heap.lt_size hol
        have hh3 : A.in1.in1.in1.handled = none := by simp [hh]
        have hneI : l ≠ (s.heap.push { cls := .type "set", dict := none, data := .set #[] 0 (.fresh 0 0 led) }).objs.size := by
          rw [Heap.size_push]; exact Nat.ne_of_lt (Nat.lt_succ_of_lt hlS)
        have hSf : s.heap.objs.size ∉ [(s.heap.push { cls := .type "set", dict := none, data := .set #[] 0 (.fresh 0 0 led) }).objs.size, l] := by
          rw [Heap.size_push]; simp only [List.mem_cons, List.mem_singleton, List.not_mem_nil, or_false, not_or]
          exact ⟨Nat.ne_of_lt (Nat.lt_succ_self _), Nat.ne_of_gt hlS⟩
        have hsz : xs.length = items.size := by rw [← StrsAre.len_eq hi, Array.length_toList]
        have hval : ∀ (i : Nat) (v : Value), items[i]? = some v → ∃ t, v = .str (xs.getD i Str.empty) t := fun i v hv => strs_at hi i v (by rw [Array.getElem?_toList]; exact hv)
        refine loopD ((Walks.list hh3 _ l hneI items).toS) s.heap.objs.size
          hSf xs hsz hn1 hval (items.size - 0) 0 _ (by omega) (Nat.zero_le _)
          ⟨⟨_, Heap.get?_push_size _ rfl, rfl, rfl⟩, (hl1.push _)⟩ ?hS0 ?hR
        case hS0 =>
          have hget : ((s.heap.push { cls := .type "set", dict := none, data := .set #[] 0 (.fresh 0 0 led) }).push { cls := .type "list_iterator", data := .fields #[.ref l, .int 0 0] }).get? s.heap.objs.size
              = some { cls := .type "set", dict := none, data := .set #[] 0 (.fresh 0 0 led) } := Heap.get?_push_of_some _ hS
          exact PyProof.Rows.SetOf_congr ((PyProof.Rows.setObjOf_fresh (knd := PySem.strKind prog w) led).setOf hget (by unfold scanBound; omega)) (fun _ => rfl) rfl
        case hR =>
          intro s' hm hS'
          obtain ⟨h', g', d', tk', os'⟩ := s'
          have eg : g' = s.gens := hm.gens
          have ed : d' = s.drawn := hm.drawn
          have eo : os' = s.os := hm.os
          subst eg; subst ed; subst eo
          show wpAny _ _ _ _ _ _
          refine wpAny_pure ?_
          show wpAny _ _ (ret Value.none) _ _ _
          refine wpAny_pure ⟨rfl, h', tk', rfl, hS', fun b o hb e => ?_⟩
          have hb1 : b ≠ s.heap.objs.size := Nat.ne_of_lt hb
          have hb2 : b ≠ (s.heap.push { cls := .type "set", dict := none, data := .set #[] 0 (.fresh 0 0 led) }).objs.size := by
            rw [Heap.size_push]; exact Nat.ne_of_lt (Nat.lt_succ_of_lt hb)
          exact hm.heap b o (by simp only [List.mem_cons, List.mem_singleton, List.not_mem_nil, or_false, not_or]; exact ⟨hb1, hb2⟩) (Heap.get?_push_of_some _ (Heap.get?_push_of_some _ e))

      · cases r₂ with
        | error e => exact hr₂
        | ok fl₂ =>
          cases fl₂ with
          | ret r =>
            obtain ⟨rfl, h', tk, rfl, hS', hk'⟩ := hr₂
            repeat (any_goals (first | assumption | wp_step))
            exact h _ _ hS' hk'
          | _ => exact hr₂.elim
    | _ => exact hr.elim
end

/-- how many texts there are -/
def tLenSetS (K : PySem.W.Frag) (ta : TE) : TE := fun σ H Q => ta σ H fun x H1 => ∃ (l : Addr) (xs : List Str), x = .ref l ∧ SqL K H1 l (xs.map V.str) ∧ xs.length ≤ 4000 ∧ Q (.int ((ded xs xs.length).length : Nat)) H1
theorem pe_lenSetS {X : Cx} {a : Expr} {ta : TE} {p p2 q pos : Pos} (hc : X.calm = true) (hg : Gl X "len") (hm : X.mg "len" = none) (hg2 : Gl X "set") (hm2 : X.mg "set" = none) (ha : PE X a ta)
    (na : starEach [a] X.env = (false, eval a X.env) :: starEach [] X.env := by rfl) : PE X (.Call (.Name "len" p) [.Call (.Name "set" p2) [a] [] q] [] pos) (tLenSetS X.K ta) := by
  refine ⟨fun pins s σ H Q I h => ?_⟩
  refine Call_ (ld_blt I hg hm PySem.boot_len ?_)
  refine PyProof.Rows.callWith_builtin1 (PyProof.Rows.args_cons ?_ rfl) rfl rfl
  refine Call_ (ld_blt I hg2 hm2 PyProof.Rows.boot_set ?_)
  refine PyProof.Rows.callWith_type1 (PyProof.Rows.args_cons (thn (ha.run pins s σ H _ I h) fun v s1 ⟨x, H1, I1, r1, q1⟩ => PyProof.Rows.args_nil ?_) na) na rfl
  obtain ⟨l, xs, rfl, hq, h1, q1⟩ := q1
  cases r1
  obtain ⟨its, r, pl, hz⟩ := I1.list hq
  have hl : its.toArray.size = xs.length := by rw [List.size_toArray, ← r.length, List.length_map]
  refine call_set_listD (I1.ok.hd hc) pl.isList (by simpa using strsAre_of r) (by rw [hl]; unfold scanBound; omega) fun h' tk hS hk => ?_
  refine PyProof.Rows.args_nil ?_
  rw [hl] at hS
  obtain ⟨o, es, ep, t, ho, hex, hd, _, _, _, hf, hn⟩ := hS
  have I2 : Inv X pins σ H1 { s1 with heap := h', toks := tk } := I1.kept fun b o e => hk b o (Heap.lt_size e) e
  have hle := ded_le xs xs.length
  exact call_len_set ho hex hd hf (by rw [hn] <;> omega) ⟨.int ((ded xs xs.length).length : Nat), H1, I2.tok _, ⟨_, by rw [hn]⟩, q1⟩
end Bb
set_option Elab.async false
set_option linter.all false
set_option maxRecDepth 100000
set_option maxHeartbeats 2000000
/-! Y3: dicts of one's own: what they say, how they are read and written -/
namespace Mi
open PySem PySem.Spec L2
open PyProof.Rows hiding St

/-! ### tables of plain data -/
def kD : D → Option Key
  | .int i => some (.inl i)
  | .str s => some (.inr ⟨s.toArray⟩)
  | _ => none
def valD : List (D × D) → Key → Option D
  | [], _ => none
  | p :: r, k => if kD p.1 = some k then some p.2 else valD r k
def putD (kvs : List (D × D)) (kd : D) (k : Key) (v : D) : List (D × D) :=
  if (kvs.any fun p => decide (kD p.1 = some k)) = true then kvs.map (fun p => if kD p.1 = some k then (p.1, v) else p) else kvs ++ [(kd, v)]
section
variable {R : RC} {H : Hp}
theorem kD_rel {d : D} {v : V} {k : Key} (r : DR R H d v) (e : kD d = some k) : v = kV k := by
  cases r <;> cases e <;> rfl
theorem kD_of {d : D} {k : Key} (r : DR R H d (kV k)) : kD d = some k := by
  cases k with
  | inl i =>
    have r' : DR R H d (.int i) := r
    cases r'
    rfl
  | inr x =>
    have r' : DR R H d (.str x) := r
    generalize hx : V.str x = z at r'
    cases r' with
    | str s =>
      cases hx
      rfl
    | _ => cases hx
/-- a table and its trace -/
def KvR (R : RC) (H : Hp) (ds : List (D × D)) (kvs : List (Key × V)) : Prop := DRs R H (ds.map (·.1)) (kvs.map fun p => kV p.1) ∧ DRs R H (ds.map (·.2)) (kvs.map (·.2))
theorem KvR.nil : KvR R H [] [] := ⟨.nil, .nil⟩
theorem KvR.cons {p : D × D} {ds : List (D × D)} {q : Key × V} {kvs : List (Key × V)} (h1 : DR R H p.1 (kV q.1)) (h2 : DR R H p.2 q.2) (h : KvR R H ds kvs) : KvR R H (p :: ds) (q :: kvs) := ⟨.cons h1 h.1, .cons h2 h.2⟩
theorem KvR.inv {p : D × D} {ds : List (D × D)} {kvs : List (Key × V)} (h : KvR R H (p :: ds) kvs) : ∃ q r, kvs = q :: r ∧ DR R H p.1 (kV q.1) ∧ DR R H p.2 q.2 ∧ KvR R H ds r := by
  obtain ⟨h1, h2⟩ := h
  cases kvs with
  | nil =>
    simp only [List.map_cons, List.map_nil] at h1
    cases h1
  | cons q r =>
    simp only [List.map_cons] at h1 h2
    cases h1 with
    | cons a1 a2 =>
      cases h2 with
      | cons b1 b2 => exact ⟨q, r, rfl, a1, b1, a2, b2⟩
theorem KvR.inv0 {kvs : List (Key × V)} (h : KvR R H [] kvs) : kvs = [] := by
  cases kvs with
  | nil => rfl
  | cons q r =>
    have h1 := h.1
    simp only [List.map_cons, List.map_nil] at h1
    cases h1
theorem KvR.len : ∀ {ds : List (D × D)} {kvs : List (Key × V)}, KvR R H ds kvs → ds.length = kvs.length
  | [], kvs, h => by rw [h.inv0]; rfl
  | p :: ds, kvs, h => by
    obtain ⟨q, r, rfl, _, _, h3⟩ := h.inv
    simp [h3.len]
theorem KvR.to {R' : RC} {H' : Hp} (t : To R H R' H') {ds : List (D × D)} {kvs : List (Key × V)} (h : KvR R H ds kvs) : KvR R' H' ds kvs := ⟨h.1.to t, h.2.to t⟩
theorem KvR.app : ∀ {ds : List (D × D)} {kvs : List (Key × V)} {p : D × D} {q : Key × V}, KvR R H ds kvs → DR R H p.1 (kV q.1) → DR R H p.2 q.2 → KvR R H (ds ++ [p]) (kvs ++ [q])
  | [], kvs, p, q, h, h1, h2 => by
    rw [h.inv0]
    exact .cons h1 h2 .nil
  | _ :: ds, kvs, p, q, h, h1, h2 => by
    obtain ⟨q', r, rfl, a1, a2, a3⟩ := h.inv
    exact .cons a1 a2 (a3.app h1 h2)
theorem KvR.val {k : Key} : ∀ {ds : List (D × D)} {kvs : List (Key × V)}, KvR R H ds kvs → (valD ds k = none ∧ valV kvs k = none) ∨ ∃ d v, valD ds k = some d ∧ valV kvs k = some v ∧ DR R H d v
  | [], kvs, h => by
    rw [h.inv0]
    exact .inl ⟨rfl, rfl⟩
  | p :: ds, kvs, h => by
    obtain ⟨q, r, rfl, a1, a2, a3⟩ := h.inv
    have hk := kD_of a1
    unfold valD
    rw [hk]
    by_cases e : q.1 = k
    · rw [if_pos (by rw [e]), valV_pos e]
      exact .inr ⟨_, _, rfl, rfl, a2⟩
    · rw [if_neg (fun z => e (Option.some.inj z)), valV_neg e]
      exact a3.val
theorem KvR.any {k : Key} : ∀ {ds : List (D × D)} {kvs : List (Key × V)}, KvR R H ds kvs → (ds.any fun p => decide (kD p.1 = some k)) = kvs.any fun kv => decide (kv.1 = k)
  | [], kvs, h => by rw [h.inv0]; rfl
  | p :: ds, kvs, h => by
    obtain ⟨q, r, rfl, a1, a2, a3⟩ := h.inv
    rw [List.any_cons, List.any_cons, a3.any, kD_of a1]
    simp
theorem KvR.put {k : Key} {kd d : D} {v : V} (hk : DR R H kd (kV k)) (hd : DR R H d v) {ds : List (D × D)} {kvs : List (Key × V)} (h : KvR R H ds kvs) : KvR R H (putD ds kd k d) (putK kvs k v) := by
  unfold putD putK
  rw [h.any (k := k)]
  split
  · have go : ∀ {ds : List (D × D)} {kvs : List (Key × V)}, KvR R H ds kvs → KvR R H (ds.map fun p => if kD p.1 = some k then (p.1, d) else p) (kvs.map fun kv => if kv.1 = k then (kv.1, v) else kv) := by
      intro ds
      induction ds with
      | nil =>
        intro kvs h
        rw [h.inv0]
        exact .nil
      | cons p ds ih =>
        intro kvs h
        obtain ⟨q, r, rfl, a1, a2, a3⟩ := h.inv
        rw [List.map_cons, List.map_cons, kD_of a1]
        by_cases e : q.1 = k
        · rw [if_pos e, if_pos (by rw [e])]
          exact .cons a1 hd (ih a3)
        · rw [if_neg e, if_neg (fun z => e (Option.some.inj z))]
          exact .cons a1 a2 (ih a3)
    exact go h
  · exact h.app (p := (kd, d)) (q := (k, v)) hk hd
theorem AR.kv {ds : List (D × D)} {x : V} (h : AR R H (.dct ds) x) : ∃ a kvs, x = .ref a ∧ H a = some (.dK kvs) ∧ KvR R H ds kvs := by
  obtain ⟨a, kvs, h1, h2, h3, h4⟩ := h.dct
  exact ⟨a, kvs, h1, h2, h3, h4⟩
theorem AR.key {d : D} {y : V} {k : Key} (h : AR R H d y) (e : kD d = some k) : y = kV k := by
  rcases h with h | ⟨o, a, z, _, _⟩
  · exact kD_rel h e
  · subst z
    cases o <;> cases e
end

/-! ### readings -/
def getDD : D → D → Option D
  | .dct kvs, y => (kD y).map fun k => (valD kvs k).getD .non
  | _, _ => none
def idxDt : D → D → Option D
  | .dct kvs, y => (kD y).bind (valD kvs)
  | _, _ => none
def idxDD (a b : D) : Option D := (idxD a b).or (idxDt a b)
abbrev rIxDt : R2 := fun x y H Q => ∃ a v, x = .ref a ∧ DGet H a y (some v) ∧ Q v H
def rIxD (K : PySem.W.Frag) : R2 := fun x y H Q => rIx K x y H Q ∨ rIxDt x y H Q
def inDt (neg : Bool) : D → D → Option D
  | y, .dct kvs => (kD y).map fun k => .bl (if neg then !(valD kvs k).isSome else (valD kvs k).isSome)
  | _, _ => none
def inDD2 (neg : Bool) (a b : D) : Option D := (inD neg a b).or (inDt neg a b)
abbrev rInDt (neg : Bool) : R2 := fun y x H Q => ∃ a o, x = .ref a ∧ DGet H a y o ∧ Q (.bl (if neg then !o.isSome else o.isSome)) H
def rInD2 (K : PySem.W.Frag) (neg : Bool) : R2 := fun x y H Q => rInDD K neg x y H Q ∨ rInDt neg x y H Q
section
variable {K : PySem.W.Frag}
theorem idxDt_ok : OpS K rIxDt idxDt := by
  intro R H x y a b d Q hk tr ra rb e q
  unfold idxDt at e
  split at e
  · rename_i kvs
    cases hy : kD b with
    | none => simp [hy] at e
    | some k =>
      simp [hy] at e
      obtain ⟨p, kv, rfl, h1, h2⟩ := ra.kv
      rcases h2.val (k := k) with ⟨h3, _⟩ | ⟨d', v, h3, h4, h5⟩
      · rw [h3] at e
        cases e
      · rw [h3] at e
        cases e
        exact ⟨p, v, rfl, by rw [rb.key hy, ← h4]; exact DGet.k h1, q v H (Evl.Ex.refl H) h5⟩
  · cases e
theorem idxDD_ok : OpS K (rIxD K) idxDD := OpS.or idxD_ok idxDt_ok
theorem ix_dt {X : Cx} (hu : X.A.units + 1 < cLine) : IxR X rIxDt := by
  intro value slice pins s σ H x y v u Q I rx ry h hs
  obtain ⟨a, w', rfl, g, q⟩ := h
  obtain rfl : v = Value.ref a := rx
  have hT := dict_typeIs I g
  unfold subscriptTail
  refine wpAny_bind ?_
  rw [getitemInPython_of_ne hT.not_modules]
  refine wpAny_bind (wpAny_specialOf hT PySem.F.slot_dict_getitem.lookup ?_)
  have fin : wpAny (model X.prog X.w) X.A (subscripted slice false (.ref a) u) (fun r s₃ => wpAny (model X.prog X.w) X.A (letTemporaryGo value (.ref a) r >>= fun _ => pure r) (EP X pins σ Q) X.xe s₃) X.xe s := by
    rw [hs]
    exact wpAny_operating (wpAny_mono (d_getItem hu I g ry fun w2 s3 I3 rw' => ⟨w', H, I3, rw', q⟩) (fun r s₃ h₃ => wpAny_bind (wpAny_letTemporaryGo (wpAny_pure h₃))) fun _ _ x => x)
  first
    | exact wpAny_pure (wpAny_bind fin)
    | exact wpAny_bind (wpAny_pure (wpAny_bind fin))
    | exact wpAny_bind fin
theorem ix_DD {X : Cx} (hu : X.A.units + 1 < cLine) : IxR X (rIxD X.K) := by
  intro value slice pins s σ H x y v u Q I rx ry h hs
  rcases h with h | h
  · exact ix_seq value slice pins s σ H x y v u Q I rx ry h hs
  · exact ix_dt hu value slice pins s σ H x y v u Q I rx ry h hs
theorem inDt_ok {neg : Bool} : OpS K (rInDt neg) (inDt neg) := by
  intro R H x y a b d Q hk tr ra rb e q
  unfold inDt at e
  split at e
  · rename_i kvs
    cases hy : kD a with
    | none => simp [hy] at e
    | some k =>
      simp only [hy, Option.map_some, Option.some.injEq] at e
      subst e
      obtain ⟨p, kv, rfl, h1, h2⟩ := rb.kv
      refine ⟨p, valV kv k, rfl, by rw [ra.key hy]; exact DGet.k h1, ?_⟩
      have : (valV kv k).isSome = (valD kvs k).isSome := by
        rcases h2.val (k := k) with ⟨h3, h4⟩ | ⟨d', v, h3, h4, _⟩ <;> rw [h3, h4] <;> rfl
      rw [this]
      exact q _ H (Evl.Ex.refl H) (.bl _)
  · cases e
theorem inDD2_ok {neg : Bool} : OpS K (rInD2 K neg) (inDD2 neg) := OpS.or inD_ok inDt_ok
theorem op_inD2 {X : Cx} (hu : X.A.units + 1 < cLine) : OpR X (compareOp .In) (rInD2 X.K false) := by
  intro pins s σ H x y v u Q I rx ry h
  rcases h with h | ⟨a, o, rfl, g, q⟩
  · exact op_inDD pins s σ H x y v u Q I rx ry h
  · obtain rfl : u = Value.ref a := ry
    exact d_in hu I g rx fun s3 I3 => ⟨.bl o.isSome, H, I3, rfl, q⟩
theorem op_notInD2 {X : Cx} (hu : X.A.units + 1 < cLine) : OpR X (compareOp .NotIn) (rInD2 X.K true) := by
  intro pins s σ H x y v u Q I rx ry h
  rcases h with h | ⟨a, o, rfl, g, q⟩
  · exact op_notInDD pins s σ H x y v u Q I rx ry h
  · obtain rfl : u = Value.ref a := ry
    exact d_notIn hu I g rx fun s3 I3 => ⟨.bl (!o.isSome), H, I3, rfl, q⟩
/-! ### len, list, sorted -/
def lenB2 (l : List D) : Option D := match l with
  | [.dct kvs] => some (.int kvs.length)
  | l => lenB l
abbrev rLenD2 (K : PySem.W.Frag) : List V → Hp → VK → Prop := fun xs H Q => (∃ a kvs, xs = [V.ref a] ∧ H a = some (.dK kvs) ∧ Q (.int kvs.length) H) ∨ rLenD K xs H Q
theorem lenB2_ok : CallS K (rLenD2 K) lenB2 := by
  intro R H xs ds d Q hk tr ra e q
  unfold lenB2 at e
  split at e
  · cases e
    obtain ⟨x, rfl, a⟩ := ra.one
    obtain ⟨p, kv, rfl, h1, h2⟩ := a.kv
    exact .inl ⟨p, kv, rfl, h1, by rw [← h2.len]; exact q _ H (Evl.Ex.refl H) (.int _)⟩
  · exact .inr (lenB_ok R H xs _ d Q hk tr ra e q)
theorem cr_lenD2 {X : Cx} : CallR X (.builtin "len") (rLenD2 X.K) := call_lenD.or cr_lenD
def listB2 : List D → Option D
  | [.lst ds] => some (.lst ds)
  | [.tup ds] => some (.lst ds)
  | [.frz ds] => some (.lst ds)
  | [.dct kvs] => some (.lst (kvs.map (·.1)))
  | [.str s] => if s.length ≤ sizeLine then some (.lst (s.map fun c => .str [c])) else none
  | _ => none
abbrev rListA (K : PySem.W.Frag) : List V → Hp → VK → Prop := fun xs H Q => (∃ p ys, xs = [V.ref p] ∧ (SqL K H p ys ∨ SqT K H p ys) ∧ ∀ l, H l = none → Q (.ref l) (upd H l (.lst ys))) ∨ rListD xs H Q ∨ Bb.rListS xs H Q
theorem sgs_drs {R : RC} {H : Hp} (s : List Nat) : DRs R H (s.map fun c => D.str [c]) (Bb.sgs ⟨s.toArray⟩) := by
  unfold Bb.sgs
  show DRs R H _ ((s.toArray.toList).map fun c => V.str ⟨#[c]⟩)
  rw [List.toList_toArray]
  induction s with
  | nil => exact .nil
  | cons c s ih => exact .cons (.str [c]) ih
theorem listB2_ok : CallN K (rListA K) listB2 := by
  intro R H xs ds d Q hk tr ra e q
  have fin : ∀ {l : Addr} {ds : List D} {ys : List V}, H l = none → DRs R H ds ys → True → NwR R H (.lst ds) (.ref l) (upd H l (.lst ys)) := fun {l ds ys} hl r _ => by
    obtain ⟨ex, dr⟩ := new_lst tr hl r
    exact ⟨ex, dr, fun ds' e => by cases e; exact ⟨l, ys, rfl, hl, rfl, r⟩⟩
  unfold listB2 at e
  split at e
  · cases e
    obtain ⟨x, rfl, a⟩ := ra.one
    obtain ⟨p, ys, rfl, h1, r1⟩ := a.lst
    exact .inl ⟨p, ys, rfl, .inl (.inl (.inl h1)), fun l hl => q _ _ (fin hl r1 trivial)⟩
  · cases e
    obtain ⟨x, rfl, a⟩ := ra.one
    obtain ⟨p, ys, rfl, h1, r1⟩ := a.tup
    exact .inl ⟨p, ys, rfl, .inr (by rw [← hk]; exact h1.sq), fun l hl => q _ _ (fin hl r1 trivial)⟩
  · cases e
    obtain ⟨x, rfl, a⟩ := ra.one
    obtain ⟨p, ys, rfl, h1, r1⟩ := a.frz
    exact .inl ⟨p, ys, rfl, .inl (by rw [← hk]; exact h1.sq), fun l hl => q _ _ (fin hl r1 trivial)⟩
  · cases e
    obtain ⟨x, rfl, a⟩ := ra.one
    obtain ⟨p, kv, rfl, h1, h2⟩ := a.kv
    exact .inr (.inl ⟨p, kv, rfl, h1, fun l hl => q _ _ (fin hl h2.1 trivial)⟩)
  · split at e
    · rename_i s hz
      cases e
      obtain ⟨x, rfl, a⟩ := ra.one
      rw [a.str]
      exact .inr (.inr ⟨_, rfl, by rw [len_str]; exact hz, fun l hl => q _ _ (fin hl (sgs_drs s) trivial)⟩)
    · cases e
  · cases e
theorem cr_listA {X : Cx} (hc : X.calm = true) : CallR X (.type "list") (rListA X.K) := call_list_of.or ((call_list_dK hc).or (Bb.cr_listS hc))
def sortedB : List D → Option D
  | [.lst ds] => (strsD ds).map fun ss => .lst ((Bb.srtS ss).map .str)
  | _ => none
theorem strs_drs {R : RC} {H : Hp} : ∀ ss : List (List Nat), DRs R H (ss.map D.str) ((ss.map fun s => (⟨s.toArray⟩ : Str)).map V.str)
  | [] => .nil
  | s :: ss => .cons (.str s) (strs_drs ss)
theorem sortedB_ok : CallN K (Bb.rSortedSA K) sortedB := by
  intro R H xs ds d Q hk tr ra e q
  unfold sortedB at e
  split at e
  · rename_i es
    cases hs : strsD es with
    | none => simp [hs] at e
    | some ss =>
      simp [hs] at e
      subst e
      obtain ⟨x, rfl, a⟩ := ra.one
      obtain ⟨p, ys, rfl, h1, r1⟩ := a.lst
      refine ⟨p, ss.map fun s => ⟨s.toArray⟩, rfl, by rw [← strsD_ok r1 hs]; exact .inl (.inl h1), fun zs l hp hz hl => ?_⟩
      have ez := Bb.srtS_of hp hz
      have e1 : ((ss.map fun s => (⟨s.toArray⟩ : Str)).map fun y => y.cps.toList) = ss := by
        rw [List.map_map]
        conv => rhs; rw [← List.map_id ss]
        exact List.map_congr_left fun s _ => by simp
      rw [e1] at ez
      have e2 : zs = (Bb.srtS ss).map fun s => (⟨s.toArray⟩ : Str) := by
        rw [← ez, List.map_map]
        conv => lhs; rw [← List.map_id zs]
        exact List.map_congr_left fun s _ => by simp
      subst e2
      have r := strs_drs (R := R) (H := H) (Bb.srtS ss)
      obtain ⟨ex, dr⟩ := new_lst tr hl r
      exact q _ _ ⟨ex, dr, fun ds' e => by cases e; exact ⟨l, _, rfl, hl, rfl, r⟩⟩
  · cases e
end
end Mi
set_option Elab.async false
set_option linter.all false
set_option maxRecDepth 100000
set_option maxHeartbeats 2000000
/-! R1: repr of plain data with dicts in it -/
namespace Mi
open PySem PySem.Spec L2
open PyProof.Rows hiding St

mutual
def toPy2 : D → Option PyData
  | .non => some .none
  | .bl b => some (.bool b)
  | .int i => some (.int i)
  | .str s => some (.str ⟨s.toArray⟩)
  | .lst xs => (toPys2 xs).map .list
  | .tup xs => (toPys2 xs).map .tuple
  | .dct kvs => (toPyKv kvs).map .dict
  | _ => none
def toPys2 : List D → Option (List PyData)
  | [] => some []
  | d :: ds => match toPy2 d, toPys2 ds with
    | some p, some ps => some (p :: ps)
    | _, _ => none
def toPyKv : List (D × D) → Option (List (PyData × PyData))
  | [] => some []
  | (k, v) :: r => match toPy2 k, toPy2 v, toPyKv r with
    | some a, some b, some ps => some ((a, b) :: ps)
    | _, _, _ => none
end
theorem toPyKv_two : ∀ {kvs : List (D × D)} {ps : List (PyData × PyData)}, toPyKv kvs = some ps → toPys2 (kvs.map (·.1)) = some (ps.map (·.1)) ∧ toPys2 (kvs.map (·.2)) = some (ps.map (·.2))
  | [], ps, h => by
    unfold toPyKv at h
    cases h
    exact ⟨by simp [toPys2], by simp [toPys2]⟩
  | (k, v) :: r, ps, h => by
    unfold toPyKv at h
    split at h
    · rename_i a b qs h1 h2 h3
      cases h
      obtain ⟨i1, i2⟩ := toPyKv_two h3
      exact ⟨by simp [toPys2, h1, i1], by simp [toPys2, h2, i2]⟩
    · cases h
theorem keys_rel {P : Program} {w : World} : ∀ {es : List DictEntry} {vs : List (Key × Value)} {kvs : List (Key × V)}, Pairs (mixKind P w) es vs → KV kvs vs → Vals (kvs.map fun p => kV p.1) (es.map (·.key)) ∧ Vals (kvs.map (·.2)) (es.map (·.val))
  | _, _, kvs, .nil, r => by
    cases kvs with
    | nil => exact ⟨.nil, .nil⟩
    | cons p kvs => cases r
  | _, _, kvs, .cons (e := e) (kv := kv) h1 h2 h3, r => by
    cases kvs with
    | nil => cases r
    | cons p kvs =>
      cases r with
      | cons a b =>
        obtain ⟨i1, i2⟩ := keys_rel h3 b
        refine ⟨.cons ?_ i1, .cons ?_ i2⟩
        · have h1' : keyIs kv.1 e.key = true := h1
          show RelV (kV p.1) e.key
          rw [a.1]
          rcases keyIs_shape h1' with ⟨i, t, e1, e2⟩ | ⟨x, t, e1, e2⟩
          · rw [e1, e2]
            exact ⟨t, rfl⟩
          · rw [e1, e2]
            exact ⟨t, rfl⟩
        · show RelV p.2 e.val
          rw [h2]
          exact a.2
section
variable {X : Cx} {pins : List (Addr × Obj)} {σ : St} {H : Hp} {s : Shared} {R : RC}
theorem dct_at (I : Inv X pins σ H s) {a : Addr} {kvs : List (Key × V)} (h : H a = some (.dK kvs)) : (a == sysModules) = false ∧ ∃ o es ep, s.heap.get? a = some o ∧ o.cls = .type "dict" ∧ o.data = .dict es ep ∧ Vals (kvs.map fun p => kV p.1) (es.toList.map (·.key)) ∧ Vals (kvs.map (·.2)) (es.toList.map (·.val)) := by
  obtain ⟨_, hd, vs, rel, o, es, ep, h1, h2, h3, _, h5, _⟩ := dk_rd I.hok (.inl h)
  obtain ⟨r1, r2⟩ := keys_rel h5 rel
  exact ⟨hd, o, es, ep, h1, h2.1, h3, r1, r2⟩
mutual
theorem repK (I : Inv X pins σ H s) (hK : R.K = X.K) : ∀ {d : D} {x : V} {u : Value} {p : PyData}, DR R H d x → RelV x u → toPy2 d = some p → p.showable = true → p.shown.length ≤ sizeLine →
    ∃ as bs, Reads s.heap u p as ∧ ReadAtMost s.heap p.depth bs ∧ ReprK X.prog X.w bs s.heap p.depth u p.shown
  | _, _, _, _, .non, ru, h, _, _ => by
    cases ru; unfold toPy2 at h; cases h
    exact ⟨_, [], Reads.none, (fun _ h => nomatch h), by simp only [PyData.shown]; exact .of_is ReprIs.none _ _ _⟩
  | _, _, _, _, .bl b, ru, h, _, _ => by
    cases ru; unfold toPy2 at h; cases h
    exact ⟨_, [], Reads.bool b, (fun _ h => nomatch h), by simp only [PyData.shown]; exact .of_is (ReprIs.bool b) _ _ _⟩
  | _, _, _, _, .int i, ru, h, hs, _ => by
    obtain ⟨t, rfl⟩ := ru; unfold toPy2 at h; cases h
    exact ⟨_, [], Reads.int i t, (fun _ h => nomatch h), by simp only [PyData.shown]; exact .of_is (ReprIs.int t (by simpa [PyData.showable] using hs)) _ _ _⟩
  | _, _, _, _, .str y, ru, h, _, hz => by
    obtain ⟨t, rfl⟩ := ru; unfold toPy2 at h; cases h
    exact ⟨_, [], Reads.str _ t, (fun _ h => nomatch h), by simp only [PyData.shown]; exact .of_is (ReprIs.str _ t (by simpa only [PyData.shown] using hz)) _ _ _⟩
  | _, _, _, _, .lst h1 h2, ru, h, hs, hz => by
    cases ru
    unfold toPy2 at h
    obtain ⟨ps, e1, e2⟩ := map_some h
    subst e2
    obtain ⟨its, rv, ⟨o, n, ho, hc, _, hd⟩, _⟩ := I.list (by rw [← hK]; exact h1.sq)
    have hz' : (listText (PyData.shownAll ps)).length ≤ sizeLine := by simpa only [PyData.shown] using hz
    obtain ⟨as, bs, hr, hb, hk⟩ := repKs I hK h2 rv e1 (by simpa [PyData.showable] using hs) (fun t ht => Nat.le_trans (listText_mem_le ht) hz')
    have r := Reads.list ho hc hd hr
    have hna := not_mem_of_deeper r (by simp only [PyData.depth]; omega) hb
    refine ⟨_, _ :: bs, r, ReadAtMost.cons r (by simp only [PyData.depth]; omega) hb, ?_⟩
    simp only [PyData.depth, PyData.shown]
    cases its with
    | nil =>
      cases hr
      simp only [PyData.shownAll, listText_nil]
      exact ReprK.listEmpty ho hc hd
    | cons y l => exact ReprK.list ho hc hd hna (by simpa using hk.length_eq) (fun i y e => hk.item i y (by simpa using e))
  | _, _, _, _, .tup h1 h2, ru, h, hs, hz => by
    cases ru
    unfold toPy2 at h
    obtain ⟨ps, e1, e2⟩ := map_some h
    subst e2
    obtain ⟨its, rv, ⟨o, ho, hc, n, hd⟩, _⟩ := I.tuple (by rw [← hK]; exact h1.sq)
    have hz' : (tupleText (PyData.shownAll ps)).length ≤ sizeLine := by simpa only [PyData.shown] using hz
    obtain ⟨as, bs, hr, hb, hk⟩ := repKs I hK h2 rv e1 (by simpa [PyData.showable] using hs) (fun t ht => Nat.le_trans (tupleText_mem_le ht) hz')
    have r := Reads.tuple ho hc hd hr
    have hna := not_mem_of_deeper r (by simp only [PyData.depth]; omega) hb
    refine ⟨_, _ :: bs, r, ReadAtMost.cons r (by simp only [PyData.depth]; omega) hb, ?_⟩
    simp only [PyData.depth, PyData.shown]
    exact ReprK.tuple ho hc hd hna hk
  | _, _, _, _, .frz h1 h2, ru, h, _, _ => by unfold toPy2 at h; cases h
  | _, _, _, _, .exc h1 h2 h3, ru, h, _, _ => by unfold toPy2 at h; cases h
  | _, _, _, _, .dct h1 h2 h3, ru, h, hs, hz => by
    cases ru
    unfold toPy2 at h
    obtain ⟨ps, e1, e2⟩ := map_some h
    subst e2
    obtain ⟨hsys, o, es, ep, ho, hc, hd, r1, r2⟩ := dct_at I h1.1
    obtain ⟨p1, p2⟩ := toPyKv_two e1
    obtain ⟨hs1, hs2⟩ := PyData.showableKv_split ps (by simpa [PyData.showable] using hs)
    have hz' : (dictText (PyData.shownKv ps)).length ≤ sizeLine := by simpa only [PyData.shown] using hz
    obtain ⟨as1, b1, q1, hb1, k1⟩ := repKs I hK h2 r1 p1 hs1 (fun t ht => let ⟨p, hp, hl⟩ := PyData.shownKv_key_le ps t ht; Nat.le_trans hl (Nat.le_trans (dictText_mem_le hp) hz'))
    obtain ⟨as2, b2, q2, hb2, k2⟩ := repKs I hK h3 r2 p2 hs2 (fun t ht => let ⟨p, hp, hl⟩ := PyData.shownKv_val_le ps t ht; Nat.le_trans hl (Nat.le_trans (dictText_mem_le hp) hz'))
    have r := Reads.dict ho hc hd q1 q2
    have hb : ReadAtMost s.heap (PyData.depthKv ps) (b1 ++ b2) := (hb1.mono (PyData.depthAll_keys_le ps)).append (hb2.mono (PyData.depthAll_vals_le ps))
    have hna := not_mem_of_deeper r (by simp only [PyData.depth]; omega) hb
    refine ⟨_, _ :: (b1 ++ b2), r, ReadAtMost.cons r (by simp only [PyData.depth]; omega) hb, ?_⟩
    simp only [PyData.depth, PyData.shown, PyData.shownKv_eq]
    exact ReprK.dict ho hc hd hsys hna (ReprEntriesK.of_two es.toList _ _
      (k1.more_le (fun b hb => List.mem_append_left _ hb) (PyData.depthAll_keys_le ps)) (k2.more_le (fun b hb => List.mem_append_right _ hb) (PyData.depthAll_vals_le ps)))
theorem repKs (I : Inv X pins σ H s) (hK : R.K = X.K) : ∀ {ds : List D} {xs : List V} {us : List Value} {ps : List PyData}, DRs R H ds xs → Vals xs us → toPys2 ds = some ps → PyData.showableAll ps = true → (∀ t ∈ PyData.shownAll ps, t.length ≤ sizeLine) →
    ∃ as bs, ReadsAll s.heap us ps as ∧ ReadAtMost s.heap (PyData.depthAll ps) bs ∧ ReprAllK X.prog X.w bs s.heap (PyData.depthAll ps) us (PyData.shownAll ps)
  | _, _, _, _, .nil, rv, h, _, _ => by
    cases rv; unfold toPys2 at h; cases h
    exact ⟨_, [], ReadsAll.nil, (fun _ h => nomatch h), by simp only [PyData.shownAll]; exact .nil⟩
  | _, _, _, _, .cons (d := d) (ds := ds) a b, rv, h, hs, hz => by
    cases rv with
    | cons r1 r2 =>
      unfold toPys2 at h
      cases h1 : toPy2 d with
      | none => simp [h1] at h
      | some p =>
        cases h2 : toPys2 ds with
        | none => simp [h1, h2] at h
        | some ps =>
          simp [h1, h2] at h
          subst h
          have hs' : p.showable = true ∧ PyData.showableAll ps = true := by simpa [PyData.showableAll] using hs
          obtain ⟨as1, b1, q1, hb1, k1⟩ := repK I hK a r1 h1 hs'.1 (hz _ (by simp only [PyData.shownAll]; exact List.mem_cons_self ..))
          obtain ⟨as2, b2, q2, hb2, k2⟩ := repKs I hK b r2 h2 hs'.2 (fun t ht => hz t (by simp only [PyData.shownAll]; exact List.mem_cons_of_mem _ ht))
          refine ⟨_, b1 ++ b2, ReadsAll.cons q1 q2, ?_, ?_⟩
          · intro b hm
            simp only [PyData.depthAll]
            rcases List.mem_append.mp hm with hm | hm
            · obtain ⟨d', as', r', hd'⟩ := hb1 b hm
              exact ⟨d', as', r', Nat.le_trans hd' (Nat.le_max_left _ _)⟩
            · obtain ⟨d', as', r', hd'⟩ := hb2 b hm
              exact ⟨d', as', r', Nat.le_trans hd' (Nat.le_max_right _ _)⟩
          · simp only [PyData.depthAll, PyData.shownAll]
            exact .cons ((k1.more fun b hb => List.mem_append_left _ hb).level_le (Nat.le_max_left _ _)) (k2.more_le (fun b hb => List.mem_append_right _ hb) (Nat.le_max_right _ _))
end
end
/-- what repr shows -/
def shw2 (p : PyData) : Option (List Nat) := if p.showable && decide (p.depth ≤ 60) && decide (p.shown.length ≤ sizeLine) then some p.shown.cps.toList else none
def reprB2 : List D → Option D
  | [d] => (toPy2 d).bind fun p => (shw2 p).map .str
  | _ => none
def rRepr2 (K : PySem.W.Frag) : List V → Hp → VK → Prop := fun xs H Q => ∃ x d p t, xs = [x] ∧ DR ⟨K, fun _ => False⟩ H d x ∧ toPy2 d = some p ∧ shw2 p = some t ∧ Q (.str ⟨t.toArray⟩) H
theorem reprB2_ok {K : PySem.W.Frag} : CallS K (rRepr2 K) reprB2 := by
  intro R H xs ds d Q hk tr ra e q
  unfold reprB2 at e
  split at e
  · rename_i d0
    cases h1 : toPy2 d0 with
    | none => simp [h1] at e
    | some p =>
      simp [h1] at e
      obtain ⟨t, h2, h3⟩ := e
      subst h3
      obtain ⟨x, rfl, a⟩ := ra.one
      have e1 : R.z = ⟨K, fun _ => False⟩ := by unfold RC.z; rw [hk]
      exact ⟨x, d0, p, t, rfl, by rw [← e1]; exact a.z, h1, h2, q _ H (Evl.Ex.refl H) (.str _)⟩
  · cases e
theorem shw2_ok {p : PyData} {t : List Nat} (h : shw2 p = some t) : p.showable = true ∧ p.depth ≤ 60 ∧ p.shown.length ≤ sizeLine ∧ p.shown = ⟨t.toArray⟩ := by
  unfold shw2 at h
  split at h
  · rename_i hc
    simp only [Bool.and_eq_true, decide_eq_true_eq] at hc
    refine ⟨hc.1.1, hc.1.2, hc.2, ?_⟩
    cases h
    simp
  · cases h
theorem cr_repr2 {X : Cx} (hg : X.A.guards = some []) (hu : X.A.units + 64 < cLine) : CallR X (.builtin "repr") (rRepr2 X.K) := by
  intro pins s σ H xs us Q I r h
  obtain ⟨x, d, p, t, rfl, dr, h1, h2, q⟩ := h
  obtain ⟨u, rfl, r1⟩ := vals1 r
  obtain ⟨s1, s3, s4, s5⟩ := shw2_ok h2
  have fin : ∀ (h' : Heap) (tk : Tok) (n : Nat), (∀ b o, s.heap.get? b = some o → h'.get? b = some o) → EP X pins σ Q (.str p.shown tk) { s with heap := h', toks := n } := fun h' tk n k =>
    ⟨.str ⟨t.toArray⟩, H, I.kept (t' := n) k, ⟨tk, by rw [s5]⟩, q⟩
  cases dr with
  | non =>
    cases r1; unfold toPy2 at h1; cases h1
    have e : PyData.shown .none = "None" := by simp only [PyData.shown]
    exact PySem.P.repr_of_none (by rw [← e]; exact fin _ _ _ fun _ _ z => z)
  | bl b =>
    cases r1; unfold toPy2 at h1; cases h1
    have e : PyData.shown (.bool b) = (if b then Str.ofString "True" else Str.ofString "False") := by cases b <;> simp only [PyData.shown] <;> rfl
    exact PySem.P.repr_of_bool (by rw [← e]; exact fin _ _ _ fun _ _ z => z)
  | int i =>
    obtain ⟨tk, rfl⟩ := r1; unfold toPy2 at h1; cases h1
    have e : PyData.shown (.int i) = toString i := by simp only [PyData.shown]
    exact PySem.P.repr_of_int (by simpa [PyData.showable] using s1) (by rw [← e]; exact fin _ _ _ fun _ _ z => z)
  | str z =>
    obtain ⟨tk, rfl⟩ := r1; unfold toPy2 at h1; cases h1
    have e : PyData.shown (.str (⟨z.toArray⟩ : Str)) = reprText ⟨z.toArray⟩ := by simp only [PyData.shown]
    exact PySem.P.repr_of_str (by rw [← e]; exact fin _ _ _ fun _ _ z => z) (by rw [← e]; exact s4)
  | lst g1 g2 =>
    cases r1
    unfold toPy2 at h1
    obtain ⟨ps, e1, e2⟩ := map_some h1
    subst e2
    obtain ⟨its, rv, ⟨o, n, ho, hc, _, hd⟩, _⟩ := I.list (by exact g1.sq)
    have hz' : (listText (PyData.shownAll ps)).length ≤ sizeLine := by simpa only [PyData.shown] using s4
    obtain ⟨as, bs, hr, hb, hk⟩ := repKs I rfl g2 rv e1 (by simpa [PyData.showable] using s1) (fun t ht => Nat.le_trans (listText_mem_le ht) hz')
    have r := Reads.list ho hc hd hr
    have hna := not_mem_of_deeper r (by simp only [PyData.depth]; omega) hb
    simp only [PyData.depth] at s3
    simp only [PyData.shown] at fin
    refine call_repr_slot (by omega) ⟨o, ho, hc⟩ F.slot_list_repr.toG ?_
    cases its with
    | nil =>
      cases hr
      simp only [PyData.shownAll, listText_nil] at fin
      exact call_list_repr_empty ⟨o, ho, hc⟩ ho hd ⟨_, _, rfl, fin _ _ _ fun _ _ e => e⟩
    | cons y l =>
      exact call_list_reprK ho hc hd hna (by simpa using hk.length_eq) (fun i y e => hk.item i y (by simpa using e)) hg (fun b _ => Clear.nil b) (by show X.A.units + 1 + _ < cLine; omega) (fun _ _ e => e) (fun h' u tk k => ⟨_, _, rfl, fin h' u tk k⟩) hz'
  | tup g1 g2 =>
    cases r1
    unfold toPy2 at h1
    obtain ⟨ps, e1, e2⟩ := map_some h1
    subst e2
    obtain ⟨its, rv, ⟨o, ho, hc, n, hd⟩, _⟩ := I.tuple (by exact g1.sq)
    have hz' : (tupleText (PyData.shownAll ps)).length ≤ sizeLine := by simpa only [PyData.shown] using s4
    obtain ⟨as, bs, hr, hb, hk⟩ := repKs I rfl g2 rv e1 (by simpa [PyData.showable] using s1) (fun t ht => Nat.le_trans (tupleText_mem_le ht) hz')
    have r := Reads.tuple ho hc hd hr
    have hna := not_mem_of_deeper r (by simp only [PyData.depth]; omega) hb
    simp only [PyData.depth] at s3
    simp only [PyData.shown] at fin
    refine call_repr_slot (by omega) ⟨o, ho, hc⟩ F.slot_tuple_repr ?_
    exact call_tuple_reprK ho hc hd hna hk hg (fun b _ => Clear.nil b) (by show X.A.units + 1 + _ < cLine; omega) (fun _ _ e => e) (fun h' u tk k => ⟨_, _, rfl, fin h' u tk k⟩) hz'
  | dct g1 g2 g3 =>
    cases r1
    unfold toPy2 at h1
    obtain ⟨ps, e1, e2⟩ := map_some h1
    subst e2
    obtain ⟨hsys, o, es, ep, ho, hc, hd, r1, r2⟩ := dct_at I g1.1
    obtain ⟨p1, p2⟩ := toPyKv_two e1
    obtain ⟨hs1, hs2⟩ := PyData.showableKv_split ps (by simpa [PyData.showable] using s1)
    have hz' : (dictText (PyData.shownKv ps)).length ≤ sizeLine := by simpa only [PyData.shown] using s4
    obtain ⟨as1, b1, q1, hb1, k1⟩ := repKs I rfl g2 r1 p1 hs1 (fun t ht => let ⟨p, hp, hl⟩ := PyData.shownKv_key_le ps t ht; Nat.le_trans hl (Nat.le_trans (dictText_mem_le hp) hz'))
    obtain ⟨as2, b2, q2, hb2, k2⟩ := repKs I rfl g3 r2 p2 hs2 (fun t ht => let ⟨p, hp, hl⟩ := PyData.shownKv_val_le ps t ht; Nat.le_trans hl (Nat.le_trans (dictText_mem_le hp) hz'))
    have r := Reads.dict ho hc hd q1 q2
    have hb : ReadAtMost s.heap (PyData.depthKv ps) (b1 ++ b2) := (hb1.mono (PyData.depthAll_keys_le ps)).append (hb2.mono (PyData.depthAll_vals_le ps))
    have hna := not_mem_of_deeper r (by simp only [PyData.depth]; omega) hb
    simp only [PyData.depth] at s3
    simp only [PyData.shown, PyData.shownKv_eq] at fin
    refine call_repr_slot (by omega) ⟨o, ho, hc⟩ F.slot_dict_repr ?_
    exact call_dict_reprK ho hc hd hsys hna (ReprEntriesK.of_two es.toList _ _
      (k1.more_le (fun b hb => List.mem_append_left _ hb) (PyData.depthAll_keys_le ps)) (k2.more_le (fun b hb => List.mem_append_right _ hb) (PyData.depthAll_vals_le ps))) hg (fun b _ => Clear.nil b) (by show X.A.units + 1 + _ < cLine; omega) (fun _ _ e => e)
      (fun h' u tk k => ⟨_, _, rfl, fin h' u tk k⟩) (by rw [← PyData.shownKv_eq]; exact hz')
  | frz g1 g2 => unfold toPy2 at h1; cases h1
  | exc g1 g2 g3 => unfold toPy2 at h1; cases h1
end Mi
set_option Elab.async false
set_option linter.all false
set_option maxRecDepth 100000
set_option maxHeartbeats 2000000
/-! Y4: dicts written, made, asked; how many texts -/
namespace Mi
open PySem PySem.Spec L2
open PyProof.Rows hiding St

def rSetD : V → V → V → Hp → (Hp → Prop) → Prop := fun o i v H Q => ∃ a H', o = .ref a ∧ DPut H a i v H' ∧ Q H'
def rSetLD : V → V → V → Hp → (Hp → Prop) → Prop := fun o i v H Q => rSetL o i v H Q ∨ rSetD o i v H Q
theorem set_LD {X : Cx} (hu : X.A.units + 1 < cLine) : PSet X rSetLD := by
  intro pins s σ H o i v ov iv u Q I ro ri rv h
  rcases h with h | ⟨a, H', rfl, g, q⟩
  · exact set_list pins s σ H o i v ov iv u Q I ro ri rv h
  · obtain rfl : ov = Value.ref a := ro
    exact d_setItem hu I g ri rv fun s' I' => ⟨H', I', q⟩
section
variable {R : RC} {H : Hp} {ρ : En} {σ : St}
theorem own_updD (e : EnR R H ρ σ) {i : Nat} {l : Bool} {o : Ow} {a : Addr} (h : ρ[i]? = some (.own l o)) (hs : σ[i]? = some (some (.ref a))) {ds : List (D × D)} {xs : List (Key × V)} (r : KvR R H ds xs) :
    Nx R ρ σ H R (ρ.set i (.own l (.dct ds))) (upd H a (.dK xs)) := by
  have ow : Owns ρ σ a := ⟨i, l, o, h, hs⟩
  have hm := e.own_m ow
  obtain ⟨yA, hA1, aA, hA2, hA3⟩ := e.sl i _ h
  have eA : aA = a := by
    rw [hA2, hs] at hA1
    cases hA1
    rfl
  rw [eA] at hA3
  have tbA := fun u => tabs_upd (u := u) e.tb (fun _ q => hA3.nt q) fun _ q => hA3.nx q
  have kp : ∀ (O : Addr → Prop), O a → Keep O H (upd H a (.dK xs)) := fun O ha b u hb hn _ => by
    rw [upd_ne fun z => hn (by rw [z]; exact ha)]
    exact hb
  have t : To R H R (upd H a (.dK xs)) := ⟨rfl, fun _ h => .inl h, kp _ hm⟩
  have own' : ∀ (j : Nat) (l1 : Bool) (o1 : Ow), (ρ.set i (.own l (.dct ds)))[j]? = some (.own l1 o1) → ∃ u, ρ[j]? = some (.own l1 u) := fun j l1 o1 h1 => by
    rcases set_get h1 with ⟨rfl, e, _⟩ | ⟨_, h1⟩
    · cases e
      exact ⟨o, h⟩
    · exact ⟨o1, h1⟩
  refine ⟨⟨by rw [List.length_set]; exact e.len, fun j s hj => ?_, fun j k l1 m1 o1 u1 hjk hj hk => ?_, fun b hb => ?_, tbA _, fun b ps hb z => by
    by_cases zb : b = a
    · subst zb
      rw [upd_same] at z
      cases z
    · rw [upd_ne zb] at z
      exact e.nt b ps hb z⟩, rfl, fun _ h => h, fun _ h => .inl h, kp _ ow, own', fun b u hb => ?_⟩
  · rcases set_get hj with ⟨rfl, rfl, _⟩ | ⟨hne, hj⟩
    · have r' := r.to t
      exact ⟨_, hs, a, rfl, hm, xs, upd_same, r'.1, r'.2⟩
    · obtain ⟨y, h1, h2⟩ := e.sl j s hj
      refine ⟨y, h1, ?_⟩
      cases s with
      | no => trivial
      | v d =>
        obtain ⟨z, h3, h4⟩ := h2
        exact ⟨z, h3, h4.to t⟩
      | own l1 o1 =>
        obtain ⟨b, h3, h4⟩ := h2
        refine ⟨b, h3, h4.to t h4.m (upd_ne fun z => ?_)⟩
        subst z
        exact e.ap i j _ _ _ _ hne h hj (by rw [hs, h1, h3])
  · obtain ⟨u2, h1⟩ := own' j l1 o1 hj
    obtain ⟨u3, h2⟩ := own' k m1 u1 hk
    exact e.ap j k l1 m1 u2 u3 hjk h1 h2
  · by_cases z : b = a
    · subst z
      exact ⟨_, upd_same⟩
    · rw [upd_ne z]
      exact e.tr b hb
  · by_cases z : b = a
    · subst z
      exact ⟨_, upd_same⟩
    · exact ⟨u, by rw [upd_ne z]; exact hb⟩
theorem own_ref (e : EnR R H ρ σ) {i : Nat} {l : Bool} {o : Ow} (h : ρ[i]? = some (.own l o)) : ∃ a, σ[i]? = some (some (.ref a)) ∧ OwR R H o a := by
  obtain ⟨y, h1, a, rfl, h2⟩ := e.sl i _ h
  exact ⟨a, h1, h2⟩
theorem AR.keyDR {d : D} {y : V} {k : Key} (h : AR R H d y) (e : kD d = some k) : y = kV k ∧ DR R H d (kV k) := by
  have e1 := h.key e
  subst e1
  refine ⟨rfl, ?_⟩
  rcases h with h | ⟨o, a, z, _, _⟩
  · exact h
  · subst z
    cases o <;> cases e
end
section
variable {K : PySem.W.Frag} {W : WX} {σ : St} {H : Hp}
/-- x[k] = e, x a slot that owns a list or a dict: e first -/
def setK (i : Nat) (d : D) (k : D) : Ms := fun ρ => match ρ[i]? with
  | some (.own l (.lst ds)) => (match k with
    | .int k => (match ixN ds.length k with
      | some j => some (.ok .nx (ρ.set i (.own l (.lst (ds.set j d)))))
      | none => none)
    | _ => none)
  | some (.own l (.dct kvs)) => (match kD k with
    | some kk => if kvs.length < sizeLine then some (.ok .nx (ρ.set i (.own l (.dct (putD kvs k kk d))))) else none
    | none => none)
  | _ => none
def setM2 (i : Nat) (f g : Mo Hd) : Ms := Mo.bind f fun h => Mo.bind (freeze h) fun d ρ => match ρ[i]? with
  | some (.own _ _) => Mo.bind g (fun h2 => Mo.bind (deref h2) (setK i d)) ρ
  | _ => none
theorem setM2_ok {i : Nat} {f g : Mo Hd} {D : Ends} (h : tS K W (setM2 i f g) D σ H) : tAsg (tA K W f) (gSub (tVar i) (tA K W g) rSetLD) D σ H := by
  obtain ⟨R, ρ, rr, hk, e, hf, q⟩ := h
  rcases bind_ok hf with ⟨a, ρ1, h1, h2⟩ | ⟨x, ρ1, h1, rfl⟩
  · refine ⟨R, ρ, _, hk, e, h1, fun R1 x H1 n1 r1 => ?_⟩
    rcases bind_ok h2 with ⟨d, ρ2, h3, h4⟩ | ⟨x, ρ2, h3, _⟩
    · obtain ⟨R2, n2, dr⟩ := freeze_ok n1.en r1 h3
      split at h4
      · rename_i l0 o0 h0
        obtain ⟨p, hs, _⟩ := own_ref n2.en h0
        refine ⟨_, hs, ?_⟩
        have nn := n1.trans n2
        rcases bind_ok h4 with ⟨b, ρ3, h5, h6⟩ | ⟨x', ρ3, h5, rfl⟩
        · refine ⟨R2, ρ2, _, nn.k.trans hk, n2.en, h5, fun R3 y H3 n3 r3 => ?_⟩
          obtain ⟨k, h7, h8⟩ := deref_ok h6
          unfold setK at h8
          split at h8
          · rename_i l ds hi
            split at h8
            · rename_i k
              split at h8
              · rename_i j hj
                cases h8
                obtain ⟨p', xs, hs', hp, rs⟩ := own_at n3.en hi
                rw [hs] at hs'
                cases hs'
                have hy := (deref1_ok n3.en r3 h7).int
                refine .inl ⟨p, xs, k, j, rfl, hy, hp, by rw [← rs.len]; exact hj, ?_⟩
                have n4 := own_upd n3.en hi hs (rs.set (dr.nx n2.en n3) j)
                exact q R3 σ _ ((nn.trans n3).trans n4).ns
              · cases h8
            · cases h8
          · rename_i l kvs hi
            split at h8
            · rename_i kk hkk
              split at h8
              · rename_i hz
                cases h8
                obtain ⟨p', hs', _, xs, hp, g1, g2⟩ := own_ref n3.en hi
                rw [hs] at hs'
                cases hs'
                obtain ⟨hy, kdr⟩ := (deref1_ok n3.en r3 h7).keyDR hkk
                have kr : KvR R3 H3 kvs xs := ⟨g1, g2⟩
                refine .inr ⟨p, _, rfl, by rw [hy]; exact DPut.k hp (by rw [← kr.len]; exact hz), ?_⟩
                have n4 := own_updD n3.en hi hs (kr.put kdr (dr.nx n2.en n3))
                exact q R3 σ _ ((nn.trans n3).trans n4).ns
              · cases h8
            · cases h8
          · cases h8
        · exact ⟨R2, ρ2, _, nn.k.trans hk, n2.en, h5, fun R' H' cls dd n er => q R' σ H' cls dd (nn.trans n).ns er⟩
      · cases h4
    · exact (freeze_no h3).elim
  · exact ⟨R, ρ, _, hk, e, h1, fun R' H' cls d n er => q R' σ H' cls d n.ns er⟩
/-- d.get(k) -/
def isDct : D → Bool
  | .dct _ => true
  | _ => false
def getM (f g : Mo Hd) : Mo Hd := Mo.bind f fun a => Mo.bind (deref a) fun x => match isDct x with
  | true => Mo.bind g fun b => Mo.bind (deref a) fun x => Mo.bind (deref b) fun y => Mo.bind (Mo.lift (getDD x y)) fun d => Mo.pure (.val d)
  | false => Mo.lift none
theorem getM_ok {f g : Mo Hd} {Q : VK} (h : tA K W (getM f g) σ H Q) : tDGet1 (tA K W f) (tA K W g) σ H Q := by
  refine bindA (α := Unit) h fun R1 ρ1 x H1 a rr hk en hr h2 q => ?_
  obtain ⟨d, h5, h6⟩ := deref_ok h2
  cases d with
  | dct kvs =>
    obtain ⟨p, kv, rfl, g1, g2⟩ := (deref1_ok en hr h5).kv
    refine ⟨p, rfl, .inl ⟨kv, .inl g1⟩, bindX hk en h6 q fun R2 ρ2 y H2 b n2 hr2 h7 q2 => ?_⟩
    obtain ⟨da, h8, h9⟩ := deref_ok h7
    obtain ⟨db, h10, h11⟩ := deref_ok h9
    obtain ⟨z, h12, h13⟩ := lift_ok h11
    cases h13
    have ax := deref1_ok n2.en (hr.to (n2.to en)) h8
    have ay := deref1_ok n2.en hr2 h10
    unfold getDD at h12
    split at h12
    · rename_i kvs2
      cases hy : kD db with
      | none => simp [hy] at h12
      | some k =>
        simp only [hy, Option.map_some, Option.some.injEq] at h12
        subst h12
        obtain ⟨p2, kv2, e2, g3, g4⟩ := ax.kv
        cases e2
        refine ⟨valV kv2 k, by rw [ay.key hy]; exact DGet.k g3, ?_⟩
        rcases g4.val (k := k) with ⟨e3, e4⟩ | ⟨d', v, e3, e4, e5⟩
        · rw [e4]
          rw [e3] at q2
          exact q2 R2 _ H2 (Nx.refl n2.en) .non
        · rw [e4]
          rw [e3] at q2
          exact q2 R2 _ H2 (Nx.refl n2.en) e5
    · cases h12
  | _ => cases h6
/-- len(set(xs)) -/
def dedN (ss : List (List Nat)) : List (List Nat) := ss.foldl (fun σ k => if σ.any (fun x => x == k) then σ else σ ++ [k]) []
theorem ded_len (ss : List (List Nat)) : (Bb.ded (ss.map fun s => (⟨s.toArray⟩ : Str)) (ss.map fun s => (⟨s.toArray⟩ : Str)).length).length = (dedN ss).length := by
  unfold Bb.ded dedN
  rw [List.take_length]
  have go : ∀ (l a : List (List Nat)), (l.map fun s => (⟨s.toArray⟩ : Str)).foldl step_dedup (a.map fun s => (⟨s.toArray⟩ : Str)) = (l.foldl (fun σ k => if σ.any (fun x => x == k) then σ else σ ++ [k]) a).map fun s => (⟨s.toArray⟩ : Str) := by
    intro l
    induction l with
    | nil => intro a; rfl
    | cons s l ih =>
      intro a
      have e : step_dedup (a.map fun s => (⟨s.toArray⟩ : Str)) ⟨s.toArray⟩ = (if a.any (fun x => x == s) then a else a ++ [s]).map fun s => (⟨s.toArray⟩ : Str) := by
        unfold step_dedup
        have ha : (a.map fun s => (⟨s.toArray⟩ : Str)).any (· == (⟨s.toArray⟩ : Str)) = a.any (fun x => x == s) := by
          rw [List.any_map]
          congr 1
          funext x
          rw [Bool.eq_iff_iff]
          show ((⟨x.toArray⟩ : Str) == ⟨s.toArray⟩) = true ↔ (x == s) = true
          rw [beq_iff_eq, beq_iff_eq]
          constructor
          · intro h
            have := congrArg (fun z : Str => z.cps.toList) h
            simpa using this
          · rintro rfl
            rfl
        rw [ha]
        by_cases h : a.any (fun x => x == s) = true
        · rw [if_pos h, if_pos h]
        · rw [if_neg h, if_neg h, List.map_append]
          rfl
      rw [List.map_cons, List.foldl_cons, e, ih]
      rfl
  have := go ss []
  rw [List.map_nil] at this
  rw [this, List.length_map]
def lenSetB : D → Option D
  | .lst ds => match strsD ds with
    | some ss => if ss.length ≤ 4000 then some (.int (dedN ss).length) else none
    | none => none
  | _ => none
theorem lenSet_ok {f : Mo Hd} {Q : VK} (h : tA K W (unM lenSetB f) σ H Q) : Bb.tLenSetS K (tA K W f) σ H Q := by
  refine bindA (α := Unit) h fun R1 ρ1 x H1 a rr hk en hr h2 q => ?_
  obtain ⟨d, h5, h6⟩ := deref_ok h2
  obtain ⟨z, h7, h8⟩ := lift_ok h6
  cases h8
  unfold lenSetB at h7
  split at h7
  · rename_i ds
    split at h7
    · rename_i ss hs
      split at h7
      · rename_i hz
        cases h7
        obtain ⟨p, ys, rfl, g1, g2⟩ := (deref1_ok en hr h5).lst
        refine ⟨p, ss.map fun s => ⟨s.toArray⟩, rfl, by rw [← strsD_ok g2 hs]; exact .inl (.inl g1), by rw [List.length_map]; exact hz, ?_⟩
        rw [ded_len]
        exact q R1 _ H1 (Nx.refl en) (.int _)
      · cases h7
    · cases h7
  · cases h7

/-! ### a dict made anew -/
/-- the new one may be written, and is nobody's -/
theorem new_wth {R : RC} {ρ : En} (e : EnR R H ρ σ) {p : Addr} (hp : H p = none) {ob : HO} (nob : ∀ ps, ob ≠ .tbl ps) : Ny R ρ σ H (R.wth p) ρ (upd H p ob) ∧ ¬ Owns ρ σ p := by
  have ex : Evl.Ex H (upd H p ob) := Evl.Ex.new hp
  have t : To R H (R.wth p) (upd H p ob) := ⟨rfl, fun a h => h.elim .inl fun z => .inr (by rw [z]; exact hp), Keep.of_ex ex⟩
  have ne : ∀ {a : Addr}, R.M a → a ≠ p := fun {a} h z => e.fresh (by rw [z]; exact hp) h
  refine ⟨⟨⟨e.len, fun i s h => ?_, e.ap, fun a h => ?_, e.tb.ext ex, fun a ps h z => by
    rcases h with h | rfl
    · obtain ⟨o, q⟩ := e.tr a h
      rw [ex _ _ q] at z
      exact e.nt a ps h (q.trans z)
    · rw [upd_same] at z
      exact nob ps (Option.some.inj z)⟩, rfl, t.m, fun a h => .inl (.inl h), Keep.of_ex ex, fun i l o h => ⟨o, h⟩, fun a o h => ⟨o, ex a o h⟩⟩, fun z => e.fresh hp (e.own_m z)⟩
  · obtain ⟨y, h1, h2⟩ := e.sl i s h
    refine ⟨y, h1, ?_⟩
    cases s with
    | no => trivial
    | v d =>
      obtain ⟨x, h3, h4⟩ := h2
      exact ⟨x, h3, h4.to t⟩
    | own l o =>
      obtain ⟨a, h3, h4⟩ := h2
      exact ⟨a, h3, h4.to t (.inl h4.m) (upd_ne (ne h4.m))⟩
  · rcases h with h | rfl
    · obtain ⟨o, q⟩ := e.tr a h
      exact ⟨o, ex a o q⟩
    · exact ⟨_, upd_same⟩
/-- it is written -/
theorem free_upd {R : RC} {ρ : En} (e : EnR R H ρ σ) {p : Addr} (hm : R.M p) (hn : ¬ Owns ρ σ p) (hd : ∃ kvs, H p = some (.dK kvs)) {ob : HO} (nob : ∀ ps, ob ≠ .tbl ps) : Keep R.M H (upd H p ob) ∧ EnR R (upd H p ob) ρ σ := by
  have kp : Keep R.M H (upd H p ob) := fun b u hb n _ => by
    rw [upd_ne fun z => n (by rw [z]; exact hm)]
    exact hb
  have t : To R H R (upd H p ob) := ⟨rfl, fun _ h => .inl h, kp⟩
  refine ⟨kp, e.len, fun i s h => ?_, e.ap, fun a h => ?_, tabs_upd e.tb (fun o q ps z => by obtain ⟨kvs, hd⟩ := hd; rw [hd] at q; subst z; cases q) fun o q ps z => (by obtain ⟨kvs, hd⟩ := hd; rw [hd] at q; subst z; cases q), fun a ps h z => by
    by_cases zb : a = p
    · subst zb
      rw [upd_same] at z
      exact nob ps (Option.some.inj z)
    · rw [upd_ne zb] at z
      exact e.nt a ps h z⟩
  · obtain ⟨y, h1, h2⟩ := e.sl i s h
    refine ⟨y, h1, ?_⟩
    cases s with
    | no => trivial
    | v d =>
      obtain ⟨x, h3, h4⟩ := h2
      exact ⟨x, h3, h4.to t⟩
    | own l o =>
      obtain ⟨a, h3, h4⟩ := h2
      subst h3
      exact ⟨a, rfl, h4.to t h4.m (upd_ne fun z => hn ⟨i, l, o, h, by rw [← z]; exact h1⟩)⟩
  · by_cases z : a = p
    · subst z
      exact ⟨_, upd_same⟩
    · rw [upd_ne z]
      exact e.tr a h
/-- what was made is forgotten -/
theorem ny_less {R R' : RC} {ρ ρ' : En} {H' : Hp} (e : EnR R H ρ σ) (n : Ny R ρ σ H R' ρ' H') : Nx R ρ σ H ⟨R'.K, fun a => R'.M a ∧ R.M a⟩ ρ' H' ∧ To R' H' ⟨R'.K, fun a => R'.M a ∧ R.M a⟩ H' := by
  have t : To R' H' ⟨R'.K, fun a => R'.M a ∧ R.M a⟩ H' := ⟨rfl, fun a h => .inl h.1, Keep.refl⟩
  refine ⟨⟨⟨n.en.len, fun i s h => ?_, n.en.ap, fun a h => n.en.tr a h.1, n.en.tb, fun a ps h => n.en.nt a ps h.1⟩, n.k, fun a h => h.2, fun a h => (n.cov a h).imp_left fun q => ⟨q, h⟩, n.h, n.own, n.al⟩, t⟩
  obtain ⟨y, h1, h2⟩ := n.en.sl i s h
  refine ⟨y, h1, ?_⟩
  cases s with
  | no => trivial
  | v d =>
    obtain ⟨z, h3, h4⟩ := h2
    exact ⟨z, h3, h4.to t⟩
  | own l o =>
    obtain ⟨a, h3, h4⟩ := h2
    subst h3
    exact ⟨a, rfl, h4.to t ⟨h4.m, e.own_m (n.owns ⟨i, l, o, h, h1⟩)⟩ rfl⟩
theorem ExR.less {R R' : RC} {H' : Hp} (t : To R H R' H') {x : Xc} {cls : Value} {d : Option Addr} (h : ExR R H x cls d) (m : ∀ a, R'.M a → R.M a) : ExR R' H' x cls d := by
  obtain ⟨h1, h2⟩ := h
  refine ⟨by rw [t.k]; exact h1, ?_⟩
  rcases h2 with h2 | ⟨dd, fs, rfl, h3, h4, h5, h6⟩
  · exact .inl h2
  · exact .inr ⟨dd, fs, rfl, t.h _ _ h3 h4 nofun, fun z => h4 (m _ z), h5, h6.to t⟩
def pairUp : List D → Option (List (D × D))
  | [] => some []
  | k :: v :: r => (pairUp r).map fun ps => (k, v) :: ps
  | _ => none
def mkD : List (D × D) → List (D × D) → Option (List (D × D))
  | acc, [] => some acc
  | acc, (k, v) :: r => match kD k with
    | some kk => mkD (putD acc k kk v) r
    | none => none
def dctB (ds : List D) : Option (List (D × D)) := (pairUp ds).bind fun ps => if ps.length ≤ 15 then mkD [] ps else none
def dctM (g : Mo (List Hd)) : Mo Fr := Mo.bind g fun hs => Mo.bind (freezes hs) fun ds => Mo.bind (Mo.lift (dctB ds)) fun kvs => Mo.pure (.new (.dct kvs))
/-- the values of a display, pair by pair -/
def gPairs : List (Mo Hd × Mo Hd) → Mo (List Hd)
  | [] => Mo.pure []
  | p :: r => Mo.bind p.1 fun a => Mo.bind (Mo.bind p.2 fun b => Mo.bind (gPairs r) fun as => Mo.pure (b :: as)) fun as => Mo.pure (a :: as)
def unPair : List (V × V) → List V
  | [] => []
  | p :: r => p.1 :: p.2 :: unPair r
theorem tPairs_ok : ∀ {ps : List (Mo Hd × Mo Hd)} {H : Hp} {Q : List V → Hp → Prop} {Q' : List (V × V) → Hp → Prop}, tAs K W (gPairs ps) σ H Q → (∀ vs H', Q (unPair vs) H' → Q' vs H') → tPairs (ps.map fun p => (tA K W p.1, tA K W p.2)) σ H Q'
  | [], H, Q, Q', h, i => i [] H (tAs_nil h)
  | p :: r, H, Q, Q', h, i => by
    have h1 := tAs_cons h
    refine tA_mono h1 fun x H1 h2 => ?_
    have h3 := tAs_cons h2
    exact tA_mono h3 fun y H2 h4 => tPairs_ok h4 fun vs H' hq => i ((x, y) :: vs) H' hq
theorem mkD_ok {R : RC} : ∀ {ps : List (D × D)} {vs : List (V × V)} {acc kvs : List (D × D)} {acc' : List (Key × V)}, DRs R H (ps.map (·.1)) (vs.map (·.1)) → DRs R H (ps.map (·.2)) (vs.map (·.2)) → KvR R H acc acc' → mkD acc ps = some kvs →
    ∃ more : List (Key × V), vs = more.map (fun kv => (kV kv.1, kv.2)) ∧ KvR R H kvs (mergeK acc' more)
  | [], vs, acc, kvs, acc', h1, h2, h3, h => by
    cases vs with
    | nil =>
      cases h
      exact ⟨[], rfl, h3⟩
    | cons v vs =>
      simp only [List.map_nil, List.map_cons] at h1
      cases h1
  | (k, d) :: ps, vs, acc, kvs, acc', h1, h2, h3, h => by
    cases vs with
    | nil =>
      simp only [List.map_nil, List.map_cons] at h1
      cases h1
    | cons v vs =>
      simp only [List.map_cons] at h1 h2
      cases h1 with
      | cons a1 a2 =>
        cases h2 with
        | cons b1 b2 =>
          unfold mkD at h
          split at h
          · rename_i kk hkk
            have e := kD_rel a1 hkk
            obtain ⟨more, e1, e2⟩ := mkD_ok a2 b2 (h3.put (by rw [← e]; exact a1) b1) h
            refine ⟨(kk, v.2) :: more, ?_, e2⟩
            rw [List.map_cons, ← e1, ← e]
          · cases h
theorem pairUp_ok {R : RC} : ∀ {ds : List D} {ps : List (D × D)} {vs : List (V × V)}, pairUp ds = some ps → DRs R H ds (unPair vs) → DRs R H (ps.map (·.1)) (vs.map (·.1)) ∧ DRs R H (ps.map (·.2)) (vs.map (·.2)) ∧ ps.length = vs.length
  | [], ps, vs, h, r => by
    cases h
    cases vs with
    | nil => exact ⟨.nil, .nil, rfl⟩
    | cons v vs => cases r
  | [_], ps, vs, h, r => by cases h
  | k :: v :: ds, ps, vs, h, r => by
    obtain ⟨qs, h1, h2⟩ := map_some h
    subst h2
    cases vs with
    | nil => cases r
    | cons p vs =>
      cases r with
      | cons r1 r =>
        cases r with
        | cons r2 r =>
          obtain ⟨i1, i2, i3⟩ := pairUp_ok h1 r
          exact ⟨.cons r1 i1, .cons r2 i2, by simp [i3]⟩
theorem dctM_ok {ps : List (Mo Hd × Mo Hd)} {Q : VK} (h : tN K W (dctM (gPairs ps)) σ H Q) : tDisp (ps.map fun p => (tA K W p.1, tA K W p.2)) σ H Q := by
  intro p hp
  obtain ⟨R, ρ, rr, hk, e, hf, q⟩ := h
  obtain ⟨n0, hno⟩ := new_wth (ob := .dK []) e hp nofun
  refine tPairs_ok (Q := fun xs H2 => H2 p = some (.dK []) ∧ ∀ vs, xs = unPair vs → ∃ kvs : List (Key × V), vs = kvs.map (fun kv => (kV kv.1, kv.2)) ∧ kvs.length ≤ 15 ∧ Q (.ref p) (upd H2 p (.dK (mergeK [] kvs)))) ?_ fun vs H2 ⟨h1, h2⟩ => ⟨h1, h2 vs rfl⟩
  rcases bind_ok hf with ⟨hs, ρ1, h1, h2⟩ | ⟨x, ρ1, h1, rfl⟩
  · refine ⟨R.wth p, ρ, _, hk, n0.en, h1, fun R1 xs H1 n1 r1 => ?_⟩
    have hp1 : H1 p = some (.dK []) := n1.h _ _ upd_same hno nofun
    refine ⟨hp1, fun vs hvs => ?_⟩
    subst hvs
    rcases bind_ok h2 with ⟨ds, ρ2, h3, h4⟩ | ⟨x, ρ2, h3, _⟩
    · obtain ⟨ds', ρ2', z, R2, n2, r2⟩ := freezes_ok n1.en r1 h3
      cases z
      obtain ⟨kvs, h5, h6⟩ := lift_ok h4
      cases h6
      unfold dctB at h5
      cases hpu : pairUp ds with
      | none => simp [hpu] at h5
      | some qs =>
        simp only [hpu, Option.bind_some] at h5
        split at h5
        · rename_i hz
          obtain ⟨i1, i2, i3⟩ := pairUp_ok hpu r2
          obtain ⟨more, e1, e2⟩ := mkD_ok i1 i2 KvR.nil h5
          refine ⟨more, e1, ?_, ?_⟩
          · have : vs.length = more.length := by rw [e1, List.length_map]
            omega
          · have nn := n0.trans (n1.trans n2).ny
            have np : ¬ Owns ρ2 σ p := fun z => hno (nn.owns z)
            have mp : R2.M p := by
              rcases (n1.trans n2).cov p (.inr rfl) with z | z
              · exact z
              · exact absurd z hno
            obtain ⟨kp, en⟩ := free_upd (ob := .dK (mergeK [] more)) n2.en mp np ⟨_, hp1⟩ nofun
            have t : To R2 H1 R2 (upd H1 p (.dK (mergeK [] more))) := ⟨rfl, fun _ h => .inl h, kp⟩
            have kr := e2.to t
            refine q R2 _ _ ⟨en, nn.k, nn.m, nn.cov, fun a o ha hn nt => ?_, nn.own, fun a o ha => ?_⟩ ⟨p, rfl, ⟨mp, _, upd_same, kr.1, kr.2⟩, np, hp⟩
            · rw [upd_ne (fun z => by rw [z, hp] at ha; cases ha)]
              exact nn.h a o ha hn nt
            · rw [upd_ne (fun z => by rw [z, hp] at ha; cases ha)]
              exact nn.al a o ha
        · cases h5
    · obtain ⟨ds', ρ2', z, _⟩ := freezes_ok n1.en r1 h3
      cases z
  · refine ⟨R.wth p, ρ, _, hk, n0.en, h1, fun R' H' cls d n er => ?_⟩
    obtain ⟨nl, t⟩ := ny_less e (n0.trans n.ny)
    exact q _ H' cls d nl (er.less t fun a h => h.1)
/-- {} -/
theorem dctNil_ok {Q : VK} (h : tN K W (Mo.pure (.new (.dct []))) σ H Q) : tDNewK σ H Q := by
  obtain ⟨R, ρ, rr, hk, e, hf, q⟩ := h
  cases hf
  intro p hp
  obtain ⟨n0, hno⟩ := new_wth (ob := .dK []) e hp nofun
  exact q _ _ _ n0 ⟨p, rfl, ⟨.inr rfl, [], upd_same, .nil, .nil⟩, hno, hp⟩
end
end Mi
set_option Elab.async false
set_option linter.all false
set_option maxRecDepth 100000
set_option maxHeartbeats 2000000
/-! Y5: a text times an int -/
namespace Mi
open PySem PySem.Spec PyProof.Rows L2
def repStr : D → D → Option D
  | .str a, .int k => if -(2 ^ 63) ≤ k ∧ k ≤ 1000 ∧ a.length ≤ 1000 then some (.str (List.replicate k.toNat a).flatten) else none
  | _, _ => none
def rRepS : R2 := fun x y H Q => ∃ a k, x = .str ⟨a.toArray⟩ ∧ y = .int k ∧ -(2 ^ 63) ≤ k ∧ k ≤ 1000 ∧ a.length ≤ 1000 ∧ Q (.str ⟨(List.replicate k.toNat a).flatten.toArray⟩) H
theorem repStr_ok {K : PySem.W.Frag} : OpS K rRepS repStr := by
  intro R H x y a b d Q hk tr ra rb e q
  unfold repStr at e
  split at e
  · split at e
    · rename_i s k hc
      cases e
      exact ⟨_, _, ra.str, rb.int, hc.1, hc.2.1, hc.2.2, q _ H (Evl.Ex.refl H) (.str _)⟩
    · cases e
  · cases e
theorem foldl_arr (xs : List (Array Nat)) (a : Array Nat) : xs.foldl (· ++ ·) a = (a.toList ++ (xs.map (·.toList)).flatten).toArray := by
  induction xs generalizing a with
  | nil => simp
  | cons x xs ih =>
    rw [List.foldl_cons, ih]
    simp
theorem op_repS {X : Cx} : OpR X (binaryOp .Mult) rRepS := by
  intro pins s σ H x y v u Q I rx ry h
  obtain ⟨a, k, rfl, rfl, h1, h2, h3, q⟩ := h
  obtain ⟨t, rfl⟩ := rx
  obtain ⟨t', rfl⟩ := ry
  have hz : (16777216 : Nat) ≤ sizeLine := by decide
  have hl : (⟨a.toArray⟩ : Str).length = a.length := by simp [Str.length]
  have hm : ∀ n : Int, 1 ≤ n → n ≤ 1000 → (a.length : Int) * n ≤ 1000000 := fun n g1 g2 => by
    have := Int.mul_le_mul (a := (a.length : Int)) (b := n) (c := 1000) (d := 1000) (by omega) g2 (by omega) (by omega)
    omega
  refine P.mul_str ?_ ?_ ?_ ?_
  · rw [decide_eq_false (by omega), decide_eq_false (by omega)]
    rfl
  · intro g1 g2
    rw [hl]
    have := hm k (by omega) h2
    have := (Int.le_ediv_iff_mul_le (a := (a.length : Int)) (b := 2 ^ 63 - 1) (c := k) (by omega)).mpr (by omega)
    omega
  · intro g1 g2
    rw [hl]
    have := hm k (by omega) h2
    refine decide_eq_false ?_
    have e : ((a.length * k.toNat : Nat) : Int) = (a.length : Int) * k := by
      rw [Int.natCast_mul, Int.toNat_of_nonneg (by omega)]
    omega
  · by_cases g1 : k < 1
    · rw [if_pos g1]
      have e : k.toNat = 0 := by omega
      rw [e] at q
      refine ⟨by decide, .str ⟨([] : List Nat).toArray⟩, H, I.tok _, ⟨_, rfl⟩, q⟩
    · rw [if_neg g1]
      by_cases g2 : (k == 1 || (⟨a.toArray⟩ : Str).length == 0) = true
      · rw [if_pos g2]
        refine ⟨.str ⟨a.toArray⟩, H, I, ⟨_, rfl⟩, ?_⟩
        rw [hl] at g2
        simp only [Bool.or_eq_true, beq_iff_eq] at g2
        have e : (List.replicate k.toNat a).flatten = a := by
          rcases g2 with rfl | g2
          · simp
          · have : a = [] := List.length_eq_zero_iff.mp g2
            subst this
            simp
        rw [e] at q
        exact q
      · rw [if_neg g2]
        have e : ((List.replicate k.toNat (⟨a.toArray⟩ : Str).cps).foldl (· ++ ·) #[]) = (List.replicate k.toNat a).flatten.toArray := by
          rw [foldl_arr]
          simp
        rw [e]
        refine ⟨?_, .str ⟨(List.replicate k.toNat a).flatten.toArray⟩, H, I.tok _, ⟨_, rfl⟩, q⟩
        have hfl : (List.replicate k.toNat a).flatten.length = k.toNat * a.length := by simp
        show (List.replicate k.toNat a).flatten.toArray.size ≤ sizeLine
        rw [List.size_toArray, hfl]
        have := hm k (by omega) h2
        have e : ((k.toNat * a.length : Nat) : Int) = (a.length : Int) * k := by
          rw [Int.natCast_mul, Int.toNat_of_nonneg (by omega), Int.mul_comm]
        omega
def mulD2 (a b : D) : Option D := (mulD a b).or (repStr a b)
def rMulD2 : R2 := fun x y H Q => rMulD x y H Q ∨ rRepS x y H Q
theorem mulD2_ok {K : PySem.W.Frag} : OpS K rMulD2 mulD2 := mulD_ok.or repStr_ok
theorem op_mulD2 {X : Cx} : OpR X (binaryOp .Mult) rMulD2 := op_mulD.or op_repS
end Mi
set_option Elab.async false
set_option linter.all false
set_option maxRecDepth 100000
set_option maxHeartbeats 2000000
/-! M15: the small language, what it says -/
namespace Mi
open PySem L2

/-! ### calls with keywords -/
def appM (f g : Mo (List Hd)) : Mo (List Hd) := Mo.bind f fun a => Mo.bind g fun b => Mo.pure (a ++ b)
theorem HdRs.append {R : RC} {H : Hp} {σ : St} : ∀ {a b : List Hd} {xs ys : List V}, HdRs R H σ a xs → HdRs R H σ b ys → HdRs R H σ (a ++ b) (xs ++ ys)
  | _, _, _, _, .nil, s => s
  | _, _, _, _, .cons r t, s => .cons r (HdRs.append t s)
theorem appM_ok {K : PySem.W.Frag} {W : WX} {f g : Mo (List Hd)} {σ : St} {H : Hp} {Q : List V → Hp → Prop} (h : tAs K W (appM f g) σ H Q) : tAs K W f σ H fun xs H1 => tAs K W g σ H1 fun zs H2 => Q (xs ++ zs) H2 := by
  obtain ⟨R, ρ, r, hk, e, hf, q⟩ := h
  rcases bind_ok hf with ⟨a, ρ1, h1, h2⟩ | ⟨x, ρ1, h1, rfl⟩
  · refine ⟨R, ρ, _, hk, e, h1, fun R1 xs H1 n1 r1 => ?_⟩
    rcases bind_ok h2 with ⟨b, ρ2, h3, h4⟩ | ⟨x, ρ2, h3, rfl⟩
    · cases h4
      refine ⟨R1, ρ1, _, n1.k.trans hk, n1.en, h3, fun R2 zs H2 n2 r2 => q R2 _ H2 (n1.trans n2) ((r1.to (n2.to n1.en)).append r2)⟩
    · exact ⟨R1, ρ1, _, n1.k.trans hk, n1.en, h3, fun R2 H2 cls d n2 r2 => q R2 H2 cls d (n1.trans n2) r2⟩
  · exact ⟨R, ρ, _, hk, e, h1, q⟩
/-- positional values, then keywords in the parameters' order -/
def Bd (K : PySem.W.Frag) (fd : FuncData) (ps : List Str) : Prop := ∀ (s : Shared) (us ws : List Value), K.In s.heap → (us ++ ws).length = ps.length → BindsTo s fd ⟨us, (ps.drop us.length).zip ws⟩ (ps.zip (us ++ ws))
section
variable {X : Cx} {k : Nat} {f : Addr} {fd : FuncData} {ps : List Str} {F : Fn} {W : WX} {x : Str} {p pos : Pos} {e : Expr} {es : List Expr} {kws : List Keyword} {g gk : Mo (List Hd)}
theorem kw_all {env : Env} : ∀ {kws : List Keyword}, (kws.all fun k => k.arg.isSome) = true → (backToKw pos (keywordEach kws env)).all (·.1.isSome) = true ∧ (backToKw pos (keywordEach kws env)).any (·.1.isNone) = false ∧ (backToKw pos (keywordEach kws env)).filterMap (·.1) = kws.filterMap (·.arg)
  | [], _ => ⟨rfl, rfl, rfl⟩
  | ⟨a, v, q⟩ :: kws, h => by
    simp only [List.all_cons, Bool.and_eq_true] at h
    obtain ⟨h1, h2⟩ := h
    obtain ⟨i1, i2, i3⟩ := kw_all (env := env) h2
    obtain ⟨b, hb⟩ := Option.isSome_iff_exists.mp h1
    have hb : a = some b := hb
    subst hb
    refine ⟨?_, ?_, ?_⟩
    · show (true && (backToKw pos (keywordEach kws env)).all (·.1.isSome)) = true
      rw [i1]; rfl
    · show (false || (backToKw pos (keywordEach kws env)).any (·.1.isNone)) = false
      rw [i2]; rfl
    · show b :: (backToKw pos (keywordEach kws env)).filterMap (·.1) = b :: kws.filterMap (·.arg)
      rw [i3]
theorem pe_callK0 (G : FnG X.prog X.w X.K X.mg X.base k f fd ps F) (hr : Room k X.A) (hg : X.A.guards = some []) (tk : Takes X W) (gl : Gl X x) (hm : X.mg x = some (.ref f)) (hk : PySem.W.keepIn X.K (.ref f) = true) (hb : Bd X.K fd ps)
    (hkw : PK X kws (tAs X.K W g)) (hall : (kws.all fun k => k.arg.isSome) = true) (hks : kws.filterMap (·.arg) = ps) (hdb : (x == ("__debug__" : Str)) = false) :
    PE X (.Call (.Name x p) [] kws pos) (tN X.K W (Mo.bind g fun hs => callF F hs)) := by
  refine ⟨fun pins s σ H Q I h => ?_⟩
  have h2 := callF_ok h
  obtain ⟨a1, a2, a3⟩ := kw_all (env := X.env) (pos := pos) hall
  refine wpAny_Call_Name_kw (ld_glob I gl hm ?_ hdb)
  refine PySem.W.callWith_KW0 (h₀ := X.base) I.ok.mod.kin hk a1 (thn (hkw.run pos pins s σ H _ I h2) fun ws s1 ⟨vs, H1, I1, r, q⟩ => ⟨I1.kIn, ?_⟩) (by rw [a2]; rfl)
  rw [a3, hks]
  exact run_fnG (us := []) (ws := ws) G hr hg tk (fun s hK hl => hb s [] ws hK hl) I1 r q
theorem pe_callKs (G : FnG X.prog X.w X.K X.mg X.base k f fd ps F) (hr : Room k X.A) (hg : X.A.guards = some []) (tk : Takes X W) (gl : Gl X x) (hm : X.mg x = some (.ref f)) (hk : PySem.W.keepIn X.K (.ref f) = true) (hb : Bd X.K fd ps)
    (ha : PA X (e :: es) (tAs X.K W g)) (hkw : PK X kws (tAs X.K W gk)) (hall : (kws.all fun k => k.arg.isSome) = true) (hlen : (e :: es).length ≤ ps.length) (hks : kws.filterMap (·.arg) = ps.drop (e :: es).length) (hdb : (x == ("__debug__" : Str)) = false)
    (he : starEach (e :: es) X.env = (false, eval e X.env) :: starEach es X.env) (hpl : (backTo pos (starEach (e :: es) X.env)).any (·.1) = false) (hgl : ∀ ρ hs ρ', g ρ = some (.ok hs ρ') → hs.length = (e :: es).length) :
    PE X (.Call (.Name x p) (e :: es) kws pos) (tN X.K W (Mo.bind (appM g gk) fun hs => callF F hs)) := by
  refine ⟨fun pins s σ H Q I h => ?_⟩
  obtain ⟨R, ρ, r, hk0, e0, hf, q0⟩ := appM_ok (callF_ok h)
  have h2 : tAs X.K W g σ H fun xs H1 => xs.length = (e :: es).length ∧ tAs X.K W gk σ H1 fun zs H2 => spF X.K F (xs ++ zs) H2 Q (fun cls d H' => W cls d σ H') := by
    refine ⟨R, ρ, r, hk0, e0, hf, ?_⟩
    cases r with
    | ok hs ρ' => exact fun R' x H' n rr => ⟨by rw [← rr.len]; exact hgl ρ hs ρ' hf, q0 R' x H' n rr⟩
    | ex x ρ' => exact q0
  obtain ⟨a1, a2, a3⟩ := kw_all (env := X.env) (pos := pos) hall
  refine wpAny_Call_Name_kw (ld_glob I gl hm ?_ hdb)
  refine PySem.W.callWith_KW (h₀ := X.base) I.ok.mod.kin hk a1 (thn (ha.run pos pins s σ H _ I h2) fun us s1 ⟨vs, H1, I1, r, hl, q⟩ => ?_) (by rw [hpl, a2]; rfl) he
  refine thn (hkw.run pos pins s1 σ H1 _ I1 q) fun ws s2 ⟨zs, H2, I2, rz, q2⟩ => ⟨I2.kIn, ?_⟩
  rw [a3, hks]
  have hul : us.length = (e :: es).length := by rw [← r.length]; exact hl
  refine run_fnG (us := us) (ws := us ++ ws) G hr hg tk (fun s hK hl2 => ?_) I2 (r.append rz) q2
  have := hb s us ws hK hl2
  rwa [hul] at this
end

/-! ### keywords in another order -/
def permM (na : Nat) (pm : List Nat) (g : Mo (List Hd)) : Mo (List Hd) := Mo.bind g fun hs => Mo.pure (permL na pm hs)
theorem HdRs.getP {R : RC} {H : Hp} {σ : St} : ∀ {a : List Hd} {xs : List V} {i : Nat}, HdRs R H σ a xs → (a[i]? = none ∧ xs[i]? = none) ∨ ∃ h x, a[i]? = some h ∧ xs[i]? = some x ∧ HdR R H σ h x
  | _, _, i, .nil => .inl (by simp)
  | _, _, 0, .cons r _ => .inr ⟨_, _, rfl, rfl, r⟩
  | _, _, i + 1, .cons _ s => by simpa using HdRs.getP (i := i) s
theorem HdRs.takeP {R : RC} {H : Hp} {σ : St} : ∀ {a : List Hd} {xs : List V} (n : Nat), HdRs R H σ a xs → HdRs R H σ (a.take n) (xs.take n)
  | _, _, 0, _ => .nil
  | _, _, _ + 1, .nil => .nil
  | _, _, n + 1, .cons r s => .cons r (HdRs.takeP n s)
theorem HdRs.pickP {R : RC} {H : Hp} {σ : St} {a : List Hd} {xs : List V} (h : HdRs R H σ a xs) (n : Nat) : ∀ pm : List Nat, HdRs R H σ (pickL n a pm) (pickL n xs pm)
  | [] => .nil
  | i :: pm => by
    have ih := HdRs.pickP h n pm
    unfold pickL
    rcases h.getP (i := n + i) with ⟨h1, h2⟩ | ⟨b, x, h1, h2, h3⟩
    · rw [h1, h2]
      exact ih
    · rw [h1, h2]
      exact .cons h3 ih
theorem permM_ok {K : PySem.W.Frag} {W : WX} {g : Mo (List Hd)} {σ : St} {H : Hp} {na : Nat} {pm : List Nat} {Q : List V → Hp → Prop} (h : tAs K W (permM na pm g) σ H Q) : tAs K W g σ H fun xs H1 => Q (permL na pm xs) H1 := by
  obtain ⟨R, ρ, r, hk, e, hf, q⟩ := h
  rcases bind_ok hf with ⟨a, ρ1, h1, h2⟩ | ⟨x, ρ1, h1, rfl⟩
  · cases h2
    exact ⟨R, ρ, _, hk, e, h1, fun R1 xs H1 n1 r1 => q R1 _ H1 n1 ((r1.takeP na).append (r1.pickP na pm))⟩
  · exact ⟨R, ρ, _, hk, e, h1, q⟩
theorem tAs_len {K : PySem.W.Frag} {W : WX} {g : Mo (List Hd)} {σ : St} {H : Hp} {n : Nat} {Q : List V → Hp → Prop} (hg : ∀ ρ hs ρ', g ρ = some (.ok hs ρ') → hs.length = n) (h : tAs K W g σ H Q) : tAs K W g σ H fun xs H1 => xs.length = n ∧ Q xs H1 := by
  obtain ⟨R, ρ, r, hk, e, hf, q⟩ := h
  refine ⟨R, ρ, r, hk, e, hf, ?_⟩
  cases r with
  | ok hs ρ' => exact fun R' x H' n rr => ⟨by rw [← rr.len]; exact hg ρ hs ρ' hf, q R' x H' n rr⟩
  | ex x ρ' => exact q
/-- keywords ko, at the places pm of the parameters behind the positional ones -/
def Bdp (K : PySem.W.Frag) (fd : FuncData) (ps ko : List Str) (pm : List Nat) : Prop := ∀ (s : Shared) (us ws : List Value), K.In s.heap → us.length + ko.length = ps.length → ws.length = ko.length → BindsTo s fd ⟨us, ko.zip ws⟩ (ps.zip (us ++ pickL 0 ws pm))
theorem permL_app {α : Type} {us ws : List α} (pm : List Nat) : permL us.length pm (us ++ ws) = us ++ pickL 0 ws pm := by
  unfold permL
  rw [List.take_left]
  congr 1
  induction pm with
  | nil => rfl
  | cons i pm ih =>
    have e : (us ++ ws)[us.length + i]? = ws[0 + i]? := by
      rw [List.getElem?_append_right (by omega)]
      congr 1
      omega
    unfold pickL
    rw [e, ih]
section
variable {X : Cx} {k : Nat} {f : Addr} {fd : FuncData} {ps : List Str} {F : Fn} {W : WX} {x : Str} {p pos : Pos} {e : Expr} {es : List Expr} {kws : List Keyword} {g gk : Mo (List Hd)} {ko : List Str} {pm : List Nat}
theorem pe_callP0 (G : FnG X.prog X.w X.K X.mg X.base k f fd ps F) (hr : Room k X.A) (hg : X.A.guards = some []) (tk : Takes X W) (gl : Gl X x) (hm : X.mg x = some (.ref f)) (hk : PySem.W.keepIn X.K (.ref f) = true) (hb : Bdp X.K fd ps ko pm)
    (hkw : PK X kws (tAs X.K W g)) (hall : (kws.all fun k => k.arg.isSome) = true) (hks : kws.filterMap (·.arg) = ko) (hgk : ∀ ρ hs ρ', g ρ = some (.ok hs ρ') → hs.length = ko.length) (hl : ko.length = ps.length) (hdb : (x == ("__debug__" : Str)) = false) :
    PE X (.Call (.Name x p) [] kws pos) (tN X.K W (Mo.bind (permM 0 pm g) fun hs => callF F hs)) := by
  refine ⟨fun pins s σ H Q I h => ?_⟩
  have h2 := tAs_len hgk (permM_ok (callF_ok h))
  obtain ⟨a1, a2, a3⟩ := kw_all (env := X.env) (pos := pos) hall
  refine wpAny_Call_Name_kw (ld_glob I gl hm ?_ hdb)
  refine PySem.W.callWith_KW0 (h₀ := X.base) I.ok.mod.kin hk a1 (thn (hkw.run pos pins s σ H _ I h2) fun ws s1 ⟨vs, H1, I1, r, hwl, q⟩ => ⟨I1.kIn, ?_⟩) (by rw [a2]; rfl)
  rw [a3, hks]
  have hwl2 : ws.length = ko.length := by rw [← r.length]; exact hwl
  refine run_fnG (us := []) (ws := permL 0 pm ws) G hr hg tk (fun s hK hl2 => ?_) I1 (vals_perm 0 pm r) q
  have := hb s [] ws hK (by simpa using hl) hwl2
  have e : permL 0 pm ws = [] ++ pickL 0 ws pm := permL_app (us := []) (ws := ws) pm
  rw [e]
  exact this
theorem pe_callPs (G : FnG X.prog X.w X.K X.mg X.base k f fd ps F) (hr : Room k X.A) (hg : X.A.guards = some []) (tk : Takes X W) (gl : Gl X x) (hm : X.mg x = some (.ref f)) (hk : PySem.W.keepIn X.K (.ref f) = true) (hb : Bdp X.K fd ps ko pm)
    (ha : PA X (e :: es) (tAs X.K W g)) (hkw : PK X kws (tAs X.K W gk)) (hall : (kws.all fun k => k.arg.isSome) = true) (hks : kws.filterMap (·.arg) = ko) (hgk : ∀ ρ hs ρ', gk ρ = some (.ok hs ρ') → hs.length = ko.length) (hl : (e :: es).length + ko.length = ps.length) (hdb : (x == ("__debug__" : Str)) = false)
    (he : starEach (e :: es) X.env = (false, eval e X.env) :: starEach es X.env) (hpl : (backTo pos (starEach (e :: es) X.env)).any (·.1) = false) (hgl : ∀ ρ hs ρ', g ρ = some (.ok hs ρ') → hs.length = (e :: es).length) :
    PE X (.Call (.Name x p) (e :: es) kws pos) (tN X.K W (Mo.bind (permM (e :: es).length pm (appM g gk)) fun hs => callF F hs)) := by
  refine ⟨fun pins s σ H Q I h => ?_⟩
  have h1 := tAs_len hgl (appM_ok (permM_ok (callF_ok h)))
  obtain ⟨a1, a2, a3⟩ := kw_all (env := X.env) (pos := pos) hall
  refine wpAny_Call_Name_kw (ld_glob I gl hm ?_ hdb)
  refine PySem.W.callWith_KW (h₀ := X.base) I.ok.mod.kin hk a1 (thn (ha.run pos pins s σ H _ I h1) fun us s1 ⟨vs, H1, I1, r, hvl, q⟩ => ?_) (by rw [hpl, a2]; rfl) he
  refine thn (hkw.run pos pins s1 σ H1 _ I1 (tAs_len hgk q)) fun ws s2 ⟨zs, H2, I2, rz, hwl, q2⟩ => ⟨I2.kIn, ?_⟩
  rw [a3, hks]
  have hul : us.length = (e :: es).length := by rw [← r.length]; exact hvl
  have hwl2 : ws.length = ko.length := by rw [← rz.length]; exact hwl
  refine run_fnG (us := us) (ws := permL (e :: es).length pm (us ++ ws)) G hr hg tk (fun s hK hl2 => ?_) I2 (vals_perm _ pm (r.append rz)) q2
  have := hb s us ws hK (by rw [hul]; exact hl) hwl2
  rw [← hul, permL_app (us := us) (ws := ws) pm]
  exact this
end

/-! ### operations -/
inductive Bop where
  | add | sub | mul | fdiv | mod | pow | eq | ne | lt | le | gt | ge | is | isn | isin | nin
def Bop.op : Bop → D → D → Option D
  | .add => addD | .sub => subD | .mul => mulD2 | .fdiv => fdivD | .mod => modD | .pow => powD
  | .eq => fun a b => (eqF 60 a b).map fun e => .bl (if false then !e else e)
  | .ne => fun a b => (eqF 60 a b).map fun e => .bl (if true then !e else e)
  | .lt => ltD | .le => leD | .gt => gtD | .ge => geD | .is => isD false | .isn => isD true | .isin => inDD2 false | .nin => inDD2 true
def Bop.rd (K : PySem.W.Frag) : Bop → R2
  | .add => rAddD K | .sub => rI0 fun i j => .int (i - j) | .mul => rMulD2 | .fdiv => rI CDivN fun i j => .int (i.fdiv j) | .mod => rI (fun _ j => j ≠ 0) fun i j => .int (i.fmod j) | .pow => rI CPow fun i j => .int (i ^ j.toNat)
  | .eq => rEqF K false | .ne => rEqF K true
  | .lt => rCmpD (fun i j => .bl (decide (i < j))) fun i j => decide (i.cps.toList < j.cps.toList)
  | .le => rCmpD (fun i j => .bl (decide (i ≤ j))) fun i j => !decide (j.cps.toList < i.cps.toList)
  | .gt => rCmpD (fun i j => .bl (decide (j < i))) fun i j => decide (j.cps.toList < i.cps.toList)
  | .ge => rCmpD (fun i j => .bl (decide (j ≤ i))) fun i j => !decide (i.cps.toList < j.cps.toList)
  | .is => rIsD false | .isn => rIsD true | .isin => rInD2 K false | .nin => rInD2 K true
theorem Bop.ok {K : PySem.W.Frag} : ∀ b : Bop, OpS K (b.rd K) b.op
  | .add => addD_ok | .sub => subD_ok | .mul => mulD2_ok | .fdiv => fdivD_ok | .mod => modD_ok | .pow => powD_ok
  | .eq => eqF_op | .ne => eqF_op | .lt => ltD_ok | .le => leD_ok | .gt => gtD_ok | .ge => geD_ok | .is => isD_ok | .isn => isD_ok | .isin => inDD2_ok | .nin => inDD2_ok
def binO : Operator → Option Bop
  | .Add => some .add | .Sub => some .sub | .Mult => some .mul | .FloorDiv => some .fdiv | .Mod => some .mod | .Pow => some .pow | _ => none
def cmpO : CmpOp → Option Bop
  | .Eq => some .eq | .NotEq => some .ne | .Lt => some .lt | .LtE => some .le | .Gt => some .gt | .GtE => some .ge | .Is => some .is | .IsNot => some .isn | .In => some .isin | .NotIn => some .nin
theorem binO_ok {X : Cx} {o : Operator} {b : Bop} (h : binO o = some b) : OpR X (binaryOp o) (b.rd X.K) := by
  cases o <;> cases h
  · exact op_addD
  · exact op_sub
  · exact op_mulD2
  · exact op_modN
  · exact op_pow
  · exact op_fdivN
theorem cmpO_ok {X : Cx} (hu : X.A.units + 64 < cLine) {o : CmpOp} {b : Bop} (h : cmpO o = some b) : OpR X (compareOp o) (b.rd X.K) := by
  cases o <;> cases h
  · exact op_eqF hu
  · exact op_neF hu
  · exact op_ltD
  · exact op_leD
  · exact op_gtD
  · exact op_geD
  · exact op_isD
  · exact op_isnotD
  · exact op_inD2 (by omega)
  · exact op_notInD2 (by omega)
inductive Bi where
  | len | abs | int | sum | all | any | max | min | str | repr | list | tuple | sorted
def Bi.fn : Bi → List D → Option D
  | .len => lenB2 | .abs => absB | .int => intB | .sum => sumB | .all => allB | .any => anyB | .max => maxB | .min => minB | .str => strB | .repr => reprB2 | .list => listB2 | .tuple => tupleB | .sorted => sortedB
def biO (x : Str) : Option Bi :=
  if x = "len" then some .len else if x = "abs" then some .abs else if x = "int" then some .int else if x = "sum" then some .sum else if x = "all" then some .all else if x = "any" then some .any else if x = "max" then some .max else if x = "min" then some .min
  else if x = "str" then some .str else if x = "repr" then some .repr else if x = "list" then some .list else if x = "tuple" then some .tuple else if x = "sorted" then some .sorted else none
def tyO (x : Str) : Option Ty :=
  if x = "int" then some .int else if x = "bool" then some .bool else if x = "str" then some .str else if x = "tuple" then some .tuple else if x = "list" then some .list else if x = "dict" then some .dict else none

/-! ### the language -/
mutual
inductive E where
  | var (i : Nat) | con (d : D) | op (o : Bop) (a b : E) | cmp (o : Bop) (a b : E) | chain (o o' : Bop) (a b c : E) | neg (a : E) | not (a : E) | and (a b : E) | or (a b : E) | ite (c a b : E)
  | tup (es : Es) | lst (es : Es) | idx (a b : E) | stp (a b : E) | sli (a : E) (lo hi : Oe) | isi (t : Ty) (a : E) | bi (b : Bi) (es : Es) | join (a b : E) | up (a : E) | app (i : Nat) (a : E) | call (F : Fn) (es ks : Es)
  | lc (it : Ie) (t : Tg) (own : List Nat) (c : Oe) (e : E) | dic | dct (ps : Ps) | get (a k : E) | lset (a : E) | callP (F : Fn) (es ks : Es) (na : Nat) (pm : List Nat) | isx (tab : List (Str × Bool)) (a : E) | att (n : Str) (ok : List Str) (a : E) | mk (c : Str) (fs : List Str) (es : Es) | mkP (c : Str) (fs : List Str) (es : Es) (pm : List Nat)
inductive Es where
  | nil | cons (e : E) (es : Es)
inductive Ps where
  | nil | cons (k v : E) (ps : Ps)
inductive Oe where
  | no | so (e : E)
inductive Ie where
  | seq (e : E) | rng1 (es : Es) | rng2 (es : Es) | enum (es : Es) | zip (es : Es)
end
/-- a value, a test, a result -/
structure Sm where
  v : Mo Hd
  b : Mo Bool
  n : Mo Fr
def frzN (f : Mo Hd) : Mo Fr := Mo.bind f fun a => Mo.bind (freeze a) fun d => Mo.pure (.dat d)
def valN (f : Mo Fr) : Mo Hd := Mo.bind f fun fr => Mo.pure (.val fr.toD)
def smV (f : Mo Hd) : Sm := ⟨f, valB f, frzN f⟩
def smB (f : Mo Hd) : Sm := ⟨f, tstB f, frzN f⟩
def smN (f : Mo Fr) : Sm := ⟨valN f, valB (valN f), f⟩
def iteB (c a b : Mo Bool) : Mo Bool := Mo.bind c fun k => match k with
  | true => a
  | false => b
def tupM (g : Mo (List Hd)) : Mo Hd := Mo.bind g fun hs => Mo.bind (freezes hs) fun ds => Mo.bind (Mo.lift (if ds.length ≤ sizeLine then some (D.tup ds) else none)) fun d => Mo.pure (.val d)
def biM (fn : List D → Option D) (g : Mo (List Hd)) : Mo Hd := Mo.bind g fun hs => Mo.bind (derefs hs) fun ds => Mo.bind (Mo.lift (fn ds)) fun d => Mo.pure (.val d)
def consM {α : Type} (f : Mo α) (g : Mo (List α)) : Mo (List α) := Mo.bind f fun a => Mo.bind g fun as => Mo.pure (a :: as)
def callM (F : Fn) (g : Mo (List Hd)) : Mo Fr := Mo.bind g fun hs => callF F hs
def isLst : Bi → Bool
  | .list => true
  | _ => false
mutual
def E.sm : E → Sm
  | .var i => smV (readVar i)
  | .con d => smV (Mo.pure (.val d))
  | .op .add a b => ⟨opM addD a.sm.v b.sm.v, valB (opM addD a.sm.v b.sm.v), opN addD a.sm.v b.sm.v⟩
  | .op o a b => smV (opM o.op a.sm.v b.sm.v)
  | .cmp o a b => smB (opM o.op a.sm.v b.sm.v)
  | .chain o o' a b c => smB (chainM o.op o'.op a.sm.v b.sm.v c.sm.v)
  | .neg a => smV (unM negD a.sm.v)
  | .not a => ⟨notM a.sm.v, notB a.sm.b, frzN (notM a.sm.v)⟩
  | .and a b => ⟨andM a.sm.v b.sm.v, andB a.sm.b b.sm.b, frzN (andM a.sm.v b.sm.v)⟩
  | .or a b => ⟨orM a.sm.v b.sm.v, orB a.sm.b b.sm.b, frzN (orM a.sm.v b.sm.v)⟩
  | .ite c a b => ⟨iteM c.sm.b a.sm.v b.sm.v, iteB c.sm.b a.sm.b b.sm.b, frzN (iteM c.sm.b a.sm.v b.sm.v)⟩
  | .tup es => smV (tupM es.vs)
  | .lst es => smN (lstN es.vs)
  | .idx a b => smV (opM idxDD a.sm.v b.sm.v)
  | .stp a b => smV (opM stpD a.sm.v b.sm.v)
  | .sli a lo hi => smV (sliM a.sm.v lo.v hi.v)
  | .isi t a => smV (isiM t a.sm.v)
  | .bi .list es => smN (callN listB2 es.vs)
  | .bi .sorted es => smN (callN sortedB es.vs)
  | .bi b es => smV (biM b.fn es.vs)
  | .join a b => smV (met1 joinD a.sm.v b.sm.v)
  | .up a => smV (met0 upD a.sm.v)
  | .app i a => smV (apM i a.sm.v)
  | .call F es ks => smN (callM F (appM es.vs ks.vs))
  | .lc it t own c e => smN (lcM it.ds t own c.b e.sm.v)
  | .dic => smN (Mo.pure (.new (.dct [])))
  | .dct ps => smN (dctM (gPairs ps.ms))
  | .get a k => smV (getM a.sm.v k.sm.v)
  | .lset a => smV (unM lenSetB a.sm.v)
  | .callP F es ks na pm => smN (callM F (permM na pm (appM es.vs ks.vs)))
  | .isx tab a => smV (isxM tab a.sm.v)
  | .att n ok a => smV (attM n ok a.sm.v)
  | .mk c fs es => smV (mkM c fs es.vs)
  | .mkP c fs es pm => smV (mkM c fs (permM 0 pm es.vs))
def Es.vs : Es → Mo (List Hd)
  | .nil => Mo.pure []
  | .cons e es => consM e.sm.v es.vs
def Ps.ms : Ps → List (Mo Hd × Mo Hd)
  | .nil => []
  | .cons k v ps => (k.sm.v, v.sm.v) :: ps.ms
def Oe.v : Oe → Option (Mo Hd)
  | .no => none
  | .so e => some e.sm.v
def Oe.b : Oe → Mo Bool
  | .no => Mo.pure true
  | .so e => e.sm.b
def Ie.ds : Ie → Mo (List D)
  | .seq e => seqM e.sm.v
  | .rng1 es => itM rngK1 es.vs
  | .rng2 es => itM rngK2 es.vs
  | .enum es => itM enumK es.vs
  | .zip es => itM zipK es.vs
end
def Es.ns : Es → Mo (List Fr)
  | .nil => Mo.pure []
  | .cons e es => consM e.sm.n es.ns
inductive Aop where
  | add | sub
def Aop.f : Aop → Int → Int → Int
  | .add => fun a b => a + b
  | .sub => fun a b => a - b
mutual
inductive S where
  | asg (i : Nat) (e : E) | asgT (t : Tg) (e : E) | par (is : List Nat) (es : Es) | set (i : Nat) (k e : E) | aug (i : Nat) (o : Aop) (e : E) | retV (i : Nat) | ret (e : E) | expr (e : E) | ite (c : E) (a b : Ss) | for (it : Ie) (t : Tg) (b : Ss) | brk | cont | pass | raise (c : Str) (fs : List Str) (es : Es) | tryH (b : Ss) (hs : Hs)
inductive Ss where
  | nil | cons (s : S) (ss : Ss)
inductive Hs where
  | nil | cons (tab : List (Str × Bool)) (o : Option Nat) (ss : Ss) (hs : Hs)
end
def bkM : Ms := fun ρ => some (.ok .bk ρ)
def ctM : Ms := fun ρ => some (.ok .ct ρ)
mutual
def S.ms : S → Ms
  | .asg i e => asgM e.sm.n i
  | .asgT t e => asgT e.sm.v t
  | .par is es => parM es.ns is
  | .set i k e => setM2 i e.sm.v k.sm.v
  | .aug i o e => augM i o.f e.sm.v
  | .retV i => Mi.retV i
  | .ret e => retM e.sm.n
  | .expr e => dropM e.sm.v
  | .ite c a b => ifM c.sm.b a.ms b.ms
  | .for it t b => forM it.ds t b.ms
  | .brk => bkM
  | .cont => ctM
  | .pass => nxM
  | .raise c fs es => raiseM c fs es.vs
  | .tryH b hs => tryM b.ms hs.ms
def Ss.ms : Ss → Ms
  | .nil => nxM
  | .cons s ss => seqS s.ms ss.ms
def Hs.ms : Hs → List Hn
  | .nil => []
  | .cons tab o ss hs => ⟨tab, o, ss.ms⟩ :: hs.ms
end
end Mi
set_option Elab.async false
set_option linter.all false
set_option maxRecDepth 100000
set_option maxHeartbeats 2000000
/-! M16: from the program's text to the small language -/
namespace Mi
open PySem PySem.Spec L2
open PyProof.Rows hiding St

/-! ### what is known of the module -/
inductive Ent where
  | con (d : D) | fn (k : Nat) (ps : List Str) (F : Fn) (kos : List (List Str × List Nat))
structure Ce where
  N : List Str
  sc : Scope
  fnc : Str → Bool
  k : Nat
  lib : Str → Option Ent
  cls : List ClI := []
def bnames : List Str := ["len", "abs", "int", "sum", "all", "any", "max", "min", "str", "repr", "list", "tuple", "isinstance", "range", "enumerate", "zip", "bool", "dict", "sorted", "set"]
structure LibOk (P : Program) (w : World) (K : PySem.W.Frag) (mg : Str → Option Value) (base : Heap) (lib : Str → Option Ent) : Prop where
  con : ∀ x d, lib x = some (.con d) → ∃ v u, mg x = some u ∧ RelV v u ∧ ∀ R H, R.K = K → DR R H d v
  fn : ∀ x k ps F kos, lib x = some (.fn k ps F kos) → ∃ f fd, mg x = some (.ref f) ∧ PySem.W.keepIn K (.ref f) = true ∧ Bd K fd ps ∧ FnG P w K mg base k f fd ps F ∧ ∀ q ∈ kos, Bdp K fd ps q.1 q.2
  no : ∀ x ∈ bnames, mg x = none
structure Ok (X : Cx) (W : WX) (ce : Ce) : Prop where
  N : X.N = ce.N
  nd : X.N.Nodup
  sc : X.env.scope = ce.sc
  kd : X.env.scope.kind = .function
  calm : X.calm = true
  room : Room ce.k X.A
  hg : X.A.guards = some []
  tk : Takes X W
  po : PassesOwn (model X.prog X.w) X.A X.env X.xe
  fnc : ∀ x, ce.fnc x = true → X.fn x = true
  lib : LibOk X.prog X.w X.K X.mg X.base ce.lib
  cls : ClsOk X.prog X.K X.mg ce.cls

/-! ### looks at the text -/
def ixOf : List Str → Str → Option Nat
  | [], _ => none
  | y :: ys, x => if y = x then some 0 else (ixOf ys x).map (· + 1)
theorem ixOf_ok : ∀ {N : List Str} {x : Str} {i : Nat}, ixOf N x = some i → N[i]? = some x
  | [], _, _, h => by cases h
  | y :: ys, x, i, h => by
    unfold ixOf at h
    split at h
    · rename_i e
      cases h
      rw [e]; rfl
    · obtain ⟨j, h1, rfl⟩ := map_some h
      simpa using ixOf_ok h1
def visC (sc : Scope) (x : Str) : Bool := match sc.names.lookup x with
  | some .local => true
  | some .cell => true
  | some .free => true
  | _ => false
theorem visC_ok {sc : Scope} {x : Str} (h : visC sc x = true) : Vis sc x := by
  unfold visC at h
  split at h
  · exact .inl (by assumption)
  · exact .inr (.inl (by assumption))
  · exact .inr (.inr (by assumption))
  · cases h
def glC (sc : Scope) (x : Str) : Bool := match sc.names.lookup x with
  | some .globalImplicit => true
  | _ => false
theorem glC_ok {X : Cx} {sc : Scope} {x : Str} (hs : X.env.scope = sc) (h : glC sc x = true) : Gl X x := by
  subst hs
  unfold glC at h
  split at h
  · assumption
  · cases h
def asgC (ce : Ce) (x : Str) : Bool := match ce.sc.names.lookup x with
  | some .local => true
  | some .cell => ce.fnc x
  | _ => false
theorem asgC_ok {X : Cx} {W : WX} {ce : Ce} (o : Ok X W ce) {x : Str} (h : asgC ce x = true) : Loc X.env.scope x ∧ (X.fn x = true ∨ X.env.scope.names.lookup x = some .local) := by
  unfold asgC at h
  rw [o.sc]
  split at h
  · rename_i e
    exact ⟨.inl e, .inr e⟩
  · rename_i e
    exact ⟨.inr e, .inl (o.fnc x h)⟩
  · cases h
def okN (x : Str) : Bool := !(x == ("__debug__" : Str)) && !(x == ("__classdict__" : Str))
theorem okN_ok {x : Str} (h : okN x = true) : (x == ("__debug__" : Str)) = false ∧ (x == ("__classdict__" : Str)) = false := by
  unfold okN at h
  simpa using h
def notStar : Expr → Bool
  | .Starred .. => false
  | _ => true
theorem star_co {e : Expr} {es : List Expr} {env : Env} (h : notStar e = true) : starEach (e :: es) env = (false, eval e env) :: starEach es env := by
  cases e <;> first | rfl | cases h
theorem asg_co {e : Expr} {es : List Expr} {env : Env} (h : notStar e = true) : assignEach (e :: es) env = (false, assign e env) :: assignEach es env := by
  cases e <;> first | rfl | cases h
theorem back_any {es : List Expr} {env : Env} {pos : Pos} (h : es.all notStar = true) : (backTo pos (starEach es env)).any (·.1) = false := by
  induction es with
  | nil => rfl
  | cons e es ih =>
    simp only [List.all_cons, Bool.and_eq_true] at h
    rw [star_co h.1]
    show (false || (backTo pos (starEach es env)).any (·.1)) = false
    rw [ih h.2]; rfl
def notSlice : Expr → Bool
  | .Slice .. => false
  | _ => true
theorem plain_ix {e : Expr} (h : notSlice e = true) : PlainIx e := by
  intro o i
  cases e <;> first | rfl | cases h
def notSet : Expr → Bool
  | .Set .. => false
  | _ => true
theorem nomark2 {e : Expr} {op : CmpOp} (h : notSet e = true) : behindInMarks op e = false := by
  cases e <;> first | rfl | cases h
theorem nofold {e : Expr} {env : Env} (h : notSet e = true) : ∀ x, foldedSetIterable e env x = pure x := by
  intro x
  cases e <;> first | rfl | cases h
def notCall0 : Expr → Bool
  | .Call _ [] [] _ => false
  | _ => true
theorem att_base {e : Expr} {a : Str} {env : Env} (h : notCall0 e = true) : attributeBase e a env (eval e env) = eval e env := by
  cases e with
  | Call f es ks pos =>
    cases es with
    | nil =>
      cases ks with
      | nil => cases h
      | cons k ks => cases f <;> rfl
    | cons e es => cases f <;> rfl
  | _ => rfl
def notComp : Expr → Bool
  | .ListComp .. => false
  | .SetComp .. => false
  | .DictComp .. => false
  | _ => true
theorem noswap {e : Expr} {t : Option Expr} {l : Nat} {env : Env} (h : notComp e = true) : swapsWith e t l env = pure false := by
  cases e <;> first | rfl | cases h

/-! ### the translation -/
def cName (ce : Ce) (x : Str) : Option E := match okN x, visC ce.sc x with
  | true, true => (ixOf ce.N x).map .var
  | true, false => match glC ce.sc x, ce.lib x with
    | true, some (.con d) => some (.con d)
    | _, _ => none
  | _, _ => none
def cCon : Const → Option E
  | .int i => some (.con (.int i))
  | .bool b => some (.con (.bl b))
  | .none => some (.con .non)
  | .str x => some (.con (.str x.cps.toList))
  | _ => none
def cEs (f : Expr → Option E) : List Expr → Option Es
  | [] => some .nil
  | e :: es => match notStar e, f e, cEs f es with
    | true, some a, some b => some (.cons a b)
    | _, _, _ => none
def cKs (f : Expr → Option E) : List Keyword → Option Es
  | [] => some .nil
  | k :: ks => match k.arg.isSome, f k.value, cKs f ks with
    | true, some a, some b => some (.cons a b)
    | _, _, _ => none
def cBool (f : Expr → Option E) (op : BoolOp) : List Expr → Option E
  | [] => none
  | [a] => f a
  | a :: b :: r => match op, f a, cBool f op (b :: r) with
    | .And, some x, some y => some (.and x y)
    | .Or, some x, some y => some (.or x y)
    | _, _, _ => none
def cOe (f : Expr → Option E) : Option Expr → Option Oe
  | none => some .no
  | some e => (f e).map .so
def cIfs (f : Expr → Option E) : List Expr → Option Oe
  | [] => some .no
  | [e] => (f e).map .so
  | _ => none
def cTs (f : Expr → Option Tg) : List Expr → Option Tgs
  | [] => some .nil
  | e :: es => match notStar e, f e, cTs f es with
    | true, some a, some b => some (.cons a b)
    | _, _, _ => none
def cT : Nat → Ce → Expr → Option Tg
  | _, ce, .Name x _ => match asgC ce x with
    | true => (ixOf ce.N x).map .nm
    | false => none
  | n + 1, ce, .Tuple es _ _ => (cTs (cT n ce) es).map .tup
  | _, _, _ => none
def isTupE : Expr → Bool
  | .Tuple .. => true
  | _ => false
def cI (f : Expr → Option E) (ce : Ce) (tg : Expr) : Expr → Option Ie
  | .Call (.Name x p) [a] [] pos => if glC ce.sc x = true ∧ x = "range" then (cEs f [a]).map .rng1 else if glC ce.sc x = true ∧ x = "enumerate" ∧ isTupE tg = true then (cEs f [a]).map .enum else (f (.Call (.Name x p) [a] [] pos)).map .seq
  | .Call (.Name x p) [a, b] [] pos => if glC ce.sc x = true ∧ x = "range" then (cEs f [a, b]).map .rng2 else if glC ce.sc x = true ∧ x = "zip" ∧ isTupE tg = true then (cEs f [a, b]).map .zip else (f (.Call (.Name x p) [a, b] [] pos)).map .seq
  | e => match notSet e with
    | true => (f e).map .seq
    | false => none
def ownOf (N : List Str) : List (Str × NameKind) → List (Str × Nat)
  | [] => []
  | (x, .local) :: r => match ixOf N x with
    | some i => (x, i) :: ownOf N r
    | none => ownOf N r
  | (x, .cell) :: r => match ixOf N x with
    | some i => (x, i) :: ownOf N r
    | none => ownOf N r
  | _ :: r => ownOf N r
def Ce.blk (ce : Ce) (scope : Scope) : Ce := { ce with sc := relS scope ce.sc, fnc := fun x => scope.names.lookup x == some .cell }
def pmOf : List (List Str × List Nat) → List Str → Option (List Nat)
  | [], _ => none
  | q :: r, ko => if q.1 = ko then some q.2 else pmOf r ko
theorem pmOf_ok : ∀ {kos : List (List Str × List Nat)} {ko : List Str} {pm : List Nat}, pmOf kos ko = some pm → (ko, pm) ∈ kos
  | [], _, _, h => by cases h
  | q :: r, ko, pm, h => by
    unfold pmOf at h
    split at h
    · rename_i e
      cases h
      subst e
      exact List.mem_cons_self ..
    · exact List.mem_cons_of_mem _ (pmOf_ok h)
def cCall (f : Expr → Option E) (ce : Ce) (fn : Expr) (es : List Expr) (ks : List Keyword) (pos : Pos) : Option E := match fn with
  | .Name x _ => if okN x = true ∧ glC ce.sc x = true then (match ce.lib x with
    | some (.fn k ps F kos) => match cEs f es, cKs f ks with
      | some a, some b => if k ≤ ce.k ∧ (es ≠ [] ∨ ks ≠ []) then (if es.length ≤ ps.length ∧ ks.filterMap (·.arg) = ps.drop es.length then some (.call F a b) else match pmOf kos (ks.filterMap (·.arg)) with
        | some pm => if es.length + (ks.filterMap (·.arg)).length = ps.length then some (.callP F a b es.length pm) else none
        | none => none) else none
      | _, _ => none
    | some _ => none
    | none => match es, ks with
      | [e, .Name t _], [] => if x = "isinstance" then (if glC ce.sc t = true ∧ okN t = true ∧ notStar e = true then (match tyO t, f e with
          | some ty, some a => some (.isi ty a)
          | _, _ => none) else none) else (match biO x, cEs f es with
          | some b, some a => some (.bi b a)
          | _, _ => none)
      | e :: es, [] => match biO x, cEs f (e :: es) with
        | some b, some a => some (.bi b a)
        | _, _ => none
      | _, _ => none) else none
  | .Attribute o name apos => if (apos.endLine == pos.line) = true ∧ ks = [] ∧ notCall0 o = true then (match es with
    | [] => if name = "upper" then (f o).map .up else none
    | [e] => if notStar e = true then (if name = "join" then (match f o, f e with
        | some a, some b => some (.join a b)
        | _, _ => none) else if name = "append" then (match o with
        | .Name x _ => match okN x, visC ce.sc x, ixOf ce.N x, f e with
          | true, true, some i, some a => some (.app i a)
          | _, _, _, _ => none
        | _ => none) else if name = "get" then (match f o, f e with
        | some a, some b => some (.get a b)
        | _, _ => none) else none) else none
    | _ => none) else none
  | _ => none
def cLc (f : Ce → Expr → Option E) (ft : Ce → Expr → Option Tg) (ce : Ce) (elt : Expr) (gs : List Comprehension) (scope : Scope) : Option E := match gs with
  | [⟨tg, iter, ifs, a⟩] => if a = 0 then (match blkC ce.N ce.sc scope (ownOf ce.N scope.names) && notSet iter, cI (f ce) ce tg iter, ft (ce.blk scope) tg, cIfs (f (ce.blk scope)) ifs, f (ce.blk scope) elt with
    | true, some it, some t, some c, some e => if t.sl.all (fun i => ((ownOf ce.N scope.names).map (·.2)).contains i) = true then some (.lc it t ((ownOf ce.N scope.names).map (·.2)) c e) else none
    | _, _, _, _, _ => none) else none
  | _ => none
def okFor (cls : List ClI) (n : Str) : List Str := (cls.filter fun c => c.fs.contains n).map (·.nm)
def okBlt (cls : List ClI) (n : Str) : Bool := cls.all fun c => !c.fs.contains n || c.b.isNone
/-- classes of the program, by their names -/
def findC (cls : List ClI) (t : Str) : Option ClI := match cls with
  | [] => none
  | c :: cls => if c.nm = t then some c else findC cls t
theorem findC_ok : ∀ {cls : List ClI} {t : Str} {c : ClI}, findC cls t = some c → c ∈ cls ∧ c.nm = t
  | [], _, _, h => by cases h
  | c :: cls, t, c', h => by
    unfold findC at h
    split at h
    · rename_i e
      cases h
      exact ⟨List.mem_cons_self .., e⟩
    · obtain ⟨h1, h2⟩ := findC_ok h
      exact ⟨List.mem_cons_of_mem _ h1, h2⟩
def cNm (ce : Ce) : Expr → Option ClI
  | .Name t _ => if glC ce.sc t = true ∧ (t == ("__debug__" : Str)) = false then findC ce.cls t else none
  | _ => none
def cNms (ce : Ce) : List Expr → Option (List ClI)
  | [] => some []
  | e :: es => match cNm ce e, cNms ce es with
    | some c, some cs => some (c :: cs)
    | _, _ => none
def cIsx (f : Expr → Option E) (ce : Ce) (fn : Expr) (es : List Expr) (ks : List Keyword) : Option E := match fn, es, ks with
  | .Name x _, [e, .Name t _], [] => if x = "isinstance" ∧ glC ce.sc x = true ∧ glC ce.sc t = true ∧ (t == ("__debug__" : Str)) = false ∧ notStar e = true ∧ (ce.cls.any fun c => c.nm == t) = true then (f e).map (.isx (tabOf ce.cls [t])) else none
  | .Name x _, [e, .Tuple ts _ _], [] => if x = "isinstance" ∧ glC ce.sc x = true ∧ notStar e = true then (match cNms ce ts with
      | some cs => if cs.length ≤ 1000 then (f e).map (.isx (tabOf ce.cls (cs.map (·.nm)))) else none
      | none => none) else none
  | _, _, _ => none
def cLset (f : Expr → Option E) (ce : Ce) (fn : Expr) (es : List Expr) (ks : List Keyword) : Option E := match fn, es, ks with
  | .Name x _, [.Call (.Name y _) [e] [] _], [] => if x = "len" ∧ y = "set" ∧ glC ce.sc x = true ∧ glC ce.sc y = true ∧ notStar e = true then (f e).map .lset else none
  | _, _, _ => none
/-- an own exception, made -/
def cMk (f : Expr → Option E) (ce : Ce) (fn : Expr) (es : List Expr) (ks : List Keyword) : Option E := match fn with
  | .Name x _ => (match okN x && glC ce.sc x && decide (2 ≤ ce.k), findC ce.cls x with
    | true, some c => if c.b = none ∧ c.own = true then (match ks with
      | [] => (cEs f es).map (.mk c.nm c.fs)
      | k :: ks => (match es with
        | [] => (match cKs f (k :: ks), pmOf c.kos ((k :: ks).filterMap (·.arg)) with
          | some b, some pm => some (.mkP c.nm c.fs b pm)
          | _, _ => none)
        | _ :: _ => none)) else none
    | _, _ => none)
  | _ => none
def cPs (f : Expr → Option E) : List (Option Expr) → List Expr → Option Ps
  | [], [] => some .nil
  | some k :: ks, v :: vs => match f k, f v, cPs f ks vs with
    | some a, some b, some r => some (.cons a b r)
    | _, _, _ => none
  | _, _ => none
def cE : Nat → Ce → Expr → Option E
  | 0, _, _ => none
  | n + 1, ce, e => match e with
    | .Constant c _ _ => cCon c
    | .Name x _ => cName ce x
    | .BinOp a o b _ => match binO o, cE n ce a, cE n ce b with
      | some o, some a, some b => some (.op o a b)
      | _, _, _ => none
    | .UnaryOp .USub a _ => (cE n ce a).map .neg
    | .UnaryOp .Not a _ => (cE n ce a).map .not
    | .BoolOp o es _ => cBool (cE n ce) o es
    | .Compare a [o] [b] _ => match notSet b, cmpO o, cE n ce a, cE n ce b with
      | true, some o, some a, some b => some (.cmp o a b)
      | _, _, _, _ => none
    | .Compare a [o, o'] [b, c] _ => match notSet c, cmpO o, cmpO o', cE n ce a, cE n ce b, cE n ce c with
      | true, some o, some o', some a, some b, some c => some (.chain o o' a b c)
      | _, _, _, _, _, _ => none
    | .IfExp c a b _ => match cE n ce c, cE n ce a, cE n ce b with
      | some c, some a, some b => some (.ite c a b)
      | _, _, _ => none
    | .Tuple es _ _ => (cEs (cE n ce) es).map .tup
    | .List es _ => (cEs (cE n ce) es).map .lst
    | .Dict [] [] _ => some .dic
    | .Dict ks vs _ => if ks.length ≤ 15 ∧ ks ≠ [] then (cPs (cE n ce) ks vs).map .dct else none
    | .Subscript a (.Slice lo hi none _) _ => match cE n ce a, cOe (cE n ce) lo, cOe (cE n ce) hi with
      | some a, some l, some h => some (.sli a l h)
      | _, _, _ => none
    | .Subscript a (.Slice none none (some k) _) _ => match cE n ce a, cE n ce k with
      | some a, some k => some (.stp a k)
      | _, _ => none
    | .Subscript a b _ => match notSlice b, cE n ce a, cE n ce b with
      | true, some a, some b => some (.idx a b)
      | _, _, _ => none
    | .Call f es ks pos => match cIsx (cE n ce) ce f es ks with
      | some r => some r
      | none => match cLset (cE n ce) ce f es ks with
        | some r => some r
        | none => match cMk (cE n ce) ce f es ks with
          | some r => some r
          | none => cCall (cE n ce) ce f es ks pos
    | .Attribute o nm pos => if notCall0 o = true ∧ okBlt ce.cls nm = true then (cE n ce o).map (.att nm (okFor ce.cls nm)) else none
    | .ListComp elt gs scope _ => cLc (cE n) (cT n) ce elt gs scope
    | _ => none
end Mi
set_option Elab.async false
set_option linter.all false
set_option maxRecDepth 100000
set_option maxHeartbeats 2000000
/-! M17: the translation is right: expressions -/
namespace Mi
open PySem PySem.Spec L2
open PyProof.Rows hiding St

def Gd (X : Cx) (W : WX) (e : Expr) (s : Sm) : Prop := PE X e (tA X.K W s.v) ∧ PT X e (tB X.K W s.b) ∧ PE X e (tN X.K W s.n)
def Good (X : Cx) (W : WX) (f : Expr → Option E) : Prop := ∀ e s, f e = some s → Gd X W e s.sm
section
variable {X : Cx} {W : WX} {e : Expr} {f : Expr → Option E} {ce : Ce}
theorem n_of {g : Mo Hd} (h : PE X e (tA X.K W g)) : PE X e (tN X.K W (frzN g)) := PE.imp h fun _ _ _ q => tN_of q
theorem v_of {g : Mo Fr} (h : PE X e (tN X.K W g)) : PE X e (tA X.K W (valN g)) := PE.imp h fun _ _ _ q => tN_val q
theorem b_of {g : Mo Hd} (h : PE X e (tA X.K W g)) (pl : ∀ whole, isTrue e X.env whole = (do let v ← whole; standAt e.pos; holding [v] (truthy v))) : PT X e (tB X.K W (valB g)) :=
  PT.imp (pt_truth h pl) fun _ _ _ q => valB_ok q
theorem smV_ok {g : Mo Hd} (h : PE X e (tA X.K W g)) (pl : ∀ whole, isTrue e X.env whole = (do let v ← whole; standAt e.pos; holding [v] (truthy v))) : Gd X W e (smV g) := ⟨h, b_of h pl, n_of h⟩
theorem smN_ok {g : Mo Fr} (h : PE X e (tN X.K W g)) (pl : ∀ whole, isTrue e X.env whole = (do let v ← whole; standAt e.pos; holding [v] (truthy v))) : Gd X W e (smN g) := ⟨v_of h, b_of (v_of h) pl, h⟩
theorem con_okK {d : D} {x : V} (hx : ∀ R H, R.K = X.K → DR R H d x) (h : PE X e (tC x)) : PE X e (tA X.K W (Mo.pure (.val d))) := PE.imp h fun σ H Q ⟨R, ρ, rr, hk, en, hf, q⟩ => by
  cases hf
  exact q R x H (Nx.refl en) (hx R H hk)
theorem str_eta (x : Str) : (⟨x.cps.toList.toArray⟩ : Str) = x := by simp
theorem cCon_ok {c : Const} {k : Nat} {p : Pos} {s : E} (h : cCon c = some s) : Gd X W (.Constant c k p) s.sm := by
  unfold cCon at h
  split at h
  · cases h
    exact smV_ok (con_okK (fun _ _ _ => .int _) pe_int) fun _ => rfl
  · cases h
    exact smV_ok (con_okK (fun _ _ _ => .bl _) pe_bl) fun _ => rfl
  · cases h
    exact smV_ok (con_okK (fun _ _ _ => .non) pe_non) fun _ => rfl
  · rename_i x
    cases h
    refine smV_ok (con_okK (x := .str x) (fun R H _ => ?_) pe_str) fun _ => rfl
    have := DR.str (R := R) (H := H) x.cps.toList
    rwa [str_eta] at this
  · cases h
theorem cName_ok (o : Ok X W ce) {x : Str} {p : Pos} {s : E} (h : cName ce x = some s) : Gd X W (.Name x p) s.sm := by
  unfold cName at h
  split at h
  · rename_i h1 h2
    obtain ⟨i, h3, rfl⟩ := map_some h
    obtain ⟨d1, d2⟩ := okN_ok h1
    exact smV_ok (PE.imp (pe_var (by rw [o.N]; exact ixOf_ok h3) (by rw [o.sc]; exact visC_ok h2) d1 d2) fun _ _ _ q => var_ok q) fun _ => rfl
  · rename_i h1 h2
    obtain ⟨d1, d2⟩ := okN_ok h1
    split at h
    · rename_i d h3 h4
      cases h
      obtain ⟨v, u, hm, rv, hd⟩ := o.lib.con x d h4
      exact smV_ok (con_okK hd (pe_glob (glC_ok o.sc h3) hm rv d1)) fun _ => rfl
    · cases h
  · cases h
/-! ### rows of expressions -/
theorem cEs_star : ∀ {es : List Expr} {s : Es}, cEs f es = some s → es.all notStar = true
  | [], _, _ => rfl
  | e :: es, s, h => by
    unfold cEs at h
    split at h
    · rename_i a b h1 h2 h3
      simp only [List.all_cons, Bool.and_eq_true]
      exact ⟨h1, cEs_star h3⟩
    · cases h
theorem cEs_ok (g : Good X W f) : ∀ {es : List Expr} {s : Es}, cEs f es = some s → PA X es (tAs X.K W s.vs) ∧ PA X es (tNs X.K W s.ns)
  | [], s, h => by
    cases h
    exact ⟨PA.imp pa_nil fun _ _ _ q => tAs_nil q, PA.imp pa_nil fun _ _ _ q => tNs_nil q⟩
  | e :: es, s, h => by
    unfold cEs at h
    split at h
    · rename_i a b h1 h2 h3
      cases h
      obtain ⟨g1, g2, g3⟩ := g e a h2
      obtain ⟨i1, i2⟩ := cEs_ok g h3
      exact ⟨PA.imp (pa_cons g1 i1 (star_co h1)) fun _ _ _ q => tAs_cons q, PA.imp (pa_cons g3 i2 (star_co h1)) fun _ _ _ q => tNs_cons q⟩
    · cases h
theorem cEs_len : ∀ {es : List Expr} {s : Es} {ρ ρ' : En} {hs : List Hd}, cEs f es = some s → s.vs ρ = some (.ok hs ρ') → hs.length = es.length
  | [], s, ρ, ρ', hs, h, e => by
    cases h
    cases e
    rfl
  | e :: es, s, ρ, ρ', hs, h, q => by
    unfold cEs at h
    split at h
    · rename_i a b h1 h2 h3
      cases h
      rcases bind_ok (show Mo.bind a.sm.v _ ρ = _ from q) with ⟨x, ρ1, h4, h5⟩ | ⟨x, ρ1, h4, h5⟩
      · rcases bind_ok h5 with ⟨xs, ρ2, h6, h7⟩ | ⟨x, ρ2, h6, h7⟩
        · cases h7
          simp [cEs_len h3 h6]
        · cases h7
      · cases h5
    · cases h
theorem cKs_ok (g : Good X W f) : ∀ {ks : List Keyword} {s : Es}, cKs f ks = some s → PK X ks (tAs X.K W s.vs) ∧ (ks.all fun k => k.arg.isSome) = true
  | [], s, h => by
    cases h
    exact ⟨⟨fun pos pins s σ H Q I q => pk_nil.run pos pins s σ H Q I (tAs_nil q)⟩, rfl⟩
  | ⟨nm, v, kp⟩ :: ks, s, h => by
    unfold cKs at h
    split at h
    · rename_i a b h1 h2 h3
      cases h
      obtain ⟨g1, g2, g3⟩ := g v a h2
      obtain ⟨i1, i2⟩ := cKs_ok g h3
      have hp := pk_cons (nm := nm) (kpos := kp) g1 i1
      refine ⟨⟨fun pos pins s σ H Q I q => hp.run pos pins s σ H Q I (tAs_cons q)⟩, ?_⟩
      simp only [List.all_cons, Bool.and_eq_true]
      exact ⟨h1, i2⟩
    · cases h
theorem cBool_ok (g : Good X W f) {op : BoolOp} {p : Pos} : ∀ {es : List Expr} {s : E}, cBool f op es = some s → PE X (.BoolOp op es p) (tA X.K W s.sm.v) ∧ PW X (.BoolOp op es p) (tB X.K W s.sm.b) ∧ PE X (.BoolOp op es p) (tN X.K W s.sm.n)
  | [], _, h => by cases h
  | [a], s, h => by
    obtain ⟨g1, g2, g3⟩ := g a s h
    refine ⟨pe_one g1, ?_, pe_one g3⟩
    cases op
    · exact pw_and1 g2
    · exact pw_or1 g2
  | a :: b :: r, s, h => by
    unfold cBool at h
    split at h
    · rename_i x y h1 h2
      cases h
      obtain ⟨g1, g2, g3⟩ := g a x h1
      obtain ⟨i1, i2, _⟩ := cBool_ok (op := .And) (p := p) g h2
      have hv := PE.imp (pe_andT g1 i1) fun _ _ _ q => andM_ok q
      exact ⟨hv, ⟨fun whole pins s σ H Q I q => (pw_and g2 i2).run whole pins s σ H Q I (andB_ok q)⟩, n_of hv⟩
    · rename_i x y h1 h2
      cases h
      obtain ⟨g1, g2, g3⟩ := g a x h1
      obtain ⟨i1, i2, _⟩ := cBool_ok (op := .Or) (p := p) g h2
      have hv := PE.imp (pe_orT g1 i1) fun _ _ _ q => orM_ok q
      exact ⟨hv, ⟨fun whole pins s σ H Q I q => (pw_or g2 i2).run whole pins s σ H Q I (orB_ok q)⟩, n_of hv⟩
    · cases h
theorem cOe_ok (g : Good X W f) {o : Option Expr} {s : Oe} (h : cOe f o = some s) : PO X o (tPr X.K W s.v) := by
  cases o with
  | none =>
    cases h
    exact po_none
  | some e =>
    obtain ⟨a, h1, rfl⟩ := map_some (show (f e).map Oe.so = some s from h)
    exact po_some (g e a h1).1
theorem cIfs_ok (g : Good X W f) {es : List Expr} {s : Oe} (h : cIfs f es = some s) : PTs X es (tB X.K W s.b) := by
  match es, h with
  | [], h =>
    cases h
    exact ⟨fun pins s σ H Q I q => pts_nil.run pins s σ H Q I (by
      obtain ⟨R, ρ, r, hk, e, hf, q⟩ := q
      cases hf
      exact q R _ H (Nx.refl e) rfl)⟩
  | [e], h =>
    obtain ⟨a, h1, rfl⟩ := map_some (show (f e).map Oe.so = some s from h)
    exact pts_one (g e a h1).2.1
/-! ### targets, what is walked -/
theorem cTs_ok {g : Expr → Option Tg} (hg : ∀ e t, g e = some t → PG X e (gT X.K t)) : ∀ {es : List Expr} {t : Tgs}, cTs g es = some t → PGs X es (gTs X.K t) ∧ (assignEach es X.env).length = t.len ∧ (assignEach es X.env).findIdx? (·.1) = none
  | [], t, h => by
    cases h
    exact ⟨pgs_no, rfl, rfl⟩
  | e :: es, t, h => by
    unfold cTs at h
    split at h
    · rename_i a b h1 h2 h3
      cases h
      obtain ⟨i1, i2, i3⟩ := cTs_ok hg h3
      refine ⟨pgs_co (hg e a h2) i1 (by rw [asg_co h1]; rfl), by rw [asg_co h1]; simp [Tgs.len, i2], ?_⟩
      rw [asg_co h1, List.findIdx?_cons, i3]
      rfl
    · cases h
theorem cT_ok (o : Ok X W ce) : ∀ {n : Nat} {e : Expr} {t : Tg}, cT n ce e = some t → PG X e (gT X.K t) := by
  intro n
  induction n with
  | zero =>
    intro e t h
    unfold cT at h
    split at h
    · rename_i x p
      split at h
      · rename_i h1
        obtain ⟨i, h2, rfl⟩ := map_some h
        obtain ⟨a1, a2⟩ := asgC_ok o h1
        exact pg_nm o.nd (by rw [o.N]; exact ixOf_ok h2) a1 a2
      · cases h
    · rename_i hx
      cases hx
    · cases h
  | succ n ih =>
    intro e t h
    unfold cT at h
    split at h
    · rename_i x p
      split at h
      · rename_i h1
        obtain ⟨i, h2, rfl⟩ := map_some h
        obtain ⟨a1, a2⟩ := asgC_ok o h1
        exact pg_nm o.nd (by rw [o.N]; exact ixOf_ok h2) a1 a2
      · cases h
    · rename_i hx
      cases hx
      obtain ⟨ts, h1, rfl⟩ := map_some h
      obtain ⟨i1, i2, i3⟩ := cTs_ok (fun e t he => ih he) h1
      exact pg_tp o.calm i1 i2 i3
    · cases h
theorem isTup_ok {tg : Expr} (h : isTupE tg = true) : ∃ es k p, tg = .Tuple es k p := by
  match tg, h with
  | .Tuple es k p, _ => exact ⟨es, k, p, rfl⟩
theorem cEs_one {a : Expr} {s : Es} (h : cEs f [a] = some s) : notStar a = true := by
  have := cEs_star h
  simpa using this
theorem cI_ok (o : Ok X W ce) (g : Good X W f) {tg it : Expr} {s : Ie} (h : cI f ce tg it = some s) : PI X tg it (iD X.K W s.ds) := by
  unfold cI at h
  split at h
  · rename_i x p a pos
    split at h
    · rename_i hx
      obtain ⟨h1, rfl⟩ := hx
      obtain ⟨es, h2, rfl⟩ := map_some h
      exact pi_rngD1 (glC_ok o.sc h1) (o.lib.no _ (by decide)) (cEs_ok g h2).1 (star_co (cEs_one h2))
    · split at h
      · rename_i hx
        obtain ⟨h1, rfl, h3⟩ := hx
        obtain ⟨es, h2, rfl⟩ := map_some h
        obtain ⟨ts, k, p', rfl⟩ := isTup_ok h3
        exact pi_enumD (glC_ok o.sc h1) (o.lib.no _ (by decide)) (cEs_ok g h2).1 (star_co (cEs_one h2))
      · obtain ⟨s', h2, rfl⟩ := map_some h
        exact pi_seq (g _ _ h2).1
  · rename_i x p a b pos
    have st : ∀ {s : Es}, cEs f [a, b] = some s → notStar a = true ∧ notStar b = true := fun {s} h => by
      have := cEs_star h
      simpa using this
    split at h
    · rename_i hx
      obtain ⟨h1, rfl⟩ := hx
      obtain ⟨es, h2, rfl⟩ := map_some h
      obtain ⟨s1, s2⟩ := st h2
      exact pi_rngD2 (glC_ok o.sc h1) (o.lib.no _ (by decide)) (cEs_ok g h2).1 (by rw [star_co s1, star_co s2]; rfl) (star_co s2)
    · split at h
      · rename_i hx
        obtain ⟨h1, rfl, h3⟩ := hx
        obtain ⟨es, h2, rfl⟩ := map_some h
        obtain ⟨s1, s2⟩ := st h2
        obtain ⟨ts, k, p', rfl⟩ := isTup_ok h3
        exact pi_zipD (glC_ok o.sc h1) (o.lib.no _ (by decide)) (cEs_ok g h2).1 (star_co s1) (back_any (by simpa using s2))
      · obtain ⟨s', h2, rfl⟩ := map_some h
        exact pi_seq (g _ _ h2).1
  · split at h
    · obtain ⟨s', h2, rfl⟩ := map_some h
      exact pi_seq (g _ _ h2).1
    · cases h
end
end Mi
set_option Elab.async false
set_option linter.all false
set_option maxRecDepth 100000
set_option maxHeartbeats 2000000
/-! M18: calls; every expression -/
namespace Mi
open PySem PySem.Spec L2
open PyProof.Rows hiding St

theorem appM_nil (g : Mo (List Hd)) : appM (Mo.pure []) g = g := by
  funext ρ
  unfold appM Mo.bind Mo.pure
  cases hb : g ρ with
  | none => simp [hb]
  | some r => cases r <;> simp [hb]
def Bi.nm : Bi → Str
  | .len => "len" | .abs => "abs" | .int => "int" | .sum => "sum" | .all => "all" | .any => "any" | .max => "max" | .min => "min" | .str => "str" | .repr => "repr" | .list => "list" | .tuple => "tuple" | .sorted => "sorted"
theorem ite_step {x a : Str} {b c : Bi} {o : Option Bi} (h : (if x = a then some b else o) = some c) : (x = a ∧ b = c) ∨ o = some c := by
  by_cases e : x = a
  · rw [if_pos e] at h
    exact .inl ⟨e, Option.some.inj h⟩
  · rw [if_neg e] at h
    exact .inr h
theorem biO_ok {x : Str} {b : Bi} (h : biO x = some b) : x = b.nm := by
  unfold biO at h
  iterate 13 (
    rcases ite_step h with ⟨h1, h2⟩ | h
    · subst h2
      exact h1)
  cases h
theorem tyO_ok {x : Str} {t : Ty} (h : tyO x = some t) : x ∈ bnames ∧ bootBuiltins x = some (.type t.nm) ∧ x ≠ "__name__" := by
  unfold tyO at h
  repeat' split at h
  all_goals first | (cases h; rename_i e; subst e; exact ⟨by decide +kernel, by decide +kernel, by decide +kernel⟩) | cases h
section
variable {X : Cx} {W : WX} {f : Expr → Option E} {ce : Ce}
theorem sm_bi (b : Bi) (es : Es) (h : b ≠ .list) (h2 : b ≠ .sorted) : (E.bi b es).sm = smV (biM b.fn es.vs) := by
  cases b <;> first | rfl | exact absurd rfl h | exact absurd rfl h2
theorem bi_ok (o : Ok X W ce) {b : Bi} {p pos : Pos} {e : Expr} {es : List Expr} {s : Es} (gl : Gl X b.nm) (ha : PA X (e :: es) (tAs X.K W s.vs)) (st : (e :: es).all notStar = true) :
    Gd X W (.Call (.Name b.nm p) (e :: es) [] pos) (E.bi b s).sm := by
  have hst : notStar e = true ∧ es.all notStar = true := by simpa using st
  have he := star_co (es := es) (env := X.env) hst.1
  have hpl : (backTo pos (starEach es X.env)).any (·.1) = false := back_any hst.2
  have v : ∀ {r : List V → Hp → VK → Prop} {fn : List D → Option D}, PE X (.Call (.Name b.nm p) (e :: es) [] pos) (tCB r (tAs X.K W s.vs)) → CallS X.K r fn → Gd X W (.Call (.Name b.nm p) (e :: es) [] pos) (smV (biM fn s.vs)) := fun {r fn} h1 h2 =>
    smV_ok (PE.imp h1 fun _ _ _ q => call_ok h2 q) fun _ => rfl
  have hu := o.room.units
  cases b
  · exact v (pe_callB cr_lenD2 gl (o.lib.no _ (by decide +kernel)) (by decide +kernel) ha (by decide +kernel) (by decide +kernel) he hpl) lenB2_ok
  · exact v (pe_callB call_abs gl (o.lib.no _ (by decide +kernel)) (by decide +kernel) ha (by decide +kernel) (by decide +kernel) he hpl) absB_ok
  · exact v (pe_callTy call_int1 gl (o.lib.no _ (by decide +kernel)) (by decide +kernel) ha (by decide +kernel) (by decide +kernel) he hpl) intB_ok
  · exact v (pe_callB (cr_sum o.calm) gl (o.lib.no _ (by decide +kernel)) (by decide +kernel) ha (by decide +kernel) (by decide +kernel) he hpl) sumB_ok
  · exact v (pe_callB (cr_all o.calm) gl (o.lib.no _ (by decide +kernel)) (by decide +kernel) ha (by decide +kernel) (by decide +kernel) he hpl) allB_ok
  · exact v (pe_callB (cr_any o.calm) gl (o.lib.no _ (by decide +kernel)) (by decide +kernel) ha (by decide +kernel) (by decide +kernel) he hpl) anyB_ok
  · exact v (pe_callB (call_max2 o.calm) gl (o.lib.no _ (by decide +kernel)) (by decide +kernel) ha (by decide +kernel) (by decide +kernel) he hpl) maxB_ok
  · exact v (pe_callB (call_min2 o.calm) gl (o.lib.no _ (by decide +kernel)) (by decide +kernel) ha (by decide +kernel) (by decide +kernel) he hpl) minB_ok
  · exact v (pe_callTy cr_strD gl (o.lib.no _ (by decide +kernel)) (by decide +kernel) ha (by decide +kernel) (by decide +kernel) he hpl) strB_ok
  · exact v (pe_callB (cr_repr2 o.hg hu) gl (o.lib.no _ (by decide +kernel)) (by decide +kernel) ha (by decide +kernel) (by decide +kernel) he hpl) reprB2_ok
  · exact smN_ok (PE.imp (pe_callTy (cr_listA o.calm) gl (o.lib.no _ (by decide +kernel)) (by decide +kernel) ha (by decide +kernel) (by decide +kernel) he hpl) fun _ _ _ q => callN_ok listB2_ok q) fun _ => rfl
  · exact v (pe_callTy call_tuple_of gl (o.lib.no _ (by decide +kernel)) (by decide +kernel) ha (by decide +kernel) (by decide +kernel) he hpl) tupleB_ok
  · exact smN_ok (PE.imp (pe_callB Bb.cr_sortedSA gl (o.lib.no _ (by decide +kernel)) (by decide +kernel) ha (by decide +kernel) (by decide +kernel) he hpl) fun _ _ _ q => callN_ok sortedB_ok q) fun _ => rfl
theorem cLset_ok (o : Ok X W ce) (g : Good X W f) {fn : Expr} {es : List Expr} {ks : List Keyword} {pos : Pos} {s : E} (h : cLset f ce fn es ks = some s) : Gd X W (.Call fn es ks pos) s.sm := by
  unfold cLset at h
  split at h
  · rename_i x p y py e pe
    split at h
    · rename_i hc
      obtain ⟨c1, c2, c3, c4, c5⟩ := hc
      subst c1; subst c2
      obtain ⟨a, h1, rfl⟩ := map_some h
      exact smV_ok (PE.imp (Bb.pe_lenSetS o.calm (glC_ok o.sc c3) (o.lib.no _ (by decide +kernel)) (glC_ok o.sc c4) (o.lib.no _ (by decide +kernel)) (g e a h1).1 (star_co c5)) fun _ _ _ q => lenSet_ok q) fun _ => rfl
    · cases h
  · cases h
theorem isi_okE (o : Ok X W ce) {p pt pos : Pos} {e : Expr} {x t : Str} {ty : Ty} {g : Mo Hd} (hx : x = "isinstance") (gl : Gl X x) (gt : Gl X t) (ht : tyO t = some ty) (dt : (t == ("__debug__" : Str)) = false) (he : PE X e (tA X.K W g)) (st : notStar e = true) :
    Gd X W (.Call (.Name x p) [e, .Name t pt] [] pos) (smV (isiM ty g)) := by
  subst hx
  obtain ⟨h1, h2, h3⟩ := tyO_ok ht
  refine smV_ok (PE.imp (pe_callB call_isi gl (o.lib.no _ (by decide +kernel)) (by decide +kernel) (pa_cons he (pa_cons (pe_bltn gt (o.lib.no _ h1) h2 (v := .ty ty.nm) rfl h3 dt) pa_nil rfl) (star_co st)) (by decide +kernel) (by decide +kernel) (star_co st) (back_any (by simp [notStar]))) fun _ _ _ q => isiM_ok q) fun _ => rfl
theorem okBlt_ok {cls : List ClI} {n : Str} (h : okBlt cls n = true) : ∀ ci ∈ cls, n ∈ ci.fs → ci.b = none := fun ci hi hn => by
  have := List.all_eq_true.mp h ci hi
  simp only [Bool.or_eq_true, Bool.not_eq_true'] at this
  rcases this with h | h
  · rw [List.contains_iff_mem.mpr hn] at h
    cases h
  · simpa using h
theorem pe_cls (hc : ClsOk X.prog X.K X.mg ce.cls) {c : ClI} (h : c ∈ ce.cls) {p : Pos} (gl : Gl X c.nm) (dt : (c.nm == ("__debug__" : Str)) = false) : PE X (.Name c.nm p) (tC (c.vv X.K)) := by
  cases hb : c.b with
  | none =>
    have e : c.vv X.K = .ref (He.ga X.K c.nm) := by
      unfold ClI.vv
      rw [hb]
    rw [e]
    exact pe_glob gl (hc.gl c h hb) (v := .ref (He.ga X.K c.nm)) rfl dt
  | some n =>
    have e : c.vv X.K = .ty n := by
      unfold ClI.vv
      rw [hb]
    obtain ⟨g1, g2, g3⟩ := hc.glb c h n hb
    rw [e]
    exact pe_bltn gl g1 g2 (v := .ty n) rfl g3 dt
theorem isx_okE (o : Ok X W ce) {p pt pos : Pos} {e : Expr} {x t : Str} {g : Mo Hd} (hx : x = "isinstance") (gl : Gl X x) (gt : Gl X t) (hc : (ce.cls.any fun c => c.nm == t) = true) (dt : (t == ("__debug__" : Str)) = false) (he : PE X e (tA X.K W g)) (st : notStar e = true) :
    Gd X W (.Call (.Name x p) [e, .Name t pt] [] pos) (smV (isxM (tabOf ce.cls [t]) g)) := by
  subst hx
  obtain ⟨ci, h1, h2⟩ := List.any_eq_true.mp hc
  have h2 : ci.nm = t := by simpa using h2
  subst h2
  refine smV_ok (PE.imp (pe_callB Xb.call_isx gl (o.lib.no _ (by decide +kernel)) (by decide +kernel) (pa_cons he (pa_cons (pe_cls o.cls h1 gt dt) pa_nil rfl) (star_co st)) (by decide +kernel) (by decide +kernel) (star_co st) (back_any (by simp [notStar]))) fun _ _ _ q => isxM_ok1 o.cls h1 q) fun _ => rfl
theorem cNm_ok (o : Ok X W ce) {e : Expr} {c : ClI} (h : cNm ce e = some c) : ∃ p, e = .Name c.nm p ∧ c ∈ ce.cls ∧ Gl X c.nm ∧ (c.nm == ("__debug__" : Str)) = false := by
  unfold cNm at h
  split at h
  · rename_i t p
    split at h
    · rename_i hh
      obtain ⟨h1, rfl⟩ := findC_ok h
      exact ⟨p, rfl, h1, glC_ok o.sc hh.1, hh.2⟩
    · cases h
  · cases h
def tCs : List V → TA
  | [] => tNil
  | v :: vs => tCons (tC v) (tCs vs)
theorem tCs_ok : ∀ {vs : List V} {σ : St} {H : Hp} {Q : List V → Hp → Prop}, Q vs H → tCs vs σ H Q
  | [], _, _, _, h => h
  | v :: vs, σ, H, Q, h => tCs_ok (vs := vs) (Q := fun xs H1 => Q (v :: xs) H1) h
theorem cNms_ok (o : Ok X W ce) : ∀ {es : List Expr} {cs : List ClI}, cNms ce es = some cs → PA X es (tCs (cs.map fun t => t.vv X.K)) ∧ (∀ c ∈ cs, c ∈ ce.cls) ∧ es.all notStar = true ∧ cs.length = es.length
  | [], _, h => by
    cases h
    exact ⟨pa_nil, fun _ h => (nomatch h), rfl, rfl⟩
  | e :: es, cs, h => by
    unfold cNms at h
    split at h
    · rename_i c cs h1 h2
      cases h
      obtain ⟨p, rfl, g1, g2, g3⟩ := cNm_ok o h1
      obtain ⟨i1, i2, i3, i4⟩ := cNms_ok o h2
      refine ⟨pa_cons (pe_cls o.cls g1 g2 g3) i1 rfl, fun c hc => ?_, by simp [notStar, i3], by simp [i4]⟩
      rcases List.mem_cons.mp hc with rfl | hc
      · exact g1
      · exact i2 c hc
    · cases h
theorem isx_okT (o : Ok X W ce) {p pt pos : Pos} {k : Nat} {e : Expr} {ts : List Expr} {x : Str} {g : Mo Hd} {cs : List ClI} (hx : x = "isinstance") (gl : Gl X x) (hc : cNms ce ts = some cs) (hl : cs.length ≤ 1000) (he : PE X e (tA X.K W g)) (st : notStar e = true) :
    Gd X W (.Call (.Name x p) [e, .Tuple ts k pt] [] pos) (smV (isxM (tabOf ce.cls (cs.map (·.nm))) g)) := by
  subst hx
  obtain ⟨i1, i2, i3, i4⟩ := cNms_ok o hc
  have hl2 : cs.length ≤ sizeLine := by
    rw [sizeLine_eq]
    omega
  refine smV_ok (PE.imp (pe_callB Xb.call_isxT gl (o.lib.no _ (by decide +kernel)) (by decide +kernel) (pa_cons he (pa_cons (pe_tup i1) pa_nil rfl) (star_co st)) (by decide +kernel) (by decide +kernel) (star_co st) (back_any (by simp [notStar]))) fun _ _ _ q =>
    isxM_okT o.cls i2 hl2 (fun σ H Q h => tCs_ok ⟨by rw [List.length_map]; exact hl2, h⟩) q) fun _ => rfl
theorem cIsx_ok (o : Ok X W ce) (g : Good X W f) {fn : Expr} {es : List Expr} {ks : List Keyword} {pos : Pos} {s : E} (h : cIsx f ce fn es ks = some s) : Gd X W (.Call fn es ks pos) s.sm := by
  unfold cIsx at h
  split at h
  · rename_i x p e t pt
    split at h
    · rename_i hc
      obtain ⟨c1, c2, c3, c4, c5, c6⟩ := hc
      obtain ⟨a, h1, rfl⟩ := map_some h
      exact isx_okE o c1 (glC_ok o.sc c2) (glC_ok o.sc c3) c6 c4 (g e a h1).1 c5
    · cases h
  · rename_i x p e ts k pt
    split at h
    · rename_i hc
      obtain ⟨c1, c2, c3⟩ := hc
      split at h
      · rename_i cs hcs
        split at h
        · rename_i hl
          obtain ⟨a, h1, rfl⟩ := map_some h
          exact isx_okT o c1 (glC_ok o.sc c2) hcs hl (g e a h1).1 c3
        · cases h
      · cases h
    · cases h
  · cases h
theorem att_okE (o : Ok X W ce) (g : Good X W f) {e : Expr} {n : Str} {pos : Pos} {a : E} (hn : notCall0 e = true) (hb : okBlt ce.cls n = true) (h : f e = some a) : Gd X W (.Attribute e n pos) (E.att n (okFor ce.cls n) a).sm :=
  smV_ok (PE.imp (Xb.pe_xw (g e a h).1 (att_base hn)) fun _ _ _ q => attM_ok o.cls (okBlt_ok hb) q) fun _ => rfl
theorem filt_all : ∀ {ks : List Keyword}, (ks.all fun k => k.arg.isSome) = true → ks.length = (ks.filterMap (·.arg)).length
  | [], _ => rfl
  | ⟨some a, v, p⟩ :: ks, h => by
    simp only [List.all_cons, Bool.and_eq_true] at h
    simp [filt_all h.2]
  | ⟨none, v, p⟩ :: ks, h => by simp at h
theorem cKs_len {f : Expr → Option E} : ∀ {ks : List Keyword} {b : Es} {ρ ρ' : En} {hs : List Hd}, cKs f ks = some b → b.vs ρ = some (.ok hs ρ') → hs.length = ks.length
  | [], b, ρ, ρ', hs, h, q => by
    cases h
    cases q
    rfl
  | k :: ks, b, ρ, ρ', hs, h, q => by
    unfold cKs at h
    split at h
    · rename_i a bs h1 h2 h3
      cases h
      rcases bind_ok q with ⟨x, ρ1, g1, g2⟩ | ⟨x, ρ1, g1, g2⟩
      · rcases bind_ok g2 with ⟨y, ρ2, g3, g4⟩ | ⟨y, ρ2, g3, g4⟩
        · cases g4
          simp [cKs_len h3 g3]
        · cases g4
      · cases g2
    · cases h
theorem permL_zero {α : Type} {pm : List Nat} {xs : List α} : permL 0 pm xs = pickL 0 xs pm := by simp [permL]
theorem cMk_ok (o : Ok X W ce) (g : Good X W f) {fn : Expr} {es : List Expr} {ks : List Keyword} {pos : Pos} {s : E} (h : cMk f ce fn es ks = some s) : Gd X W (.Call fn es ks pos) s.sm := by
  unfold cMk at h
  split at h
  · rename_i x p
    split at h
    · rename_i c h1 h2
      split at h
      · rename_i hc
        simp only [Bool.and_eq_true, decide_eq_true_eq] at h1
        obtain ⟨⟨n1, n2⟩, n3⟩ := h1
        obtain ⟨d1, d2⟩ := okN_ok n1
        obtain ⟨m1, e1⟩ := findC_ok h2
        subst e1
        have gl := glC_ok o.sc n2
        have F := o.cls.make c m1 hc.1 hc.2
        have hr := o.room.mono n3
        have hm := o.cls.gl c m1 hc.1
        split at h
        · obtain ⟨a, h3, rfl⟩ := map_some h
          refine smV_ok (PE.imp (t := fun σ H Q => Xb.tMkB (He.ga X.K c.nm) c.fs (tAs X.K W a.vs) σ H fun cl d H' => ∀ a, H' a = none → Q (.ref a) (upd H' a (Xb.exwv a cl d))) ?_ fun _ _ _ q => mkM_ok q) fun _ => rfl
          cases es with
          | nil =>
            cases h3
            exact Xb.pe_mk fun pins s σ H Q I q => Xb.pmk_B0 F hr gl hm d1 pins s σ H Q I (tAs_nil q)
          | cons e es =>
            have st := cEs_star h3
            have hst : notStar e = true ∧ es.all notStar = true := by simpa using st
            exact Xb.pe_mk (Xb.pmk_B F hr gl hm (cEs_ok g h3).1 d1 (star_co hst.1) (back_any hst.2))
        · rename_i k ks
          split at h
          · split at h
            · rename_i b pm hb hpm
              cases h
              obtain ⟨k1, k2⟩ := cKs_ok g hb
              obtain ⟨a1, a2, a3⟩ := kw_all (env := X.env) (pos := pos) k2
              refine smV_ok (PE.imp (Xb.pe_mk (Xb.pmk_K F hr gl hm k1 a1 a2 a3 (pmOf_ok hpm) d1)) fun σ H Q q => ?_) fun _ => rfl
              have q1 := mkM_ok q
              have q2 := tAs_len (n := ((k :: ks).filterMap (·.arg)).length) (fun ρ hs ρ' q => by rw [← filt_all k2]; exact cKs_len hb q) (permM_ok q1)
              simp only [permL_zero] at q2
              exact q2
            · cases h
          · cases h
      · cases h
    · cases h
  · cases h
theorem cCall_ok (o : Ok X W ce) (g : Good X W f) {fn : Expr} {es : List Expr} {ks : List Keyword} {pos : Pos} {s : E} (h : cCall f ce fn es ks pos = some s) : Gd X W (.Call fn es ks pos) s.sm := by
  unfold cCall at h
  split at h
  · rename_i x p
    split at h
    · rename_i hx
      obtain ⟨h1, h2⟩ := hx
      obtain ⟨d1, d2⟩ := okN_ok h1
      have gl := glC_ok o.sc h2
      split at h
      · rename_i k ps F kos hl
        split at h
        · rename_i a b ha hb
          split at h
          · rename_i hc
            obtain ⟨c1, c4⟩ := hc
            obtain ⟨fa, fd, m1, m2, m3, m4, m5⟩ := o.lib.fn x k ps F kos hl
            obtain ⟨k1, k2⟩ := cKs_ok g hb
            obtain ⟨p1, _⟩ := cEs_ok g ha
            have hr := o.room.mono c1
            split at h
            · rename_i hc
              obtain ⟨c2, c3⟩ := hc
              cases h
              refine smN_ok ?_ fun _ => rfl
              cases es with
              | nil =>
                cases ha
                refine PE.imp (pe_callK0 m4 hr o.hg o.tk gl m1 m2 m3 k1 k2 (by simpa using c3) d1) fun σ H Q q => ?_
                obtain ⟨R, ρ, rr, hk, e, hf, q⟩ := q
                refine ⟨R, ρ, rr, hk, e, ?_, q⟩
                have e2 : appM (Es.vs .nil) b.vs = b.vs := appM_nil b.vs
                rw [← e2]
                exact hf
              | cons e es =>
                have st := cEs_star ha
                have hst : notStar e = true ∧ es.all notStar = true := by simpa using st
                exact pe_callKs m4 hr o.hg o.tk gl m1 m2 m3 p1 k1 k2 c2 c3 d1 (star_co hst.1) (back_any st) fun ρ hs ρ' q => cEs_len ha q
            · split at h
              · rename_i pm hpm
                split at h
                · rename_i hl2
                  cases h
                  have hb2 := m5 _ (pmOf_ok hpm)
                  refine smN_ok ?_ fun _ => rfl
                  have hkl : ∀ ρ hs ρ', b.vs ρ = some (.ok hs ρ') → hs.length = (ks.filterMap (·.arg)).length := fun ρ hs ρ' q => by
                    rw [cKs_len hb q]
                    exact filt_all k2
                  cases es with
                  | nil =>
                    cases ha
                    refine PE.imp (pe_callP0 m4 hr o.hg o.tk gl m1 m2 hb2 k1 k2 rfl hkl (by simpa using hl2) d1) fun σ H Q q => ?_
                    obtain ⟨R, ρ, rr, hk, e, hf, q⟩ := q
                    refine ⟨R, ρ, rr, hk, e, ?_, q⟩
                    have e2 : appM (Es.vs .nil) b.vs = b.vs := appM_nil b.vs
                    rw [← e2]
                    exact hf
                  | cons e es =>
                    have st := cEs_star ha
                    have hst : notStar e = true ∧ es.all notStar = true := by simpa using st
                    exact pe_callPs m4 hr o.hg o.tk gl m1 m2 hb2 p1 k1 k2 rfl hkl hl2 d1 (star_co hst.1) (back_any st) fun ρ hs ρ' q => cEs_len ha q
                · cases h
              · cases h
          · cases h
        · cases h
      · cases h
      · split at h
        · rename_i e t pt
          split at h
          · rename_i hi
            split at h
            · rename_i hc
              obtain ⟨c1, c2, c3⟩ := hc
              split at h
              · rename_i ty a ht ha
                cases h
                exact isi_okE o hi gl (glC_ok o.sc c1) ht (okN_ok c2).1 (g e a ha).1 c3
              · cases h
            · cases h
          · split at h
            · rename_i b a hb ha
              cases h
              have e := biO_ok hb
              subst e
              exact bi_ok o gl (cEs_ok g ha).1 (cEs_star ha)
            · cases h
        · split at h
          · rename_i b a hb ha
            cases h
            have e := biO_ok hb
            subst e
            exact bi_ok o gl (cEs_ok g ha).1 (cEs_star ha)
          · cases h
        · cases h
    · cases h
  · rename_i ob name apos
    split at h
    · rename_i hc
      obtain ⟨c1, c2, c3⟩ := hc
      subst c2
      split at h
      · split at h
        · rename_i hn
          subst hn
          obtain ⟨a, ha, rfl⟩ := map_some h
          exact smV_ok (PE.imp (pe_m0 F.slot_str_upper F.type_str_upper mt_upper (g _ _ ha).1 (att_base c3) c1) fun _ _ _ q => met0_ok upD_ok q) fun _ => rfl
        · cases h
      · rename_i e
        split at h
        · rename_i st
          split at h
          · rename_i hn
            subst hn
            split at h
            · rename_i a b ha hb
              cases h
              exact smV_ok (PE.imp (pe_m1 F.slot_str_join F.type_str_join mt_join (g _ _ ha).1 (g _ _ hb).1 (star_co st) (att_base c3) c1) fun _ _ _ q => met1_ok joinD_ok q) fun _ => rfl
            · cases h
          · split at h
            · rename_i hn
              subst hn
              split at h
              · rename_i x p
                split at h
                · rename_i i a n1 n2 n3 ha
                  cases h
                  obtain ⟨d1, d2⟩ := okN_ok n1
                  have pv : PE X (.Name x p) (tVar i) := pe_var (by rw [o.N]; exact ixOf_ok n3) (by rw [o.sc]; exact visC_ok n2) d1 d2
                  refine smV_ok (PE.imp (pe_bm F.plainAttrs_list F.slot_list_append F.type_list_append mt_append pv (pa_cons (g _ _ ha).1 pa_nil (star_co st)) rfl ?_ c1 (star_co st) rfl) fun _ _ _ q => apM_ok q) fun _ => rfl
                  rw [star_co st]
                  rfl
                · cases h
              · cases h
            · split at h
              · rename_i hn
                subst hn
                split at h
                · rename_i a b ha hb
                  cases h
                  have hu := o.room.units
                  refine smV_ok (PE.imp (pe_dget1 (by omega) (g _ _ ha).1 (g _ _ hb).1 ⟨att_base c3, ?_, c1, ?_⟩) fun _ _ _ q => getM_ok q) fun _ => rfl
                  · rw [star_co st]
                    rfl
                  · rw [star_co st]
                    rfl
                · cases h
              · cases h
        · cases h
      · cases h
    · cases h
  · cases h
end
end Mi
set_option Elab.async false
set_option linter.all false
set_option maxRecDepth 100000
set_option maxHeartbeats 2000000
/-! M19: every expression -/
namespace Mi
open PySem PySem.Spec L2
open PyProof.Rows hiding St

section
variable {X : Cx} {W : WX} {ce : Ce}
theorem pt_ite {c a b : Expr} {tc ta tb : TT} {pos : Pos} (hc : PT X c tc) (ha : PT X a ta) (hb : PT X b tb) : PT X (.IfExp c a b pos) (fun σ H Q => tc σ H fun k H1 => if k = true then ta σ H1 Q else tb σ H1 Q) := by
  refine ⟨fun pins s σ H Q I h => ?_⟩
  show wpAny _ _ (do if ← isTrue c X.env (eval c X.env) then isTrue a X.env (eval a X.env) else isTrue b X.env (eval b X.env)) _ _ s
  refine wpAny_bind (thn (hc.run pins s σ H _ I h) fun k s1 ⟨H1, I1, q1⟩ => ?_)
  cases k with
  | true => exact ha.run pins s1 σ H1 Q I1 q1
  | false => exact hb.run pins s1 σ H1 Q I1 q1
theorem iteB_ok {K : PySem.W.Frag} {c a b : Mo Bool} {σ : St} {H : Hp} {Q : Bool → Hp → Prop} (h : tB K W (iteB c a b) σ H Q) : tB K W c σ H fun k H1 => if k = true then tB K W a σ H1 Q else tB K W b σ H1 Q := by
  refine bindB h fun R1 ρ1 k H1 r hk en h2 q => ?_
  cases k with
  | true => exact ⟨R1, ρ1, r, hk, en, h2, q⟩
  | false => exact ⟨R1, ρ1, r, hk, en, h2, q⟩
theorem blk_ok (o : Ok X W ce) {scope : Scope} {own : List (Str × Nat)} (hb : blkC ce.N ce.sc scope own = true) (s : Shared) (H : Hp) (C : Addr) (cl : List (Str × Addr)) (fp : List Addr) :
    Ok (X.blk s H scope (compEnvC scope cl C X.env) fp) W0 (ce.blk scope) where
  N := o.N
  nd := o.nd
  sc := by
    show relS scope X.env.scope = relS scope ce.sc
    rw [o.sc]
  kd := (blkOk_by hb).kind
  calm := o.calm
  room := o.room
  hg := o.hg
  tk := fun u s' ⟨a, B, sI, pins, σ, H, cls, d, _, _, _, _, _, _, _, _, w⟩ => w
  po := PassesOwn.never
  fnc := fun x h => h
  lib := o.lib
  cls := o.cls
/-- the parts of a comprehension's translation -/
theorem lc_parts {f : Ce → Expr → Option E} {ft : Ce → Expr → Option Tg} (hf : ∀ {X : Cx} {W : WX} {ce : Ce}, Ok X W ce → Good X W (f ce)) (hft : ∀ {X : Cx} {W : WX} {ce : Ce}, Ok X W ce → ∀ e t, ft ce e = some t → PG X e (gT X.K t)) {elt : Expr} {gs : List Comprehension} {scope : Scope} {s : E} (o : Ok X W ce) (h : cLc f ft ce elt gs scope = some s) :
    ∃ tg iter ifs it t own c e, gs = [⟨tg, iter, ifs, 0⟩] ∧ s.sm = smN (lcM it t (own.map (·.2)) c e) ∧ (∀ i ∈ t.sl, i ∈ own.map (·.2)) ∧ PI X tg iter (iD X.K W it) ∧ BlkOk X.N X.env.scope scope own ∧
      (∀ (s : Shared) (H : Hp) (C : Addr) (cl : List (Str × Addr)) (fp : List Addr), PG (X.blk s H scope (compEnvC scope cl C X.env) fp) tg (gT X.K t)) ∧
      (∀ (s : Shared) (H : Hp) (C : Addr) (cl : List (Str × Addr)) (fp : List Addr), PTs (X.blk s H scope (compEnvC scope cl C X.env) fp) ifs (tB X.K W0 c)) ∧
      (∀ (s : Shared) (H : Hp) (C : Addr) (cl : List (Str × Addr)) (fp : List Addr), PE (X.blk s H scope (compEnvC scope cl C X.env) fp) elt (tA X.K W0 e)) ∧ ∀ x, foldedSetIterable iter X.env x = pure x := by
  unfold cLc at h
  split at h
  · rename_i tg iter ifs a
    split at h
    · rename_i ha
      subst ha
      split at h
      · rename_i it t c e h1 h2 h3 h4 h5
        split at h
        · rename_i hts
          cases h
          simp only [Bool.and_eq_true] at h1
          have hb := h1.1
          have ob := fun s H C cl fp => blk_ok o hb s H C cl fp
          refine ⟨tg, iter, ifs, it.ds, t, ownOf ce.N scope.names, c.b, e.sm.v, rfl, rfl, fun i hi => ?_, cI_ok o (hf o) h2, by rw [o.N, o.sc]; exact blkOk_by hb, fun s H C cl fp => hft (ob s H C cl fp) _ _ h3, fun s H C cl fp => cIfs_ok (hf (ob s H C cl fp)) h4,
            fun s H C cl fp => (hf (ob s H C cl fp) elt e h5).1, nofold h1.2⟩
          have := List.all_eq_true.mp hts i hi
          simpa using this
        · cases h
      · cases h
    · cases h
  · cases h
theorem cPs_ok {f : Expr → Option E} (g : Good X W f) {pos : Pos} : ∀ {ks : List (Option Expr)} {vs : List Expr} {ps : Ps}, cPs f ks vs = some ps → PPs X pos ks vs (ps.ms.map fun p => (tA X.K W p.1, tA X.K W p.2)) ∧ ks.all (·.isSome) = true ∧ ks.length = vs.length
  | [], [], ps, h => by
    cases h
    exact ⟨pps_nil, rfl, rfl⟩
  | [], _ :: _, ps, h => by cases h
  | none :: _, _, ps, h => by cases h
  | some _ :: _, [], ps, h => by cases h
  | some k :: ks, v :: vs, ps, h => by
    unfold cPs at h
    split at h
    · rename_i a b r h1 h2 h3
      cases h
      obtain ⟨i1, i2, i3⟩ := cPs_ok g h3
      exact ⟨pps_cons (g k a h1).1 (g v b h2).1 i1, by simpa using i2, by simp [i3]⟩
    · cases h
theorem op_sm (o : Bop) (a b : E) : (E.op o a b).sm = smV (opM o.op a.sm.v b.sm.v) ∨ (o = .add ∧ (E.op o a b).sm = ⟨opM addD a.sm.v b.sm.v, valB (opM addD a.sm.v b.sm.v), opN addD a.sm.v b.sm.v⟩) := by
  cases o <;> first | exact .inl rfl | exact .inr ⟨rfl, rfl⟩
theorem cE_ok : ∀ (n : Nat) {X : Cx} {W : WX} {ce : Ce}, Ok X W ce → Good X W (cE n ce) := by
  intro n
  induction n with
  | zero =>
    intro X W ce o e s h
    cases h
  | succ n ih =>
    intro X W ce o e s h
    have g := ih o
    unfold cE at h
    split at h
    · exact cCon_ok h
    · exact cName_ok o h
    · rename_i a op b p
      split at h
      · rename_i bo sa sb h1 h2 h3
        cases h
        have ga := g a sa h2
        have gb := g b sb h3
        have hv : PE X (.BinOp a op b p) (tA X.K W (opM bo.op sa.sm.v sb.sm.v)) := PE.imp (pe_op (binO_ok h1) ga.1 gb.1) fun _ _ _ q => op_ok bo.ok q
        rcases op_sm bo sa sb with e | ⟨rfl, e⟩
        · rw [e]
          exact smV_ok hv fun _ => rfl
        · rw [e]
          exact ⟨hv, b_of hv fun _ => rfl, PE.imp (pe_op (binO_ok h1) ga.1 gb.1) fun _ _ _ q => opN_ok addN_ok q⟩
      · cases h
    · rename_i a p
      obtain ⟨sa, h1, rfl⟩ := map_some h
      exact smV_ok (PE.imp (pe_un un_neg (g a sa h1).1) fun _ _ _ q => negM_ok q) fun _ => rfl
    · rename_i a p
      obtain ⟨sa, h1, rfl⟩ := map_some h
      have hv := PE.imp (pe_notT (pos := p) (g a sa h1).1) fun _ _ _ q => notM_ok q
      exact ⟨hv, PT.imp (pt_not (g a sa h1).2.1) fun _ _ _ q => notB_ok q, n_of hv⟩
    · rename_i op es p
      obtain ⟨h1, h2, h3⟩ := cBool_ok (p := p) g h
      exact ⟨h1, h2.pt, h3⟩
    · rename_i a op b p
      split at h
      · rename_i bo sa sb h1 h2 h3 h4
        cases h
        have ga := g a sa h3
        have gb := g b sb h4
        have hm := nomark2 (op := op) h1
        have ho := cmpO_ok (X := X) o.room.units h2
        have hv : PE X (.Compare a [op] [b] p) (tA X.K W (opM bo.op sa.sm.v sb.sm.v)) := PE.imp (pe_cmpR ho ga.1 gb.1 hm) fun _ _ _ q => op_ok bo.ok q
        exact ⟨hv, PT.imp (pt_cmpR ho ga.1 gb.1 hm) fun _ _ _ q => op_ok bo.ok (tstB_ok q), n_of hv⟩
      · cases h
    · rename_i a op op' b c p
      split at h
      · rename_i bo bo' sa sb sc h1 h2 h3 h4 h5 h6
        cases h
        have ga := g a sa h4
        have gb := g b sb h5
        have gc := g c sc h6
        have hm : lastMarks [op, op'] [b, c] = false := nomark2 (op := op') h1
        have ho := cmpO_ok (X := X) o.room.units h2
        have ho' := cmpO_ok (X := X) o.room.units h3
        have hv : PE X (.Compare a [op, op'] [b, c] p) (tA X.K W (chainM bo.op bo'.op sa.sm.v sb.sm.v sc.sm.v)) := PE.imp (pe_chain ho ho' ga.1 gb.1 gc.1 hm) fun _ _ _ q => chainM_ok bo.ok bo'.ok q
        exact ⟨hv, PT.imp (pt_chain ho ho' ga.1 gb.1 gc.1 hm) fun _ _ _ q => chainM_ok bo.ok bo'.ok (tstB_ok q), n_of hv⟩
      · cases h
    · rename_i c a b p
      split at h
      · rename_i sc sa sb h1 h2 h3
        cases h
        have gc := g c sc h1
        have ga := g a sa h2
        have gb := g b sb h3
        have hv : PE X (.IfExp c a b p) (tA X.K W (iteM sc.sm.b sa.sm.v sb.sm.v)) := PE.imp (pe_ifExp gc.2.1 ga.1 gb.1) fun _ _ _ q => iteM_ok q
        exact ⟨hv, PT.imp (pt_ite gc.2.1 ga.2.1 gb.2.1) fun _ _ _ q => iteB_ok q, n_of hv⟩
      · cases h
    · rename_i es k p
      obtain ⟨ss, h1, rfl⟩ := map_some h
      exact smV_ok (PE.imp (pe_tup (cEs_ok g h1).1) fun _ _ _ q => tup_ok q) fun _ => rfl
    · rename_i es p
      obtain ⟨ss, h1, rfl⟩ := map_some h
      exact smN_ok (PE.imp (pe_lst (cEs_ok g h1).1) fun _ _ _ q => lstN_ok q) fun _ => rfl
    · rename_i p
      cases h
      exact smN_ok (PE.imp pe_dnewK fun σ H Q q => dctNil_ok q) fun _ => rfl
    · rename_i ks vs p hne
      split at h
      · rename_i hc
        obtain ⟨ps, h1, rfl⟩ := map_some h
        obtain ⟨p1, p2, p3⟩ := cPs_ok g (pos := p) h1
        exact smN_ok (PE.imp (pe_disp p1 p2 p3 hc.2 hc.1) fun _ _ _ q => dctM_ok q) fun _ => rfl
      · cases h
    · rename_i a lo hi p2 p
      split at h
      · rename_i sa sl sh h1 h2 h3
        cases h
        exact smV_ok (PE.imp (pe_slice sl_D (g a sa h1).1 (cOe_ok g h2) (cOe_ok g h3)) fun _ _ _ q => sliM_ok q) fun _ => rfl
      · cases h
    · rename_i a k p2 p
      split at h
      · rename_i sa sk h1 h2
        cases h
        exact smV_ok (PE.imp (pe_stp (g a sa h1).1 (g k sk h2).1) fun _ _ _ q => op_ok stpD_ok q) fun _ => rfl
      · cases h
    · rename_i a b p hns hns2
      split at h
      · rename_i sa sb h1 h2 h3
        cases h
        exact smV_ok (PE.imp (pe_ix (ix_DD (by have := o.room.units; omega)) (g a sa h2).1 (g b sb h3).1 (plain_ix h1)) fun _ _ _ q => op_ok idxDD_ok q) fun _ => rfl
      · cases h
    · rename_i f es ks pos
      cases hx : cIsx (cE n ce) ce f es ks with
      | some r =>
        rw [hx] at h
        cases h
        exact cIsx_ok o g hx
      | none =>
        rw [hx] at h
        cases hy : cLset (cE n ce) ce f es ks with
        | some r =>
          simp only [hy] at h
          cases h
          exact cLset_ok o g hy
        | none =>
          simp only [hy] at h
          cases hz : cMk (cE n ce) ce f es ks with
          | some r =>
            simp only [hz] at h
            cases h
            exact cMk_ok o g hz
          | none =>
            simp only [hz] at h
            exact cCall_ok o g h
    · rename_i e nm pos
      split at h
      · rename_i hn
        obtain ⟨a, h1, rfl⟩ := map_some h
        exact att_okE o g hn.1 hn.2 h1
      · cases h
    · rename_i elt gs scope p
      obtain ⟨tg, iter, ifs, it, t, own, c, e, rfl, hs, p1, p2, p3, p4, p5, p6, p7⟩ := lc_parts (fun o => ih o) (fun o e t h => cT_ok o h) o h
      rw [hs]
      exact smN_ok (PE.imp (pe_lc o.calm o.nd p2 p3 p4 p5 p6 p7) fun _ _ _ q => lcM_ok p1 q) fun _ => rfl
    · cases h
end
end Mi
set_option Elab.async false
set_option linter.all false
set_option maxRecDepth 100000
set_option maxHeartbeats 2000000
/-! M20: statements; a def -/
namespace Mi
open PySem PySem.Spec L2
open PyProof.Rows hiding St

/-! ### several stores -/
def nmsOf (sc : Scope) (line : Nat) (ts : List Expr) : List Str := ts.filterMap fun
    | .Name id pos => if sc.names.lookup id == some .local && pos.line == line then some id else none
    | _ => none
def lineOf (ts : List Expr) : Nat := (ts.head?.map (·.pos.line)).getD 0
def swO (sc : Scope) (ts vs : List Expr) : Option (Option (List Str)) :=
  if (!(ts.length == 2 || ts.length == 3) || vs.length != ts.length) = true then some none
  else if (vs.any fun | .Starred .. => true | _ => false) = true then some none
  else if ((nmsOf sc (lineOf ts) ts).length != ts.length || (nmsOf sc (lineOf ts) ts).eraseDups.length != (nmsOf sc (lineOf ts) ts).length) = true then some none
  else if vs.all (foldedForSure 8) = true then some none
  else if vs.all (constantsAlone 8) = true then none
  else some (some (nmsOf sc (lineOf ts) ts))
theorem swO_ok {env : Env} {sc : Scope} {ts vs : List Expr} {k k2 : Nat} {p p2 : Pos} {r : Option (List Str)} (hk : env.scope.kind = .function) (hs : env.scope = sc) (h : swO sc ts vs = some r) : swappedStores [.Tuple ts k p] (.Tuple vs k2 p2) env = pure r := by
  subst hs
  have hb : env.blockKind = .function := by unfold Env.blockKind; rw [hk]; rfl
  unfold swO at h
  unfold swappedStores
  simp only [hb]
  have e1 : ((ScopeKind.function != ScopeKind.function) : Bool) = false := by decide
  have nm : (ts.filterMap fun
    | .Name id pos => if env.kindOf id == some .local && pos.line == (Option.map (fun x => x.pos.line) ts.head?).getD 0 then some id else none
    | _ => none) = nmsOf env.scope (lineOf ts) ts := rfl
  split at h
  · rename_i c1
    cases h
    simp only [e1, Bool.or_false, c1, if_true]
  · rename_i c1
    simp only [e1, Bool.or_false, c1]
    refine (if_neg Bool.false_ne_true).trans ?_
    split at h
    · rename_i c2
      cases h
      exact if_pos c2
    · rename_i c2
      refine (if_neg c2).trans ?_
      split at h
      · rename_i c3
        cases h
        exact if_pos c3
      · rename_i c3
        refine (if_neg c3).trans ?_
        split at h
        · rename_i c4
          cases h
          exact if_pos c4
        · rename_i c4
          refine (if_neg c4).trans ?_
          split at h
          · cases h
          · rename_i c5
            cases h
            exact if_neg c5

/-- the places of plain names -/
def ixNames (ce : Ce) : List Expr → Option (List Nat × List Str)
  | [] => some ([], [])
  | .Name x _ :: r => match asgC ce x, ixOf ce.N x, ixNames ce r with
    | true, some i, some (is, xs) => some (i :: is, x :: xs)
    | _, _, _ => none
  | _ => none
def localC (sc : Scope) (x : Str) : Bool := match sc.names.lookup x with
  | some .local => true
  | _ => false
theorem localC_ok {sc : Scope} {x : Str} (h : localC sc x = true) : sc.names.lookup x = some .local := by
  unfold localC at h
  split at h
  · assumption
  · cases h

/-! ### the translation -/
def augO : Operator → Option Aop
  | .Add => some .add
  | .Sub => some .sub
  | _ => none
def setLcC (sc : Scope) (x : Str) (py pos : Pos) (scope : Scope) : Bool := localC sc x && py.line == pos.line && !(scope.names.any fun (n, k) => n == x && (k == .local || k == .cell))
def notTup : Expr → Bool
  | .Tuple .. => false
  | _ => true
def cSs (f : Stmt → Option S) : List Stmt → Option Ss
  | [] => some .nil
  | s :: ss => match f s, cSs f ss with
    | some a, some b => some (.cons a b)
    | _, _ => none
/-- what an except suite may hold -/
def cQ : Nat → Ce → Expr → Option E
  | 0, _, _ => none
  | n + 1, ce, e => match e with
    | .Constant c _ _ => cCon c
    | .Name x _ => cName ce x
    | .Attribute o nm _ => if notCall0 o = true ∧ okBlt ce.cls nm = true then (cQ n ce o).map (.att nm (okFor ce.cls nm)) else none
    | .Tuple es _ _ => (cEs (cQ n ce) es).map .tup
    | .List es _ => (cEs (cQ n ce) es).map .lst
    | _ => none
def cQS (ce : Ce) (st : Stmt) : Option S := match st with
  | .Assign [.Name x py] e pos => match asgC ce x, ixOf ce.N x, cQ 9 ce e, notComp e with
    | true, some i, some a, true => some (.asg i a)
    | _, _, _, _ => none
  | .Return (some e) pos => (cQ 9 ce e).map .ret
  | .Return none pos => some (.ret (.con .non))
  | .Continue _ => some .cont
  | .Break _ => some .brk
  | .Pass _ => some .pass
  | _ => none
def cTe (ce : Ce) : Expr → Option (List ClI)
  | .Name t p => match cNm ce (.Name t p) with
    | some c => some [c]
    | none => none
  | .Tuple [a, b] _ _ => cNms ce [a, b]
  | .Tuple [a, b, c] _ _ => cNms ce [a, b, c]
  | .Tuple [a, b, c, d] _ _ => cNms ce [a, b, c, d]
  | _ => none
def cNo (ce : Ce) : Option Str → Option (Option Nat)
  | none => some none
  | some x => match localC ce.sc x, ixOf ce.N x with
    | true, some i => some (some i)
    | _, _ => none
def cHs (ce : Ce) : List ExceptHandler → Option Hs
  | [] => some .nil
  | .ExceptHandler (some te) nm (b :: suite) _ :: r => match cTe ce te, cNo ce nm, cSs (cQS ce) (b :: suite), cHs ce r with
    | some cs, some o, some ss, some hs => some (.cons (tabOf ce.cls (cs.map (·.nm))) o ss hs)
    | _, _, _, _ => none
  | _ => none
def cS : Nat → Ce → Stmt → Option S
  | 0, _, _ => none
  | n + 1, ce, st => match st with
    | .Assign [.Name x py] e pos => match asgC ce x, ixOf ce.N x, cE n ce e with
      | true, some i, some a => match e with
        | .ListComp elt gs scope p => if setLcC ce.sc x py p scope = true ∨ localC ce.sc x = false then some (.asg i a) else none
        | e => if notComp e = true then some (.asg i a) else none
      | _, _, _ => none
    | .Assign [.Tuple ts k p] (.Tuple es k2 p2) pos => match ixNames ce ts, swO ce.sc ts es, cEs (cE n ce) es with
      | some (is, xs), some none, some a => if decide (is.length ≤ 1000) = true then some (.par is a) else none
      | some (is, xs), some (some ys), some a => if decide (is.length ≤ 1000) = true ∧ xs = ys ∧ is.Nodup ∧ xs.all (localC ce.sc) = true then some (.par is a) else none
      | _, _, _ => none
    | .Assign [.Tuple ts k p] e pos => match notComp e && notTup e, cT n ce (.Tuple ts k p), cE n ce e with
      | true, some t, some a => some (.asgT t a)
      | _, _, _ => none
    | .Assign [.Subscript (.Name x p) k pp] e pos => match okN x && visC ce.sc x && notSlice k && notComp e, ixOf ce.N x, cE n ce k, cE n ce e with
      | true, some i, some kk, some a => some (.set i kk a)
      | _, _, _, _ => none
    | .AugAssign (.Name x p) op e pos => match asgC ce x, ixOf ce.N x, augO op, cE n ce e with
      | true, some i, some o, some a => some (.aug i o a)
      | _, _, _, _ => none
    | .Return (some (.Name x p)) pos => match okN x, visC ce.sc x, ixOf ce.N x with
      | true, true, some i => some (.retV i)
      | _, _, _ => (cE n ce (.Name x p)).map .ret
    | .Return (some e) pos => (cE n ce e).map .ret
    | .Return none pos => some (.ret (.con .non))
    | .Expr e pos => match notComp e, cE n ce e with
      | true, some a => some (.expr a)
      | _, _ => none
    | .If c a b pos => match cE n ce c, cSs (cS n ce) a, cSs (cS n ce) b with
      | some c, some a, some b => some (.ite c a b)
      | _, _, _ => none
    | .For tg it b [] pos => match notSet it, cI (cE n ce) ce tg it, cT n ce tg, cSs (cS n ce) b with
      | true, some i, some t, some b => some (.for i t b)
      | _, _, _, _ => none
    | .Break _ => some .brk
    | .Continue _ => some .cont
    | .Pass _ => some .pass
    | .Raise (some (.Call (.Name x p) es [] pos)) none pos' => match okN x && glC ce.sc x && decide (2 ≤ ce.k), findC ce.cls x, cEs (cE n ce) es with
      | true, some c, some a => if c.b = none ∧ c.own = true then some (.raise c.nm c.fs a) else none
      | _, _, _ => none
    | .Try body (h :: hs) [] [] pos => match cSs (cS n ce) body, cHs ce (h :: hs) with
      | some b, some hs => some (.tryH b hs)
      | _, _ => none
    | _ => none

/-! ### it is right -/
section
variable {X : Cx} {W : WX} {ce : Ce}
/-- the context of a def's statements -/
structure StOk (X : Cx) : Prop where
  ex : X.ex = []
  stack : X.stack = X.env :: X.outer
  frame : X.env.frame = some X.env.locals
/-- what an except suite needs -/
structure OkQ (X : Cx) (ce : Ce) : Prop where
  N : X.N = ce.N
  nd : X.N.Nodup
  sc : X.env.scope = ce.sc
  fnc : ∀ x, ce.fnc x = true → X.fn x = true
  lib : LibOk X.prog X.w X.K X.mg X.base ce.lib
  cls : ClsOk X.prog X.K X.mg ce.cls
theorem cName_okQ (o : OkQ X ce) {x : Str} {p : Pos} {s : E} (h : cName ce x = some s) : Gd X W (.Name x p) s.sm := by
  unfold cName at h
  split at h
  · rename_i h1 h2
    obtain ⟨i, h3, rfl⟩ := map_some h
    obtain ⟨d1, d2⟩ := okN_ok h1
    exact smV_ok (PE.imp (pe_var (by rw [o.N]; exact ixOf_ok h3) (by rw [o.sc]; exact visC_ok h2) d1 d2) fun _ _ _ q => var_ok q) fun _ => rfl
  · rename_i h1 h2
    obtain ⟨d1, d2⟩ := okN_ok h1
    split at h
    · rename_i d h3 h4
      cases h
      obtain ⟨v, u, hm, rv, hd⟩ := o.lib.con x d h4
      exact smV_ok (con_okK hd (pe_glob (glC_ok o.sc h3) hm rv d1)) fun _ => rfl
    · cases h
  · cases h
theorem cQ_ok (o : OkQ X ce) : ∀ n, Good X W (cQ n ce)
  | 0, e, s, h => by cases h
  | n + 1, e, s, h => by
    have g := cQ_ok o n
    unfold cQ at h
    split at h
    · exact cCon_ok h
    · exact cName_okQ o h
    · rename_i ob nm p
      split at h
      · rename_i hn
        obtain ⟨a, h1, rfl⟩ := map_some h
        exact smV_ok (PE.imp (Xb.pe_xw (g ob a h1).1 (att_base hn.1)) fun _ _ _ q => attM_ok o.cls (okBlt_ok hn.2) q) fun _ => rfl
      · cases h
    · rename_i es k p
      obtain ⟨ss, h1, rfl⟩ := map_some h
      exact smV_ok (PE.imp (pe_tup (cEs_ok g h1).1) fun _ _ _ q => tup_ok q) fun _ => rfl
    · rename_i es p
      obtain ⟨ss, h1, rfl⟩ := map_some h
      exact smN_ok (PE.imp (pe_lst (cEs_ok g h1).1) fun _ _ _ q => lstN_ok q) fun _ => rfl
    · cases h
theorem ixNames_len : ∀ {ts : List Expr} {is : List Nat} {xs : List Str}, ixNames ce ts = some (is, xs) → ts.length = is.length ∧ xs.length = is.length
  | [], _, _, h => by
    cases h
    exact ⟨rfl, rfl⟩
  | e :: ts, is, xs, h => by
    unfold ixNames at h
    split at h
    · rename_i hx
      cases hx
    · rename_i hx
      cases hx
      split at h
      · rename_i h1 h2 h3
        cases h
        obtain ⟨i1, i2⟩ := ixNames_len h3
        simp [i1, i2]
      · cases h
    · cases h
theorem ixNames_get : ∀ {ts : List Expr} {is : List Nat} {xs : List Str} {k i : Nat} {x : Str}, ixNames ce ts = some (is, xs) → is[k]? = some i → xs[k]? = some x → ce.N[i]? = some x
  | [], _, _, k, i, x, h, h1, _ => by
    cases h
    simp at h1
  | e :: ts, is, xs, k, i, x, h, h1, h2 => by
    unfold ixNames at h
    split at h
    · rename_i hx
      cases hx
    · rename_i hx
      cases hx
      split at h
      · rename_i g1 g2 g3
        cases h
        cases k with
        | zero =>
          simp at h1 h2
          subst h1; subst h2
          exact ixOf_ok g2
        | succ k => exact ixNames_get g3 (by simpa using h1) (by simpa using h2)
      · cases h
    · cases h
theorem ixNames_pgs (o : Ok X W ce) : ∀ {ts : List Expr} {is : List Nat} {xs : List Str}, ixNames ce ts = some (is, xs) → PGs X ts (gNames is) ∧ (assignEach ts X.env).length = is.length ∧ (assignEach ts X.env).findIdx? (·.1) = none
  | [], _, _, h => by
    cases h
    exact ⟨pgs_nil, rfl, rfl⟩
  | e :: ts, is, xs, h => by
    unfold ixNames at h
    split at h
    · rename_i hx
      cases hx
    · rename_i x p r hx
      cases hx
      split at h
      · rename_i i is xs g1 g2 g3
        cases h
        obtain ⟨i1, i2, i3⟩ := ixNames_pgs o g3
        obtain ⟨a1, a2⟩ := asgC_ok o g1
        refine ⟨pgs_cons (pg_name o.nd (by rw [o.N]; exact ixOf_ok g2) a1 a2) i1 rfl, by rw [asg_co rfl]; simp [i2], ?_⟩
        rw [asg_co rfl, List.findIdx?_cons, i3]
        rfl
      · cases h
    · cases h
theorem size_1000 {n : Nat} (h : decide (n ≤ 1000) = true) : n ≤ sizeLine := by
  have : n ≤ 1000 := by simpa using h
  rw [sizeLine_eq]
  omega
theorem cSs_ok {f : Stmt → Option S} (hf : ∀ st s, f st = some s → PS X st (tS X.K W s.ms)) : ∀ {sts : List Stmt} {ss : Ss}, cSs f sts = some ss → PSs X sts (tS X.K W ss.ms)
  | [], _, h => by
    cases h
    exact PSs.imp pss_nil fun _ _ _ q => nx_ok q
  | st :: sts, ss, h => by
    unfold cSs at h
    split at h
    · rename_i a b h1 h2
      cases h
      exact PSs.imp (pss_cons (hf st a h1) (cSs_ok hf h2)) fun _ _ _ q => seq_ok q
    · cases h
theorem bk_ok {K : PySem.W.Frag} {D : Ends} {σ : St} {H : Hp} (h : tS K W bkM D σ H) : tBreak D σ H := by
  obtain ⟨R, ρ, r, hk, e, hf, q⟩ := h
  cases hf
  exact q R σ H (Ns.refl e)
theorem ct_ok {K : PySem.W.Frag} {D : Ends} {σ : St} {H : Hp} (h : tS K W ctM D σ H) : tCont D σ H := by
  obtain ⟨R, ρ, r, hk, e, hf, q⟩ := h
  cases hf
  exact q R σ H (Ns.refl e)
theorem pip_ok {op : Operator} {o : Aop} (h : augO op = some o) : PIp X op (ipI o.f) := by
  cases op <;> cases h
  · exact ip_add
  · exact ip_sub
theorem sub_assign {o i : Expr} {pos : Pos} {env : Env} (h : notSlice i = true) (v : Value) : assign (.Subscript o i pos) env v = (do
      let ov ← holding [v] (eval o env)
      let iv ← holding [v, ov] (eval i env)
      standAt pos
      holding [v, ov, iv] (setItem ov iv v)
      release [v, ov, iv] []) := by
  cases i <;> first | rfl | cases h
theorem swo_name {x : Str} {py : Pos} {e : Expr} : swappedStores [.Name x py] e X.env = pure none := by cases e <;> rfl
theorem swo_sub {a b : Expr} {py : Pos} {e : Expr} : swappedStores [.Subscript a b py] e X.env = pure none := by cases e <;> rfl
theorem swo_tup {ts : List Expr} {k : Nat} {p : Pos} {e : Expr} (h : notTup e = true) : swappedStores [.Tuple ts k p] e X.env = pure none := by cases e <;> first | rfl | cases h
theorem localC_no {sc : Scope} {x : Str} (h : localC sc x = false) : sc.names.lookup x ≠ some .local := by
  intro e
  unfold localC at h
  rw [e] at h
  cases h
theorem swap_cell {x : Str} {py : Pos} {elt : Expr} {gs : List Comprehension} {scope : Scope} {p : Pos} {l : Nat} {env : Env} (h : localC env.scope x = false) : swapsWith (.ListComp elt gs scope p) (some (.Name x py)) l env = pure false := by
  have h2 := localC_no h
  have h3 : (env.kindOf x == some NameKind.local) = false := by
    rw [beq_eq_false_iff_ne]
    exact h2
  show (pure (env.blockKind == .function && env.kindOf x == some .local && py.line == p.line && !(scope.names.any fun (n, k) => n == x && (k == .local || k == .cell))) : Sem Bool) = pure false
  rw [h3]
  simp
theorem asgC_okQ (o : OkQ X ce) {x : Str} (h : asgC ce x = true) : Loc X.env.scope x ∧ (X.fn x = true ∨ X.env.scope.names.lookup x = some .local) := by
  unfold asgC at h
  rw [o.sc]
  split at h
  · rename_i e
    exact ⟨.inl e, .inr e⟩
  · rename_i e
    exact ⟨.inr e, .inl (o.fnc x h)⟩
  · cases h
theorem cQS_ok (o : OkQ X ce) {st : Stmt} {s : S} (h : cQS ce st = some s) : PS X st (tS X.K W s.ms) := by
  have g := cQ_ok (W := W) o 9
  unfold cQS at h
  split at h
  · rename_i x py e pos
    split at h
    · rename_i i a h1 h2 h3 h4
      cases h
      obtain ⟨a1, a2⟩ := asgC_okQ o h1
      exact PS.imp (ps_set o.nd (by rw [o.N]; exact ixOf_ok h2) a1 (g e a h3).2.2 (noswap h4) a2) fun _ _ _ q => asgM_ok q
    · cases h
  · obtain ⟨a, h1, rfl⟩ := map_some h
    exact PS.imp (ps_ret (g _ a h1).2.2) fun _ _ _ q => retM_ok q
  · cases h
    refine PS.imp ps_retN fun D σ H q => ?_
    obtain ⟨R, ρ, r, hk, e, hf, q⟩ := q
    cases hf
    exact q R σ H .non (Ns.refl e) .non
  · cases h
    exact PS.imp ps_continue fun _ _ _ q => ct_ok q
  · cases h
    exact PS.imp ps_break fun _ _ _ q => bk_ok q
  · cases h
    exact PS.imp ps_pass fun _ _ _ q => nx_ok q
  · cases h
theorem nm_names (o : Ok X W ce) {c : ClI} (h : c ∈ ce.cls) (gl : Gl X c.nm) (dt : (c.nm == ("__debug__" : Str)) = false) : Names X c.nm (c.v X.K) := by
  refine ⟨gl, dt, ?_⟩
  cases hb : c.b with
  | none =>
    left
    unfold ClI.v
    rw [hb]
    exact o.cls.gl c h hb
  | some n =>
    right
    obtain ⟨g1, g2, g3⟩ := o.cls.glb c h n hb
    unfold ClI.v
    rw [hb]
    exact ⟨g1, g2, g3⟩
theorem cNms_co {e : Expr} {es : List Expr} {cs : List ClI} (h : cNms ce (e :: es) = some cs) : ∃ c r, cs = c :: r ∧ cNm ce e = some c ∧ cNms ce es = some r := by
  unfold cNms at h
  split at h
  · rename_i c r h1 h2
    cases h
    exact ⟨c, r, rfl, h1, h2⟩
  · cases h
theorem cTe_ok (o : Ok X W ce) {te : Expr} {cs : List ClI} (h : cTe ce te = some cs) : Xb.Tst X te (cs.map fun t => t.v X.K) ∧ ∀ c ∈ cs, c ∈ ce.cls := by
  have one : ∀ {e : Expr} {c : ClI}, cNm ce e = some c → ∃ p, e = .Name c.nm p ∧ c ∈ ce.cls ∧ Names X c.nm (c.v X.K) := fun {e c} h => by
    obtain ⟨p, h1, h2, h3, h4⟩ := cNm_ok o h
    exact ⟨p, h1, h2, nm_names o h2 h3 h4⟩
  unfold cTe at h
  split at h
  · split at h
    · rename_i c h1
      cases h
      obtain ⟨p, e1, m1, n1⟩ := one h1
      rw [e1]
      exact ⟨Xb.tst_name n1, fun c' hc => by
        rcases List.mem_cons.mp hc with rfl | hc
        · exact m1
        · cases hc⟩
    · cases h
  · obtain ⟨c1, r1, rfl, h1, h⟩ := cNms_co h
    obtain ⟨c2, r2, rfl, h2, h⟩ := cNms_co h
    cases h
    obtain ⟨p1, rfl, m1, n1⟩ := one h1
    obtain ⟨p2, rfl, m2, n2⟩ := one h2
    exact ⟨Xb.tst_tup2 n1 n2, by simp [m1, m2]⟩
  · obtain ⟨c1, r1, rfl, h1, h⟩ := cNms_co h
    obtain ⟨c2, r2, rfl, h2, h⟩ := cNms_co h
    obtain ⟨c3, r3, rfl, h3, h⟩ := cNms_co h
    cases h
    obtain ⟨p1, rfl, m1, n1⟩ := one h1
    obtain ⟨p2, rfl, m2, n2⟩ := one h2
    obtain ⟨p3, rfl, m3, n3⟩ := one h3
    exact ⟨Xb.tst_tup3 n1 n2 n3, by simp [m1, m2, m3]⟩
  · obtain ⟨c1, r1, rfl, h1, h⟩ := cNms_co h
    obtain ⟨c2, r2, rfl, h2, h⟩ := cNms_co h
    obtain ⟨c3, r3, rfl, h3, h⟩ := cNms_co h
    obtain ⟨c4, r4, rfl, h4, h⟩ := cNms_co h
    cases h
    obtain ⟨p1, rfl, m1, n1⟩ := one h1
    obtain ⟨p2, rfl, m2, n2⟩ := one h2
    obtain ⟨p3, rfl, m3, n3⟩ := one h3
    obtain ⟨p4, rfl, m4, n4⟩ := one h4
    exact ⟨Xb.tst_tup4 n1 n2 n3 n4, by simp [m1, m2, m3, m4]⟩
  · cases h
theorem suite_q (o : Ok X W ce) (a : Addr) (pn : List (Addr × Obj)) : OkQ (X.suite a pn) ce := ⟨o.N, o.nd, o.sc, o.fnc, o.lib, o.cls⟩
theorem cHs_ok (o : Ok X W ce) : ∀ {hds : List ExceptHandler} {hs : Hs}, cHs ce hds = some hs → ∃ ts, HnsOf ce.cls hs.ms ts ∧ Xb.HsOk X hds (hnL X.K W hs.ms ts)
  | [], hs, h => by
    cases h
    exact ⟨[], trivial, .nil⟩
  | .ExceptHandler te nm suite pos :: r, hs, h => by
    unfold cHs at h
    split at h
    · rename_i hx
      cases hx
    · rename_i te' nm' b suite' pos' r' hx
      cases hx
      split at h
      · rename_i cs oo ss hs' h1 h2 h3 h4
        cases h
        obtain ⟨ts, i1, i2⟩ := cHs_ok o h4
        obtain ⟨t1, t2⟩ := cTe_ok o h1
        refine ⟨cs :: ts, ⟨rfl, t2, i1⟩, .cons t1 ?_ (fun a pn => cSs_ok (X := X.suite a pn) (W := W) (fun st s h => cQS_ok (suite_q o a pn) h) h3) i2⟩
        unfold cNo at h2
        split at h2
        · cases h2
          exact .inl ⟨rfl, rfl⟩
        · split at h2
          · rename_i g1 g2
            cases h2
            refine .inr ⟨_, _, rfl, rfl, by rw [o.N]; exact ixOf_ok g2, ?_⟩
            have := localC_ok g1
            rw [← o.sc] at this
            exact this
          · cases h2
      · cases h
    · cases h
theorem asg_ps2 (o : Ok X W ce) {x : Str} {py pos : Pos} {e : Expr} {i : Nat} {a : E} (h1 : asgC ce x = true) (h2 : ixOf ce.N x = some i) (h3 : PE X e (tN X.K W a.sm.n)) (h4 : swapsWith e (some (.Name x py)) pos.line X.env = pure false) : PS X (.Assign [.Name x py] e pos) (tS X.K W (asgM a.sm.n i)) := by
  obtain ⟨a1, a2⟩ := asgC_ok o h1
  exact PS.imp (ps_set o.nd (by rw [o.N]; exact ixOf_ok h2) a1 h3 h4 a2) fun _ _ _ q => asgM_ok q
theorem asg_ps (o : Ok X W ce) {x : Str} {py pos : Pos} {e : Expr} {i : Nat} {a : E} (h1 : asgC ce x = true) (h2 : ixOf ce.N x = some i) (h3 : PE X e (tN X.K W a.sm.n)) (h4 : notComp e = true) : PS X (.Assign [.Name x py] e pos) (tS X.K W (asgM a.sm.n i)) := by
  obtain ⟨a1, a2⟩ := asgC_ok o h1
  exact PS.imp (ps_set o.nd (by rw [o.N]; exact ixOf_ok h2) a1 h3 (noswap h4) a2) fun _ _ _ q => asgM_ok q
theorem tr_ok (o : Ok X W ce) {W' : WX} {pn : List (Addr × Obj)} {xe : Value → Shared → Prop} (tk : Takes (X.tr pn xe) W') (po : PassesOwn (model X.prog X.w) X.A X.env xe) : Ok (X.tr pn xe) W' ce :=
  ⟨o.N, o.nd, o.sc, o.kd, o.calm, o.room, o.hg, tk, po, o.fnc, o.lib, o.cls⟩
theorem cS_ok : ∀ (n : Nat) {X : Cx} {W : WX} {ce : Ce}, Ok X W ce → StOk X → ∀ (st : Stmt) (s : S), cS n ce st = some s → PS X st (tS X.K W s.ms) := by
  intro n
  induction n with
  | zero =>
    intro X W ce o so st s h
    cases h
  | succ n ih =>
    intro X W ce o so st s h
    have g := cE_ok n o
    have gs := fun {sts : List Stmt} {ss : Ss} (h : cSs (cS n ce) sts = some ss) => cSs_ok (ih o so) h
    unfold cS at h
    split at h
    · rename_i x py e pos
      split at h
      · rename_i i a h1 h2 h3
        split at h
        · rename_i elt gns scope p
          split at h
          · rename_i hc0
            cases h
            cases hlc : localC ce.sc x with
            | false => exact asg_ps2 o h1 h2 (g _ a h3).2.2 (swap_cell (by rw [o.sc]; exact hlc))
            | true =>
            have hc : setLcC ce.sc x py p scope = true := by
              rcases hc0 with z | z
              · exact z
              · rw [hlc] at z
                cases z
            unfold setLcC at hc
            simp only [Bool.and_eq_true, Bool.not_eq_true'] at hc
            cases n with
            | zero => cases h3
            | succ m =>
              obtain ⟨tg, iter, ifs, it, t, own, c, e, rfl, hn, p1, p2, p3, p4, p5, p6, p7⟩ := lc_parts (fun o => cE_ok m o) (fun o e t h => cT_ok o h) o h3
              have hl := localC_ok hc.1.1
              rw [← o.sc] at hl
              refine PS.imp (ps_setLc o.calm o.nd (by rw [o.N]; exact ixOf_ok h2) hl (sw_true o.kd hl hc.1.2 hc.2) p2 p3 p4 p5 p6 p7) fun D σ H q => ?_
              have q2 : tS X.K W (asgM a.sm.n i) D σ H := q
              rw [hn] at q2
              exact lcM_ok p1 (asgM_ok q2)
          · cases h
        · split at h
          · rename_i hnc
            cases h
            exact asg_ps o h1 h2 (g _ a h3).2.2 hnc
          · cases h
      · cases h
    · rename_i ts k p es k2 p2 pos
      split at h
      · rename_i is xs a h1 h2 h3
        split at h
        · rename_i hz
          cases h
          obtain ⟨g1, g2, g3⟩ := ixNames_pgs o h1
          exact ps_parT o.calm (cEs_ok g h3).2 g1 g2 g3 (size_1000 hz) (swO_ok o.kd o.sc h2)
        · cases h
      · rename_i is xs ys a h1 h2 h3
        split at h
        · rename_i hz
          obtain ⟨z1, rfl, z2, z3⟩ := hz
          cases h
          refine ps_parS o.calm o.nd (cEs_ok g h3).2 (ixNames_len h1).2 z2 (fun k i x e1 e2 => ⟨by rw [o.N]; exact ixNames_get h1 e1 e2, ?_⟩) (size_1000 z1) (swO_ok o.kd o.sc h2)
          rw [o.sc]
          exact localC_ok (List.all_eq_true.mp z3 x (List.mem_of_getElem? e2))
        · cases h
      · cases h
    · rename_i ts k p e pos hne
      split at h
      · rename_i t a h1 h2 h3
        cases h
        simp only [Bool.and_eq_true] at h1
        exact PS.imp (ps_asg (g e a h3).1 (cT_ok o h2) (noswap (e := e) (t := some (.Tuple ts k p)) (l := pos.line) (env := X.env) h1.1) (swo_tup h1.2) rfl) fun _ _ _ q => asgT_ok q
      · cases h
    · rename_i x p k pp e pos
      split at h
      · rename_i i kk a h1 h2 h3 h4
        cases h
        simp only [Bool.and_eq_true] at h1
        obtain ⟨⟨⟨n1, n2⟩, n3⟩, n4⟩ := h1
        obtain ⟨d1, d2⟩ := okN_ok n1
        have pv : PE X (.Name x p) (tVar i) := pe_var (by rw [o.N]; exact ixOf_ok h2) (by rw [o.sc]; exact visC_ok n2) d1 d2
        exact PS.imp (ps_asg (g e a h4).1 (pg_sub pv (g k kk h3).1 (set_LD (by have := o.room.units; omega)) (sub_assign n3)) (noswap (e := e) (t := some (.Subscript (.Name x p) k pp)) (l := pos.line) (env := X.env) n4) swo_sub rfl) fun _ _ _ q => setM2_ok q
      · cases h
    · rename_i x p op e pos
      split at h
      · rename_i i ao a h1 h2 h3 h4
        cases h
        obtain ⟨a1, a2⟩ := asgC_ok o h1
        exact PS.imp (ps_aug o.nd (by rw [o.N]; exact ixOf_ok h2) a1 (g e a h4).1 (pip_ok h3) a2) fun _ _ _ q => augM_ok q
      · cases h
    · rename_i x p pos
      split at h
      · rename_i i n1 n2 n3
        cases h
        obtain ⟨d1, d2⟩ := okN_ok n1
        have pv : PE X (.Name x p) (tVar i) := pe_var (by rw [o.N]; exact ixOf_ok n3) (by rw [o.sc]; exact visC_ok n2) d1 d2
        exact PS.imp (ps_ret pv) fun _ _ _ q => retV_ok q
      · obtain ⟨a, h1, rfl⟩ := map_some h
        exact PS.imp (ps_ret (g _ a h1).2.2) fun _ _ _ q => retM_ok q
    · obtain ⟨a, h1, rfl⟩ := map_some h
      exact PS.imp (ps_ret (g _ a h1).2.2) fun _ _ _ q => retM_ok q
    · cases h
      refine PS.imp ps_retN fun D σ H q => ?_
      obtain ⟨R, ρ, r, hk, e, hf, q⟩ := q
      cases hf
      exact q R σ H .non (Ns.refl e) .non
    · rename_i e pos
      split at h
      · rename_i a h1 h2
        cases h
        exact PS.imp (ps_expr (g e a h2).1 (noswap h1)) fun _ _ _ q => dropM_ok q
      · cases h
    · rename_i c a b pos
      split at h
      · rename_i sc sa sb h1 h2 h3
        cases h
        exact PS.imp (ps_if (g c sc h1).2.1 (gs h2) (gs h3)) fun _ _ _ q => ifM_ok q
      · cases h
    · rename_i tg it b pos
      split at h
      · rename_i si st sb h1 h2 h3 h4
        cases h
        exact PS.imp (ps_for o.po o.calm (cI_ok o g h2) (cT_ok o h3) (gs h4) (nofold h1)) fun _ _ _ q => forM_ok q
      · cases h
    · cases h
      exact PS.imp ps_break fun _ _ _ q => bk_ok q
    · cases h
      exact PS.imp ps_continue fun _ _ _ q => ct_ok q
    · cases h
      exact PS.imp ps_pass fun _ _ _ q => nx_ok q
    · rename_i x p es pos pos'
      split at h
      · rename_i c a h1 h2 h3
        split at h
        · rename_i hc
          cases h
          simp only [Bool.and_eq_true, decide_eq_true_eq] at h1
          obtain ⟨⟨n1, n2⟩, n3⟩ := h1
          obtain ⟨d1, d2⟩ := okN_ok n1
          obtain ⟨m1, e1⟩ := findC_ok h2
          subst e1
          have gl := glC_ok o.sc n2
          have F := o.cls.make c m1 hc.1 hc.2
          have hr := o.room.mono n3
          have hm := o.cls.gl c m1 hc.1
          refine PS.imp (t := fun D σ H => Xb.tMkB (He.ga X.K c.nm) c.fs (tAs X.K W a.vs) σ H fun cl d H' => W cl d σ H') ?_ fun _ _ _ q => raiseM_ok q
          cases es with
          | nil =>
            cases h3
            refine ps_raise o.calm o.tk fun pins s σ H Q I q => Xb.pmk_B0 F hr gl hm d1 pins s σ H Q I (tAs_nil q)
          | cons e es =>
            have st := cEs_star h3
            have hst : notStar e = true ∧ es.all notStar = true := by simpa using st
            exact ps_raise o.calm o.tk (Xb.pmk_B F hr gl hm (cEs_ok g h3).1 d1 (star_co hst.1) (back_any hst.2))
        · cases h
      · cases h
    · rename_i body hd hds pos
      split at h
      · rename_i b hs h1 h2
        cases h
        obtain ⟨ts, i1, i2⟩ := cHs_ok o h2
        refine PS.imp (Xb.ps_try_hs (tb := fun W' => tS X.K W' b.ms) so.ex so.stack so.frame o.nd o.tk (fun W' pn xe tk po => ?_) i2) fun _ _ _ q => tryM_ok o.cls i1 q
        exact cSs_ok (X := X.tr pn xe) (ih (tr_ok o tk po) ⟨so.ex, so.stack, so.frame⟩) h1
      · cases h
    · cases h
end

/-! ### a def -/
def cDef (n : Nat) (N : List Str) (scope : Scope) (k : Nat) (lib : Str → Option Ent) (cls : List ClI) (body : List Stmt) : Option Ss := cSs (cS n ⟨N, scope, fun _ => true, k, lib, cls⟩) body
theorem fn_ok {P : Program} {w : World} {K : PySem.W.Frag} {mg : Str → Option Value} {base : Heap} {lib : Str → Option Ent} (lo : LibOk P w K mg base lib) {cls : List ClI} (co : ClsOk P K mg cls) {x qual : Str} {params : Arguments} {body : List Stmt} {scope : Scope} {f : Addr} {fd : FuncData}
    (F : FunD K x qual params body scope [] [] f fd) {N ps : List Str} {n k : Nat} {ss : Ss} (hS : C8.scC N ps scope = true) (hc : cDef n N scope k lib cls body = some ss) : FnG P w K mg base (k + 1) f fd ps (runF N.length ps.length ss.ms) := by
  obtain ⟨oc, od, dV, kV, doc, pm, an, cdv, ct, osl, rfl, lk, hcd, _, _⟩ := F.ex
  have S := C8.fnScope_by hS
  refine fnG_of lk hcd S fun A outer s H E hr hg => ?_
  refine cSs_ok (fun st s' h => cS_ok n ?_ ⟨rfl, rfl, rfl⟩ st s' h) hc
  exact { N := rfl, nd := S.nd, sc := rfl, kd := S.kind, calm := rfl, room := hr, hg := hg, tk := takes_of rfl rfl rfl rfl, po := passes_of rfl, fnc := fun _ _ => rfl, lib := lo, cls := co }
end Mi
set_option Elab.async false
set_option linter.all false
set_option maxRecDepth 100000
set_option maxHeartbeats 2000000
/-! M21: a law's end; the module's table -/
namespace Mi
open PySem PySem.Spec L2
open PyProof.Rows hiding St

theorem ints_drs {R : RC} {H : Hp} : ∀ ns : List Int, DRs R H (ns.map D.int) (ns.map V.int)
  | [] => .nil
  | n :: ns => .cons (.int n) (ints_drs ns)
/-- at the law's entry nothing but the script and the tables is tracked -/
def OnlyT (H : Hp) : Prop := ∀ b, H b = none ∨ (∃ ps, H b = some (.tbl ps)) ∨ ∃ o xs, H b = some (.frz o (.lst xs))
theorem script_fz {K : PySem.W.Frag} {H : Hp} {p : Addr} {xs : List V} (hO : OnlyT H) (hS : SqL K H p xs) : FzAt ⟨K, fun _ => False⟩ H p xs := by
  rcases hS with (h | ⟨o, h⟩) | h
  · rcases hO p with z | ⟨ps, z⟩ | ⟨ob, ys, z⟩ <;> (rw [h] at z; cases z)
  · exact .inl ⟨⟨o, h⟩, id⟩
  · exact .inr (.inr h)
def saysTrue (F : Fn) (n : Nat) : Prop := ∀ ns : List Int, ns.length ≤ n → ∃ sl, F [.v (.frz (ns.map D.int))] = some (.ok (.dat (.bl true)) sl)
section
variable {P : Program} {w : World} {K : PySem.W.Frag} {mg mb : Str → Option Value} {k : Nat} {fa p : Addr} {x : Str} {F : Fn} {t : Shared} {vs : List Value} {ns : List Int}
/-- the tables of the makers of lambdas, as the law finds them -/
structure TabsAt (K : PySem.W.Frag) (mg : Str → Option Value) (cs : List (Addr × Addr)) (h : Heap) : Prop where
  obj : ∀ p ∈ cs, h.get? p.2 = some { cls := .none, data := .fields #[] }
  no : ∀ p ∈ cs, K.lookup p.2 = none
  hd : ∀ p ∈ cs, PySem.W.CodeHd h p.1 p.2
  all : ∀ q ∈ tblT K, ∃ c, (c, q.1) ∈ cs
  bm : cs = [] ∨ ∃ (bm : Addr) (ob : Obj), mg "__builtins__" = some (.ref bm) ∧ bm ≠ builtinsNs ∧ h.get? bm = some ob ∧ ob.cls = .type "module" ∧ ob.dict = some builtinsNs ∧ ob.data = .plain
theorem call_core {cs : List (Addr × Addr)} {a : Addr} {vs : List Value} (KX : K.In t.heap) (hns : t.heap.Ns mainGlobals mg) (hb : t.heap.Ns builtinsNs mb) (hbb : ∀ x : Str, x ≠ "__name__" → mb x = bootBuiltins x) (hlim : t.heap.NoLimit) (hg : t.gens = #[])
    (TA : TabsAt K mg cs t.heap) (ha : t.heap.get? a = some { cls := .type "list", data := .seq vs.toArray }) (hi : IntsAre vs ns) (hl : ns.length ≤ sizeLine) (hr : Room k callerA)
    (G : ∀ base : Heap, K.In base → base.Ns mainGlobals mg → (∀ p ∈ cs, LamX.TabB base mg p.1 p.2) → ∃ fd, Bd K fd [x] ∧ FnG P w K mg base k fa fd [x] F)
    (hF : ∃ sl, F [.v (.frz (ns.map D.int))] = some (.ok (.dat (.bl true)) sl)) :
    codeAny (model P w) callerA (.call (.ref fa) ⟨[.ref a], []⟩) (fun r s' => r = .ok (.ret (.bool true)) ∧ OldK t.heap s'.heap ∧ s'.os = t.os ∧ AllBare s'.gens) t := by
  obtain ⟨sl2, hF⟩ := hF
  have hT := TA.obj
  have nT := TA.no
  have C := TA.hd
  have rv := vals_ints hi
  have lenV := hi.length
  have isT : ∀ b : Addr, b ∈ cs.map (·.2) → t.heap.get? b = some { cls := .none, data := .fields #[] } := fun b hb => by
    obtain ⟨p, hp, e⟩ := List.mem_map.mp hb
    rw [← e]
    exact hT p hp
  have aT : a ∉ cs.map (·.2) := fun z => by
    have q := isT a z
    rw [ha] at q
    have z' : Data.seq vs.toArray _ = Data.fields #[] := congrArg Obj.data (Option.some.inj q)
    cases z'
  have memT : ∀ p ∈ cs, p.2 ∈ cs.map (·.2) := fun p hp => List.mem_map.mpr ⟨p, hp, rfl⟩
  have core : ∀ H : Hp, (∀ p ∈ cs, H p.2 = some (.tbl #[])) → (∀ b, H b = none ∨ (b ∈ cs.map (·.2) ∧ H b = some (.tbl #[])) ∨ ∃ o xs, H b = some (.frz o (.lst xs))) → SqL K H a (ns.map V.int) → HOk P w H t.heap → (∀ b, H b ≠ none → b = a ∨ b ∈ cs.map (·.2)) → (H a ≠ none → K.lookup a = none) →
      codeAny (model P w) callerA (.call (.ref fa) ⟨[.ref a], []⟩) (fun r s' => r = .ok (.ret (.bool true)) ∧ OldK t.heap s'.heap ∧ s'.os = t.os ∧ AllBare s'.gens) t := by
    intro H hH hO hS hok hA hK
    have base_of : ∀ {b : Addr} {o : Obj}, t.heap.get? b = some o → H b = none → (hidT t.heap H).get? b = some o := fun e n => hidT_get e n
    have noD : ∀ {b : Addr} {o : Obj}, t.heap.get? b = some o → (∀ vs n, o.data ≠ .seq vs n) → o.data ≠ .fields #[] → H b = none := fun {b o} e h1 h2 => by
      cases q : H b with
      | none => rfl
      | some u =>
        rcases hA b (by rw [q]; simp) with e' | e'
        · rw [e', ha] at e
          cases e
          exact (h1 _ _ rfl).elim
        · rw [isT b e'] at e
          cases e
          exact (h2 rfl).elim
    have noA : ∀ {b : Addr} {o : Obj} {es : Array DictEntry} {ep : Nat}, t.heap.get? b = some o → o.data = .dict es ep → H b = none := fun {b o es ep} e d => by
      refine noD e (fun vs n z => ?_) fun z => ?_
      · rw [d] at z
        cases z
      · rw [d] at z
        cases z
    have nsK : ∀ {b : Addr} {m : Str → Option Value}, t.heap.Ns b m → (hidT t.heap H).Ns b m := fun {b m} ⟨o, es, ep, e, d, r⟩ => ⟨o, es, ep, base_of e (noA e d), d, r⟩
    have hKb : K.In (hidT t.heap H) := fun b o e => base_of (KX b o e) (by
      cases q : H b with
      | none => rfl
      | some u =>
        rcases hA b (by rw [q]; simp) with e' | e'
        · rw [e'] at e q
          rw [hK (by rw [q]; simp)] at e
          cases e
        · obtain ⟨p, hp, ep⟩ := List.mem_map.mp e'
          rw [← ep, nT p hp] at e
          cases e)
    have hM : L2.Mod K mg (hidT t.heap H) := ⟨hKb, nsK hns, ⟨mb, nsK hb, hbb⟩, let ⟨mc, h1, h2⟩ := hlim; ⟨mc, nsK h1, h2⟩⟩
    have TB : ∀ p ∈ cs, LamX.TabB (hidT t.heap H) mg p.1 p.2 := fun p hp => by
      have hTp := hT p hp
      refine ⟨?_, ?_, fun z => ?_⟩
      · obtain ⟨o, us, file, tf, flags, tg, inF, text, tt, e1, r1, r2, r3, r4, r5, r6, r7, r8, hne⟩ := C p hp
        refine ⟨o, us, file, tf, flags, tg, inF, text, tt, base_of e1 (noD e1 (fun vs n z => ?_) fun z => ?_), r1, r2, r3, r4, r5, r6, r7, r8, hne⟩
        · rw [r2] at z
          cases z
        · rw [r2] at z
          cases z
          simp at r3
      · rcases TA.bm with z | ⟨bm, ob, b1, b2, b3, b4, b5, b6⟩
        · subst z
          cases hp
        have nG : bm ≠ mainGlobals := fun q => by
          obtain ⟨o, es, ep, e, hd, _⟩ := hns
          rw [q, e] at b3
          cases b3
          rw [hd] at b6
          cases b6
        have nP : bm ≠ p.2 := fun q => by
          rw [q, hTp] at b3
          cases b3
          cases b6
        refine ⟨bm, ob, b1, b2, nG, nP, base_of b3 (noD b3 (fun vs n z => ?_) fun z => ?_), b4, b5, b6⟩
        · rw [b6] at z
          cases z
        · rw [b6] at z
          cases z
      · obtain ⟨o, es, ep, e, hd, _⟩ := hns
        rw [z, hTp] at e
        cases e
        cases hd
    have e0 : Env0 P w K mg (hidT t.heap H) callerA [] t H := ⟨rfl, hM, fun b o e => of_hidT e, Nat.le_of_eq (hidT_size _ _), trivial, fun b hb => absurd (show b ∈ ([] : List Addr) from hb) (by simp), hok, .of_eq hg⟩
    have hOT : OnlyT H := fun b => by
      rcases hO b with z | ⟨_, z⟩ | z
      · exact .inl z
      · exact .inr (.inl ⟨_, z⟩)
      · exact .inr (.inr z)
    have en : EnR ⟨K, fun _ => False⟩ H [.v (.frz (ns.map D.int))] ([V.ref a].map some) := by
      refine ⟨rfl, fun i s h => ?_, fun i j l m o u hij hi hj => ?_, fun a h => h.elim, fun q hq => ?_, fun a ps h => h.elim⟩
      · cases i with
        | zero =>
          cases h
          exact ⟨_, rfl, .ref a, rfl, .frz (script_fz hOT hS) (ints_drs ns)⟩
        | succ i => simp at h
      · cases i with
        | zero => cases hi
        | succ i => simp at hi
      · obtain ⟨c, hc⟩ := TA.all q hq
        exact LamX.TabS.nil (hH _ hc)
    obtain ⟨fd, hbind, FG⟩ := G _ hKb (nsK hns) TB
    refine codeAny_mono (FG.run callerA [] t H ⟨[.ref a], []⟩ [.ref a] [.ref a] (fun v _ => v = .bl true) (fun _ _ _ => False) hr rfl e0 (hbind t [.ref a] [] KX rfl) (.cons rfl .nil)
      ⟨⟨K, fun _ => False⟩, _, _, rfl, en, hF, fun x H' n dr => by cases dr; rfl⟩) fun r s' h => ?_
    cases r with
    | error e =>
      obtain ⟨_, _, _, _, _, _, _, _, _, _, _, _, z⟩ := h
      exact z.elim
    | ok fl =>
      cases fl with
      | next => exact False.elim h
      | brk => exact False.elim h
      | cont => exact False.elim h
      | ret u =>
        obtain ⟨v, H', os, bare, un, hok', r', q⟩ := h
        have q' : v = .bl true := q
        subst q'
        obtain rfl : u = Value.bool true := r'
        have key : ∀ b o, b ∉ cs.map (·.2) → t.heap.get? b = some o → s'.heap.get? b = some o := fun b o nb e => by
          cases q : H b with
          | none => exact un.keep b o e q (by intro z; exact absurd (show b ∈ ([] : List Addr) from z) (by simp)) (by simp)
          | some u =>
            rcases hO b with z | z | ⟨ob, xs, z⟩
            · rw [q] at z; cases z
            · exact absurd z.1 nb
            · have z2 := un.frzs b ob _ z
              obtain ⟨e1, _⟩ := hok b _ z
              obtain ⟨e2, _⟩ := hok' b _ z2
              rw [e] at e1; cases e1
              exact e2
        have grown : ∀ p ∈ cs, ∃ more : Array Value, s'.heap.get? p.2 = some { cls := .none, data := .fields more } := fun p hp => by
          obtain ⟨more, z⟩ := un.tbls p.2 #[] (hH p hp)
          exact ⟨_, hok' p.2 _ z⟩
        refine ⟨rfl, ⟨fun b o e => ?_, fun b o e => ?_⟩, os, bare⟩
        · by_cases hb : b ∈ cs.map (·.2)
          · obtain ⟨p, hp, ep⟩ := List.mem_map.mp hb
            obtain ⟨more, hm⟩ := grown p hp
            rw [← ep] at e ⊢
            rw [hT p hp] at e
            cases e
            exact .inr (.inl ⟨((C p hp).tab (hT p hp)).isCodeTable, rfl, #[], more, rfl, by rw [Array.empty_append]; exact hm⟩)
          · exact .inl (key b o hb e)
        · by_cases hb : b ∈ cs.map (·.2)
          · obtain ⟨p, hp, ep⟩ := List.mem_map.mp hb
            obtain ⟨more, hm⟩ := grown p hp
            rw [← ep]
            exact ⟨_, hm⟩
          · exact ⟨o, key b o hb e⟩
  cases hk : K.lookup a with
  | some o =>
    have e := KX a o hk
    rw [ha] at e
    cases e
    refine core (fun b => if b ∈ cs.map (·.2) then some (.tbl #[]) else none) (fun p hp => if_pos (memT p hp)) (fun b => ?_) (.inr ⟨_, vs.toArray, _, hk, rfl, rfl, rfl, by rw [List.size_toArray, lenV]; exact hl, by simpa using rv⟩) (fun b u z => ?_) (fun b z => ?_) fun z => absurd (show (if a ∈ cs.map (·.2) then some (HO.tbl #[]) else none) = none from if_neg aT) z
    · by_cases hb : b ∈ cs.map (·.2)
      · exact .inr (.inl ⟨hb, if_pos hb⟩)
      · exact .inl (if_neg hb)
    · by_cases hb : b ∈ cs.map (·.2)
      · have z' := (if_pos hb).symm.trans z
        cases z'
        exact isT b hb
      · have z' := (if_neg hb).symm.trans z
        cases z'
    · by_cases hb : b ∈ cs.map (·.2)
      · exact .inr hb
      · exact absurd (if_neg hb) z
  | none =>
    refine core (fun b => if b = a then some (.frz { cls := .type "list", data := .seq vs.toArray } (.lst (ns.map V.int))) else if b ∈ cs.map (·.2) then some (.tbl #[]) else none) (fun p hp => (if_neg (show ¬ p.2 = a from fun z => aT (by rw [← z]; exact memT p hp))).trans (if_pos (memT p hp))) (fun b => ?_)
      (.inl (.inr ⟨{ cls := .type "list", data := .seq vs.toArray }, if_pos rfl⟩)) (fun b u z => ?_) (fun b z => ?_) fun _ => hk
    · by_cases hb : b = a
      · exact .inr (.inr ⟨_, _, if_pos hb⟩)
      · by_cases hb2 : b ∈ cs.map (·.2)
        · exact .inr (.inl ⟨hb2, (if_neg hb).trans (if_pos hb2)⟩)
        · exact .inl ((if_neg hb).trans (if_neg hb2))
    · by_cases hb : b = a
      · have z' := (if_pos hb).symm.trans z
        cases z'
        rw [hb]
        exact ⟨ha, by rw [List.length_map]; exact hl, vs, _, rv, ha⟩
      · have z1 := (if_neg hb).symm.trans z
        by_cases hb2 : b ∈ cs.map (·.2)
        · have z' := (if_pos hb2).symm.trans z1
          cases z'
          exact isT b hb2
        · have z' := (if_neg hb2).symm.trans z1
          cases z'
    · by_cases hb : b = a
      · exact .inl hb
      · by_cases hb2 : b ∈ cs.map (·.2)
        · exact .inr hb2
        · exact absurd ((if_neg hb).trans (if_neg hb2)) z
end
/-- a law's end -/
theorem walkG {l : PySem.W.OpenLaw} {n k : Nat} {q : Program} {loose : List Str} {XP : (Str → Option Value) → Heap → Prop} {YP : World → Heap → Prop} {d : DefRec} {x : Str} {F : Fn}
    (hn : l.most = some n) (hn2 : n ≤ sizeLine) (hdf : d.params.defaults = []) (hr : Room k callerA) (hF : saysTrue F n)
    (G : ∀ (w : World) (mg : Str → Option Value) (fa : Addr) (h : Heap), YP w h → h.Ns mainGlobals mg → mg d.name = some (.ref fa) →
      ∃ (K : PySem.W.Frag) (cs : List (Addr × Addr)), K.In h ∧ ((cs ≠ [] → ∃ (bm : Addr) (ob : Obj), mg "__builtins__" = some (.ref bm) ∧ bm ≠ builtinsNs ∧ h.get? bm = some ob ∧ ob.cls = .type "module" ∧ ob.dict = some builtinsNs ∧ ob.data = .plain) → TabsAt K mg cs h) ∧
        ∀ base : Heap, K.In base → base.Ns mainGlobals mg → (∀ p ∈ cs, LamX.TabB base mg p.1 p.2) → ∃ fd, Bd K fd [x] ∧ FnG l.prog w K mg base k fa fd [x] F) :
    PySem.W.WalkO q loose XP YP l.row.toRowW d [] (fun f vs => PySem.call f vs) := by
  refine Att.attach_call hn hdf fun w _ t mg mb fa _ _ _ _ p vs ns gr y _ _ _ hmg hp hints hlen hgs => ?_
  obtain ⟨K, cs, KX, hTA, hG⟩ := G w mg fa _ y gr.T.g hmg
  exact call_core KX gr.T.g gr.T.b gr.T.builtins gr.T.nolimit hgs (hTA fun _ => gr.T.bmain) hp hints (Nat.le_trans hlen hn2) hr hG (hF ns hlen)

/-! ### the module's table -/
section
variable {P : Program} {w : World} {K : PySem.W.Frag} {mg : Str → Option Value} {base : Heap} {l : List (Str × Ent)}
theorem lib_nil (no : ∀ x ∈ bnames, mg x = none) : LibOk P w K mg base (fun x => ([] : List (Str × Ent)).lookup x) := ⟨fun x d h => (nomatch h), fun x k ps F kos h => (nomatch h), no⟩
theorem look_cons {x y : Str} {a e : Ent} (h : ((y, a) :: l).lookup x = some e) : (x = y ∧ e = a) ∨ l.lookup x = some e := by
  rw [List.lookup_cons] at h
  cases hb : x == y with
  | true =>
    rw [hb] at h
    cases h
    exact .inl ⟨by simpa using hb, rfl⟩
  | false =>
    rw [hb] at h
    exact .inr h
theorem lib_con (o : LibOk P w K mg base (fun x => l.lookup x)) {y : Str} {d : D} {v : V} {u : Value} (hm : mg y = some u) (rv : RelV v u) (hd : ∀ R H, R.K = K → DR R H d v) : LibOk P w K mg base (fun x => ((y, Ent.con d) :: l).lookup x) :=
  ⟨fun x d' h => by
    rcases look_cons h with ⟨rfl, e⟩ | h
    · cases e
      exact ⟨v, u, hm, rv, hd⟩
    · exact o.con x d' h, fun x k ps F kos h => by
    rcases look_cons h with ⟨rfl, e⟩ | h
    · cases e
    · exact o.fn x k ps F kos h, o.no⟩
theorem lib_int (o : LibOk P w K mg base (fun x => l.lookup x)) {y : Str} {i : Int} (hm : ∃ t, mg y = some (.int i t)) : LibOk P w K mg base (fun x => ((y, Ent.con (.int i)) :: l).lookup x) := by
  obtain ⟨t, hm⟩ := hm
  exact lib_con o hm (v := .int i) ⟨t, rfl⟩ fun _ _ _ => .int i
theorem lib_str (o : LibOk P w K mg base (fun x => l.lookup x)) {y : Str} {s : List Nat} {z : Str} (hz : z.cps.toList = s) (hm : ∃ t, mg y = some (.str z t)) : LibOk P w K mg base (fun x => ((y, Ent.con (.str s)) :: l).lookup x) := by
  obtain ⟨t, hm⟩ := hm
  subst hz
  refine lib_con o hm (v := .str z) ⟨t, rfl⟩ fun R H _ => ?_
  have := DR.str (R := R) (H := H) z.cps.toList
  rwa [str_eta] at this
theorem lib_fn (o : LibOk P w K mg base (fun x => l.lookup x)) {y : Str} {k : Nat} {ps : List Str} {F : Fn} {f : Addr} {fd : FuncData} (hm : mg y = some (.ref f)) (hk : PySem.W.keepIn K (.ref f) = true) (hb : Bd K fd ps) (G : FnG P w K mg base k f fd ps F) {kos : List (List Str × List Nat)} (hko : ∀ q ∈ kos, Bdp K fd ps q.1 q.2) :
    LibOk P w K mg base (fun x => ((y, Ent.fn k ps F kos) :: l).lookup x) :=
  ⟨fun x d' h => by
    rcases look_cons h with ⟨rfl, e⟩ | h
    · cases e
    · exact o.con x d' h, fun x k' ps' F' kos' h => by
    rcases look_cons h with ⟨rfl, e⟩ | h
    · cases e
      exact ⟨f, fd, hm, hk, hb, G, hko⟩
    · exact o.fn x k' ps' F' kos' h, o.no⟩
theorem bd_of {x qual : Str} {params : Arguments} {body : List Stmt} {scope : Scope} {kws : List (Str × V)} {f : Addr} {fd : FuncData} {ps : List Str} (F : FunD K x qual params body scope [] kws f fd)
    (h : ∀ (kV doc pm : Value) (an : Option Addr) (cdv ct : Value) (us ws : List Value), (us ++ ws).length = ps.length → bindArgs (PySem.W.fnOf x qual params body scope .none kV doc pm an cdv ct) ⟨us, (ps.drop us.length).zip ws⟩ = pure (ps.zip (us ++ ws))) : Bd K fd ps := by
  obtain ⟨oc, od, dV, kV, doc, pm, an, cdv, ct, osl, rfl, lk, hcd, hD, hK⟩ := F.ex
  rcases hD with ⟨_, rfl⟩ | ⟨e, _⟩
  · exact fun s us ws _ hl => .of_eq (h kV doc pm an cdv ct us ws hl)
  · exact absurd rfl e
theorem bdp_of {x qual : Str} {params : Arguments} {body : List Stmt} {scope : Scope} {kws : List (Str × V)} {f : Addr} {fd : FuncData} {ps ko : List Str} {pm : List Nat} (F : FunD K x qual params body scope [] kws f fd)
    (h : ∀ (kV doc pmv : Value) (an : Option Addr) (cdv ct : Value) (us ws : List Value), us.length + ko.length = ps.length → ws.length = ko.length → bindArgs (PySem.W.fnOf x qual params body scope .none kV doc pmv an cdv ct) ⟨us, ko.zip ws⟩ = pure (ps.zip (us ++ pickL 0 ws pm))) : Bdp K fd ps ko pm := by
  obtain ⟨oc, od, dV, kV, doc, pmv, an, cdv, ct, osl, rfl, lk, hcd, hD, hK⟩ := F.ex
  rcases hD with ⟨_, rfl⟩ | ⟨e, _⟩
  · exact fun s us ws _ hl hl2 => .of_eq (h kV doc pmv an cdv ct us ws hl hl2)
  · exact absurd rfl e
/-- a def of the table -/
theorem def_in (o : LibOk P w K mg base (fun x => l.lookup x)) {cls : List ClI} (co : ClsOk P K mg cls) {x : Str} {params : Arguments} {body : List Stmt} {scope : Scope} {f : Addr} {fd : FuncData} (F : FunD K x x params body scope [] [] f fd) (hm : mg x = some (.ref f)) {N ps : List Str} {n k : Nat} {ss : Ss} {kos : List (List Str × List Nat)}
    (hS : C8.scC N ps scope = true) (hc : cDef n N scope k (fun x => l.lookup x) cls body = some ss)
    (hb : ∀ (kV doc pm : Value) (an : Option Addr) (cdv ct : Value) (us ws : List Value), (us ++ ws).length = ps.length → bindArgs (PySem.W.fnOf x x params body scope .none kV doc pm an cdv ct) ⟨us, (ps.drop us.length).zip ws⟩ = pure (ps.zip (us ++ ws)))
    (hp : ∀ q ∈ kos, ∀ (kV doc pmv : Value) (an : Option Addr) (cdv ct : Value) (us ws : List Value), us.length + q.1.length = ps.length → ws.length = q.1.length → bindArgs (PySem.W.fnOf x x params body scope .none kV doc pmv an cdv ct) ⟨us, q.1.zip ws⟩ = pure (ps.zip (us ++ pickL 0 ws q.2))) :
    LibOk P w K mg base (fun y => ((x, Ent.fn (k + 1) ps (runF N.length ps.length ss.ms) kos) :: l).lookup y) :=
  lib_fn o hm F.kp (bd_of F hb) (fn_ok o co F hS hc) fun q hq => bdp_of F (hp q hq)
end
end Mi
set_option Elab.async false
set_option linter.all false
set_option maxRecDepth 100000
set_option maxHeartbeats 2000000
/-! V1: the head's classes of exceptions -/
namespace Mi
open PySem PySem.Spec L2 Xb
open PyProof.Rows hiding St
theorem Bas.F : ∀ b : Bas, ExcBaseFacts b.nm b.nw b.ini b.bm
  | .val => F.excBase_ValueError | .run => F.excBase_RuntimeError | .look => F.excBase_LookupError | .over => F.excBase_OverflowError
theorem Bas.S : ∀ b : Bas, StoreFacts b.nm b.bm "object.__setattr__" "object"
  | .val => F.store_ValueError | .run => F.store_RuntimeError | .look => F.store_LookupError | .over => F.store_OverflowError
theorem Bas.X : ∀ b : Bas, PySem.W.KxsFacts b.nm b.ini
  | .val => PySem.W.kxs_ValueError | .run => PySem.W.kxs_RuntimeError | .look => PySem.W.kxs_LookupError | .over => PySem.W.kxs_OverflowError
theorem oexB_ok {K : PySem.W.Frag} {C : Addr} {b : Bas} (h : oexB K C b = true) : OexB K C b.nm b.nw b.ini b.bm := by
  obtain ⟨h1, h⟩ := He.ba h
  obtain ⟨h2, h⟩ := He.ba h
  obtain ⟨h3, h⟩ := He.ba h
  obtain ⟨h4, h⟩ := He.ba h
  obtain ⟨h5, h⟩ := He.ba h
  obtain ⟨h6, h⟩ := He.ba h
  obtain ⟨h7, h8⟩ := He.ba h
  exact ⟨b.F, b.S, b.X, h1, h2, h3, He.eqO_ok h4, of_decide_eq_true h5, of_decide_eq_true h6, of_decide_eq_true h7, h8⟩
theorem isB_ok {K : PySem.W.Frag} {C : Addr} (h : isB K C = true) : IsC K C := by
  obtain ⟨h1, h⟩ := He.ba h
  obtain ⟨h2, h⟩ := He.ba h
  obtain ⟨h3, h⟩ := He.ba h
  obtain ⟨h4, h⟩ := He.ba h
  obtain ⟨h5, h⟩ := He.ba h
  obtain ⟨h6, h⟩ := He.ba h
  obtain ⟨h7, h⟩ := He.ba h
  obtain ⟨h8, h9⟩ := He.ba h
  exact ⟨h1, He.eqO_ok h2, He.eqO_ok h3, of_decide_eq_true h4, h5, He.eqO_ok h6, He.eqO_ok h7, of_decide_eq_true h8, of_decide_eq_true h9⟩
theorem codeB_ok {K : PySem.W.Frag} {file : Str} {v : Value} (h : codeB K file v = true) : ∃ (cda : Addr) (ccl : Value) (cdd : Option Addr) (vs : Array Value) (ccs : Array (Option Value)) (f : Str) (tf : Tok), v = .ref cda ∧ K.lookup cda = some ⟨ccl, cdd, .fields vs, ccs⟩ ∧ vs[2]? = some (.str f tf) ∧ (file == f) = true := by
  cases v with
  | ref cda =>
    have h1 : (match K.lookup cda with
      | some ⟨_, _, .fields vs, _⟩ => (match (vs[2]? : Option Value) with
        | some (.str f _) => file == f
        | _ => false)
      | _ => false) = true := h
    cases q : K.lookup cda with
    | none =>
      rw [q] at h1
      cases h1
    | some o =>
      obtain ⟨oc, od, dt, osl⟩ := o
      rw [q] at h1
      cases dt with
      | fields vs =>
        have h2 : (match (vs[2]? : Option Value) with
          | some (.str f _) => file == f
          | _ => false) = true := h1
        cases r : (vs[2]? : Option Value) with
        | none =>
          rw [r] at h2
          cases h2
        | some u =>
          rw [r] at h2
          cases u with
          | str f tf => exact ⟨cda, oc, od, vs, osl, f, tf, rfl, q, r, h2⟩
          | _ => cases h2
      | _ => cases h1
  | _ => cases h
theorem closB_ok {K : PySem.W.Frag} {C : Addr} {cl : List (Str × Addr)} (h : closB K C cl = true) : ∃ (cc : Addr) (a : Value) (b : Option Addr) (d : Array (Option Value)), cl = [(("__class__" : Str), cc)] ∧ K.lookup cc = some ⟨a, b, .cell (some (.ref C)), d⟩ := by
  unfold closB at h
  split at h
  · obtain ⟨h1, h2⟩ := He.ba h
    split at h2
    · rename_i q
      have e1 := of_decide_eq_true h1
      have e2 := of_decide_eq_true h2
      subst e1
      subst e2
      exact ⟨_, _, _, _, rfl, q⟩
    · cases h2
  · cases h
/-- what is seen of the text alone -/
def bodB (body : List Stmt) (fs : List Str) : Bool := match body with
  | .Expr (.Call (.Attribute (.Call (.Name s _) [] [] _) m p2) [.Constant (.str _) _ _] [] p4) _ :: rest => decide (s = "super") && (decide (m = "__init__") && (decide (stC rest = some fs) && (p2.endLine == p4.line)))
  | _ => false
def parB (ps : Arguments) : Bool := match (ps.posonlyargs ++ ps.args).head? with
  | some ar => decide (ar.arg = ("self" : Str))
  | none => false
def stB (c : ClD) : Bool := NdefX.nscB (nN c.fs) (pN c.fs) ["__class__"] c.scope && (decide (c.scope.names.lookup ("super" : Str) = some .globalImplicit) && (bodB c.body c.fs && (decide (c.fs.length ≤ 800) && (c.fs.all (fun x => !(x == ("__debug__" : Str)) && !(x == ("__classdict__" : Str))) && parB c.params))))
theorem own_ok {P : Program} {K : PySem.W.Frag} {mg : Str → Option Value} {h : Heap} {c : ClD} {C : Addr} (X : K.In h) (G : h.Ns mainGlobals mg) (hs : stB c = true) (ht : (P.main.scope.names.lookup ("super" : Str)).isSome = false)
    (hna : ∀ f ∈ c.fs, PySem.W.findIn K (.ref C) f = some none) (h1 : ownB K (P.main.file : Str) c C = true) (h2 : clV K C = c.val)
    (hb : ∀ (cc : Addr) (kV doc pm ct : Value) (an : Option Addr) (cdv : Value), BndF c.kos (PySem.W.fnX "__init__" c.qual c.params c.body c.scope [("__class__", cc)] .none kV doc pm an cdv ct) c.fs) : ClsF P K mg C c.fs c.kos := by
  obtain ⟨s1, s⟩ := He.ba hs
  obtain ⟨s2, s⟩ := He.ba s
  obtain ⟨s3, s⟩ := He.ba s
  obtain ⟨s4, s⟩ := He.ba s
  obtain ⟨s5, s6⟩ := He.ba s
  obtain ⟨g1, g⟩ := He.ba h1
  obtain ⟨g2, g⟩ := He.ba g
  obtain ⟨g3, g⟩ := He.ba g
  obtain ⟨g4, g⟩ := He.ba g
  obtain ⟨g5, g⟩ := He.ba g
  obtain ⟨g6, g⟩ := He.ba g
  unfold clV at h2
  split at g
  · rename_i oc od fd osl lk
    rw [lk] at h2
    obtain ⟨n1, n2, n3, n4, n5, n6, n7, n8, n9, n10, n11, n12, n13, n14, n15⟩ := fd
    have e2 : (some (n1, n2, n3, n4, n5, n6, n15) : ClV) = c.val := h2
    unfold ClD.val at e2
    simp only [Option.some.injEq, Prod.mk.injEq] at e2
    obtain ⟨e1, e2, e3, e4, e5, e6, e7⟩ := e2
    subst e1 e2 e3 e4 e5 e6 e7
    obtain ⟨k1, k⟩ := He.ba g
    obtain ⟨k2, k⟩ := He.ba k
    obtain ⟨k3, k4⟩ := He.ba k
    dsimp only at k1 k2 k3 k4
    obtain ⟨cda, ccl, cdd, vs, ccs, f, tf, rfl, c2, c3, c4⟩ := codeB_ok k3
    obtain ⟨cc, a, b, d, rfl, c5⟩ := closB_ok k4
    have hd : n8 = .none := by
      cases n8 with
      | none => rfl
      | _ => cases k1
    subst hd
    unfold parB at s6
    cases har : (c.params.posonlyargs ++ c.params.args).head? with
    | none =>
      rw [har] at s6
      cases s6
    | some ar =>
    rw [har] at s6
    have hself : ar.arg = ("self" : Str) := of_decide_eq_true s6
    unfold bodB at s3
    split at s3
    · rename_i s p0 p1 m p2 msg j p3 p4 p5 rest hbody
      obtain ⟨b1, s3⟩ := He.ba s3
      obtain ⟨b2, s3⟩ := He.ba s3
      obtain ⟨b3, b4⟩ := He.ba s3
      have b1 := of_decide_eq_true b1
      have b2 := of_decide_eq_true b2
      subst b1 b2
      refine ⟨c.bas.nm, c.bas.nw, c.bas.ini, c.bas.bm, iniA K C, _, ⟨oexB_ok g1, of_decide_eq_true g2, He.free_ok X G g6, ht, of_decide_eq_true g3, fun x hx => ⟨hna x hx, ?_⟩, of_decide_eq_true s4, ?_⟩, of_decide_eq_true g4, of_decide_eq_true g5, hb cc n9 n10 n11 n14 n12 (.ref cda)⟩
      · have := List.all_eq_true.mp s5 x hx
        simp only [Bool.and_eq_true, Bool.not_eq_true'] at this
        exact this
      · exact ⟨"__init__", c.qual, c.params, c.body, rest, c.scope, cc, cda, .none, n9, n10, n11, n14, oc, n12, od, osl, p0, p1, p2, p3, p4, p5, msg, j, ar, rfl, lk, k2, NdefX.nscope_by s1, of_decide_eq_true s2, hbody, of_decide_eq_true b3, b4, har, hself, ⟨ccl, cdd, vs, ccs, f, tf, c2, c3, c4⟩, ⟨a, b, d, c5⟩⟩
    · cases s3
  · cases g
theorem refB_ok {v : Value} {P : Addr} (h : refB v P = true) : v = .ref P := by
  cases v with
  | ref Q => rw [of_decide_eq_true (show decide (Q = P) = true from h)]
  | _ => cases h
theorem isStr_ok {v : Value} (h : isStr v = true) : ∃ f t, v = .str f t := by
  cases v with
  | str f t => exact ⟨f, t, rfl⟩
  | _ => cases h
theorem isIntV_ok {v : Value} (h : isIntV v = true) : ∃ f t, v = .int f t := by
  cases v with
  | int f t => exact ⟨f, t, rfl⟩
  | _ => cases h
theorem isBoolV_ok {v : Value} (h : isBoolV v = true) : ∃ f, v = .bool f := by
  cases v with
  | bool f => exact ⟨f, rfl⟩
  | _ => cases h
theorem hdB_ok {K : PySem.W.Frag} {c P : Addr} {h : Heap} (X : K.In h) (q : hdB K c P = true) : PySem.W.CodeHd h c P := by
  unfold hdB at q
  split at q
  · rename_i n d vs sl e
    obtain ⟨h1, q⟩ := He.ba q
    obtain ⟨h2, q⟩ := He.ba q
    obtain ⟨h3, q⟩ := He.ba q
    obtain ⟨h4, q⟩ := He.ba q
    obtain ⟨h5, q⟩ := He.ba q
    obtain ⟨h6, q⟩ := He.ba q
    obtain ⟨h7, h8⟩ := He.ba q
    have h1 := of_decide_eq_true h1
    have h2 := of_decide_eq_true h2
    have h3 := refB_ok h3
    obtain ⟨f, tf, h4⟩ := isStr_ok h4
    obtain ⟨fl, tg, h5⟩ := isIntV_ok h5
    obtain ⟨inF, h6⟩ := isBoolV_ok h6
    obtain ⟨tx, tt, h7⟩ := isIntV_ok h7
    subst h1
    refine ⟨_, vs, f, tf, fl, tg, inF, tx, tt, X _ _ e, rfl, rfl, ?_, h3, h4, h5, h6, h7, of_decide_eq_true h8⟩
    rw [← h3]
    simp [h2]
  · cases q
theorem tabsAt {K : PySem.W.Frag} {mg : Str → Option Value} {h : Heap} (X : K.In h) (t : TbOk K h) (hb : csOf K ≠ [] → ∃ (bm : Addr) (ob : Obj), mg "__builtins__" = some (.ref bm) ∧ bm ≠ builtinsNs ∧ h.get? bm = some ob ∧ ob.cls = .type "module" ∧ ob.dict = some builtinsNs ∧ ob.data = .plain) : TabsAt K mg (csOf K) h where
  obj := fun p hp => by
    obtain ⟨x, hx, rfl⟩ := List.mem_map.mp hp
    exact (t x hx).1
  no := fun p hp => by
    obtain ⟨x, hx, rfl⟩ := List.mem_map.mp hp
    exact (t x hx).2.1
  hd := fun p hp => by
    obtain ⟨x, hx, rfl⟩ := List.mem_map.mp hp
    exact hdB_ok X (t x hx).2.2
  all := fun q hq => by
    obtain ⟨x, hx, rfl⟩ := List.mem_map.mp hq
    exact ⟨codA K x, List.mem_map.mpr ⟨x, hx, rfl⟩⟩
  bm := by
    by_cases e : csOf K = []
    · exact .inl e
    · exact .inr (hb e)
section
variable {file : Str} {fa : List He.Fa} {fn : List He.DefD} {cs : List ClD} {K : PySem.W.Frag} {P : Program} {mg : Str → Option Value} {h : Heap}
theorem SaysX.d (c : SaysX file fa fn cs K) : He.SaysD fa fn K := congrArg (fun z : AlX => z.1) c
theorem SaysX.cls (c : SaysX (P.main.file : Str) fa fn cs K) (X : K.In h) (G : h.Ns mainGlobals mg) (ht : (P.main.scope.names.lookup ("super" : Str)).isSome = false) (hs : (ownsOf cs).all stB = true)
    (hb : ∀ c ∈ ownsOf cs, ∀ (cc : Addr) (kV doc pm ct : Value) (an : Option Addr) (cdv : Value), BndF c.kos (PySem.W.fnX "__init__" c.qual c.params c.body c.scope [("__class__", cc)] .none kV doc pm an cdv ct) c.fs) :
    ClsOk P K mg (cs.map ClD.i) := by
  have c1 : (cs.all fun c => clB K (P.main.file : Str) cs c) = true := congrArg (fun z : AlX => z.2.1) c
  have c2 : (ownsOf cs).map (fun c => clV K (He.ga K c.nm)) = (ownsOf cs).map ClD.val := congrArg (fun z : AlX => z.2.2) c
  have c3 : ∀ d ∈ ownsOf cs, clV K (He.ga K d.nm) = d.val := fun d hd => List.map_inj_left.mp c2 d hd
  have get : ∀ i ∈ cs.map ClD.i, ∃ d ∈ cs, d.i = i := fun i hi => List.mem_map.mp hi
  have one : ∀ d ∈ cs, d.b = none → (He.Fa.glo d.nm).ok K = true ∧ isB K (He.ga K d.nm) = true ∧ (∀ f ∈ d.fs, PySem.W.findIn K (.ref (He.ga K d.nm)) f = some none) ∧
      (∀ t ∈ cs, PySem.W.kitOne K (.ref (He.ga K d.nm)) (t.i.v K) = some (d.mro.contains t.nm) ∧ PySem.W.exmOne K (.ref (He.ga K d.nm)) (t.i.v K) = some (d.mro.contains t.nm)) ∧ (d.own = true → ownB K (P.main.file : Str) d (He.ga K d.nm) = true) := fun d hd hn => by
    have q := List.all_eq_true.mp c1 d hd
    unfold clB at q
    rw [hn] at q
    obtain ⟨q1, q⟩ := He.ba q
    obtain ⟨q2, q⟩ := He.ba q
    obtain ⟨q3, q⟩ := He.ba q
    obtain ⟨q4, q5⟩ := He.ba q
    refine ⟨q1, q2, fun f hf => He.eqO_ok (List.all_eq_true.mp q3 f hf), fun t ht => ?_, fun ho => ?_⟩
    · obtain ⟨a1, a2⟩ := He.ba (List.all_eq_true.mp q4 t ht)
      exact ⟨of_decide_eq_true a1, of_decide_eq_true a2⟩
    · rw [ho] at q5
      simpa using q5
  refine ⟨fun i hi hn => ?_, fun i hi n hn => ?_, fun i hi hn => ?_, fun i hi hn ho => ?_, fun i hi hn f hf => ?_, fun i hi hn t ht => ?_, fun i hi hn t ht => ?_⟩
  · obtain ⟨d, hd, rfl⟩ := get i hi
    exact He.glo_ok X G (one d hd hn).1
  · obtain ⟨d, hd, rfl⟩ := get i hi
    have q := List.all_eq_true.mp c1 d hd
    unfold clB at q
    have hn' : d.b = some n := hn
    rw [hn'] at q
    obtain ⟨q1, q⟩ := He.ba q
    obtain ⟨q2, q3⟩ := He.ba q
    exact ⟨He.free_ok X G q1, of_decide_eq_true q2, of_decide_eq_true q3⟩
  · obtain ⟨d, hd, rfl⟩ := get i hi
    exact isB_ok (one d hd hn).2.1
  · obtain ⟨d, hd, rfl⟩ := get i hi
    have hm : d ∈ ownsOf cs := by
      unfold ownsOf
      rw [List.mem_filter]
      have h1 : d.own = true := ho
      have h2 : d.b = none := hn
      exact ⟨hd, by rw [h1, h2]; rfl⟩
    obtain ⟨_, _, o3, _, o5⟩ := one d hd hn
    exact own_ok X G (List.all_eq_true.mp hs d hm) ht o3 (o5 ho) (c3 d hm) (hb d hm)
  · obtain ⟨d, hd, rfl⟩ := get i hi
    exact (one d hd hn).2.2.1 f hf
  · obtain ⟨d, hd, rfl⟩ := get i hi
    obtain ⟨t', ht', rfl⟩ := get t ht
    exact ((one d hd hn).2.2.2.1 t' ht').1
  · obtain ⟨d, hd, rfl⟩ := get i hi
    obtain ⟨t', ht', rfl⟩ := get t ht
    exact ((one d hd hn).2.2.2.1 t' ht').2
end
end Mi
set_option Elab.async false
set_option linter.all false
set_option maxRecDepth 100000
set_option maxHeartbeats 2000000
/-! P0: reckoning with the small language -/
namespace Mi
open PySem L2

def Okw {α : Type} (m : Mo α) (ρ : En) (post : α → En → Prop) : Prop := ∃ a ρ', m ρ = some (.ok a ρ') ∧ post a ρ'
def Sow {α : Type} (o : Option α) (k : α → Prop) : Prop := ∃ a, o = some a ∧ k a
def Ifw (b : Bool) (A B : Prop) : Prop := (b = true ∧ A) ∨ (b = false ∧ B)
def Bow (h : Hd) (k : Bool → Prop) : Prop := ∃ b, h = .val (.bl b) ∧ k b
def Itw (d : D) (k : Int → Prop) : Prop := ∃ i, d = .int i ∧ k i
def Chw (z : D) (A B : Prop) : Prop := (z = .bl false ∧ A) ∨ (z = .bl true ∧ B)
def Seqw (fl : Fl) (A B : Prop) : Prop := (fl = .nx ∧ A) ∨ (fl ≠ .nx ∧ B)
def Rtw (s : Option Sl) (k : Fr → Prop) : Prop := match s with
  | some (.v d) => k (.dat d)
  | some (.own false o) => k (.new o)
  | _ => False
section
variable {α β : Type} {ρ : En} {post : β → En → Prop}
theorem okv_bind_0 {m : Mo α} {k : α → Mo β} : Okw (Mo.bind m k) ρ post ↔ Okw m ρ fun a ρ' => Okw (k a) ρ' post := by
  constructor
  · rintro ⟨b, ρ2, h, q⟩
    rcases bind_ok h with ⟨a, ρ1, h1, h2⟩ | ⟨x, ρ1, h1, h2⟩
    · exact ⟨a, ρ1, h1, b, ρ2, h2, q⟩
    · cases h2
  · rintro ⟨a, ρ1, h1, b, ρ2, h2, q⟩
    exact ⟨b, ρ2, by simp [Ifw, Chw, Bow, Itw, Sow, Mo.bind, h1, h2], q⟩
theorem okv_pure_0 {a : β} : Okw (Mo.pure a) ρ post ↔ post a ρ := by
  constructor
  · rintro ⟨b, ρ2, h, q⟩
    cases h
    exact q
  · exact fun h => ⟨a, ρ, rfl, h⟩
theorem okv_lift_0 {o : Option β} : Okw (Mo.lift o) ρ post ↔ Sow (o) fun a => post a ρ := by
  constructor
  · rintro ⟨b, ρ2, h, q⟩
    obtain ⟨a, h1, h2⟩ := lift_eq h
    cases h2
    exact ⟨b, h1, q⟩
  · rintro ⟨a, rfl, q⟩
    exact ⟨a, ρ, rfl, q⟩
theorem okv_imp_0 {m : Mo β} {post' : β → En → Prop} (h : Okw m ρ post) (i : ∀ a ρ', post a ρ' → post' a ρ') : Okw m ρ post' := by
  obtain ⟨a, ρ', h1, h2⟩ := h
  exact ⟨a, ρ', h1, i a ρ' h2⟩
end
section
variable {ρ : En}
theorem okv_deref_0 {h : Hd} {post : D → En → Prop} : Okw (deref h) ρ post ↔ Sow (deref1 ρ h) fun d => post d ρ := by
  constructor
  · rintro ⟨a, ρ', h1, h2⟩
    unfold deref at h1
    cases h3 : deref1 ρ h with
    | none => simp [Ifw, Chw, Bow, Itw, Sow, h3] at h1
    | some d =>
      simp [Ifw, Chw, Bow, Itw, Sow, h3] at h1
      obtain ⟨rfl, rfl⟩ := h1
      exact ⟨d, rfl, h2⟩
  · rintro ⟨d, h1, h2⟩
    exact ⟨d, ρ, by simp [Ifw, Chw, Bow, Itw, Sow, deref, h1], h2⟩
theorem okv_derefs_0 {h : List Hd} {post : List D → En → Prop} : Okw (derefs h) ρ post ↔ Sow (derefs1 ρ h) fun d => post d ρ := by
  constructor
  · rintro ⟨a, ρ', h1, h2⟩
    unfold derefs at h1
    cases h3 : derefs1 ρ h with
    | none => simp [Ifw, Chw, Bow, Itw, Sow, h3] at h1
    | some d =>
      simp [Ifw, Chw, Bow, Itw, Sow, h3] at h1
      obtain ⟨rfl, rfl⟩ := h1
      exact ⟨d, rfl, h2⟩
  · rintro ⟨d, h1, h2⟩
    exact ⟨d, ρ, by simp [Ifw, Chw, Bow, Itw, Sow, derefs, h1], h2⟩
theorem okv_freeze_val_0 {d : D} {post : D → En → Prop} : Okw (freeze (.val d)) ρ post ↔ post d ρ := by
  constructor
  · rintro ⟨b, ρ2, h, q⟩
    cases h
    exact q
  · exact fun h => ⟨d, ρ, rfl, h⟩
@[simp] def frz1 (ρ : En) (i : Nat) : Option (D × En) := match ρ[i]? with
  | some (.own false o) => some (o.toD, ρ.set i (.v o.toD))
  | some (.v d) => some (d, ρ)
  | _ => none
theorem okv_freeze_slot_0 {i : Nat} {post : D → En → Prop} : Okw (freeze (.slot i)) ρ post ↔ Sow (frz1 ρ i) fun p => post p.1 p.2 := by
  have e : freeze (.slot i) ρ = (frz1 ρ i).map fun p => .ok p.1 p.2 := by
    show (match ρ[i]? with
      | some (.own false o) => some (R3.ok o.toD (ρ.set i (.v o.toD)))
      | some (.v d) => some (.ok d ρ)
      | _ => none) = _
    unfold frz1
    cases ρ[i]? with
    | none => rfl
    | some s =>
      cases s with
      | no => rfl
      | v d => rfl
      | own l o => cases l <;> rfl
  constructor
  · rintro ⟨a, ρ', h1, h2⟩
    rw [e] at h1
    obtain ⟨p, h3, h4⟩ := map_some h1
    cases h4
    exact ⟨p, h3, h2⟩
  · rintro ⟨p, h1, h2⟩
    exact ⟨p.1, p.2, by rw [e, h1]; rfl, h2⟩
theorem okv_freezes_nil_0 {post : List D → En → Prop} : Okw (freezes []) ρ post ↔ post [] ρ := okv_pure_0
theorem okv_freezes_cons_0 {h : Hd} {hs : List Hd} {post : List D → En → Prop} : Okw (freezes (h :: hs)) ρ post ↔ Okw (freeze h) ρ fun d ρ1 => Okw (freezes hs) ρ1 fun ds ρ2 => post (d :: ds) ρ2 := by
  show Okw (Mo.bind (freeze h) fun d => Mo.bind (freezes hs) fun ds => Mo.pure (d :: ds)) ρ post ↔ _
  simp only [okv_bind_0, okv_pure_0]
@[simp] def rdv (ρ : En) (i : Nat) : Option Hd := match ρ[i]? with
  | some (.v d) => some (.val d)
  | some (.own _ _) => some (.slot i)
  | _ => none
theorem okv_readVar_0 {i : Nat} {post : Hd → En → Prop} : Okw (readVar i) ρ post ↔ Sow (rdv ρ i) fun h => post h ρ := by
  have e : readVar i ρ = (rdv ρ i).map fun h => .ok h ρ := by
    unfold readVar rdv
    cases ρ[i]? with
    | none => rfl
    | some s => cases s <;> rfl
  constructor
  · rintro ⟨a, ρ', h1, h2⟩
    rw [e] at h1
    obtain ⟨p, h3, h4⟩ := map_some h1
    cases h4
    exact ⟨_, h3, h2⟩
  · rintro ⟨p, h1, h2⟩
    exact ⟨p, ρ, by rw [e, h1]; rfl, h2⟩
@[simp] def cal (F : Fn) (hs : List Hd) (ρ : En) : Option (List Sl) := match apart hs with
  | true => lend ρ hs
  | false => none
theorem okv_callF_0 {F : Fn} {hs : List Hd} {post : Fr → En → Prop} : Okw (callF F hs) ρ post ↔ ∃ sl fr sl' ρ', cal F hs ρ = some sl ∧ F sl = some (.ok fr sl') ∧ back ρ hs sl' = some ρ' ∧ post fr ρ' := by
  constructor
  · rintro ⟨a, ρ', h1, h2⟩
    unfold callF at h1
    cases hl : lend ρ hs with
    | none => simp [Ifw, Chw, Bow, Itw, Sow, hl] at h1
    | some sl =>
      cases ha : apart hs with
      | false => simp [Ifw, Chw, Bow, Itw, Sow, hl, ha] at h1
      | true =>
        cases hF : F sl with
        | none => simp [Ifw, Chw, Bow, Itw, Sow, hl, ha, hF] at h1
        | some r =>
          cases r with
          | ok d sl' =>
            cases hb : back ρ hs sl' with
            | none => simp [Ifw, Chw, Bow, Itw, Sow, hl, ha, hF, hb] at h1
            | some ρ2 =>
              simp [Ifw, Chw, Bow, Itw, Sow, hl, ha, hF, hb] at h1
              obtain ⟨rfl, rfl⟩ := h1
              exact ⟨sl, d, sl', ρ2, by simp [Ifw, Chw, Bow, Itw, Sow, cal, ha, hl], hF, hb, h2⟩
          | ex x sl' => cases hb : back ρ hs sl' <;> simp [Ifw, Chw, Bow, Itw, Sow, hl, ha, hF, hb] at h1
  · rintro ⟨sl, fr, sl', ρ', h1, h2, h3, h4⟩
    unfold cal at h1
    cases ha : apart hs with
    | false => simp [Ifw, Chw, Bow, Itw, Sow, ha] at h1
    | true =>
      simp [Ifw, Chw, Bow, Itw, Sow, ha] at h1
      exact ⟨fr, ρ', by simp [Ifw, Chw, Bow, Itw, Sow, callF, h1, ha, h2, h3], h4⟩
/-! ### expressions -/
variable {a b c : E} {post : Hd → En → Prop} {pB : Bool → En → Prop} {pN : Fr → En → Prop}
theorem v_var_0 {i : Nat} : Okw (E.var i).sm.v ρ post ↔ Sow (rdv ρ i) fun h => post h ρ := okv_readVar_0
theorem v_con_0 {d : D} : Okw (E.con d).sm.v ρ post ↔ post (.val d) ρ := okv_pure_0
theorem okv_opM_0 {op : D → D → Option D} {f g : Mo Hd} : Okw (opM op f g) ρ post ↔ Okw f ρ fun h ρ1 => Okw g ρ1 fun k ρ2 => Sow (deref1 ρ2 h) fun x => Sow (deref1 ρ2 k) fun y => Sow (op x y) fun d => post (.val d) ρ2 := by
  unfold opM
  simp only [okv_bind_0, okv_deref_0, okv_lift_0, okv_pure_0]
theorem v_op_0 {o : Bop} : Okw (E.op o a b).sm.v ρ post ↔ Okw a.sm.v ρ fun h ρ1 => Okw b.sm.v ρ1 fun k ρ2 => Sow (deref1 ρ2 h) fun x => Sow (deref1 ρ2 k) fun y => Sow (o.op x y) fun d => post (.val d) ρ2 := by
  have e : (E.op o a b).sm.v = opM o.op a.sm.v b.sm.v := by cases o <;> rfl
  rw [e]
  exact okv_opM_0
theorem v_cmp_0 {o : Bop} : Okw (E.cmp o a b).sm.v ρ post ↔ Okw a.sm.v ρ fun h ρ1 => Okw b.sm.v ρ1 fun k ρ2 => Sow (deref1 ρ2 h) fun x => Sow (deref1 ρ2 k) fun y => Sow (o.op x y) fun d => post (.val d) ρ2 := okv_opM_0
theorem v_idx_0 : Okw (E.idx a b).sm.v ρ post ↔ Okw a.sm.v ρ fun h ρ1 => Okw b.sm.v ρ1 fun k ρ2 => Sow (deref1 ρ2 h) fun x => Sow (deref1 ρ2 k) fun y => Sow (idxDD x y) fun d => post (.val d) ρ2 := okv_opM_0
theorem v_stp_0 : Okw (E.stp a b).sm.v ρ post ↔ Okw a.sm.v ρ fun h ρ1 => Okw b.sm.v ρ1 fun k ρ2 => Sow (deref1 ρ2 h) fun x => Sow (deref1 ρ2 k) fun y => Sow (stpD x y) fun d => post (.val d) ρ2 := okv_opM_0
theorem v_chain_0 {o o' : Bop} : Okw (E.chain o o' a b c).sm.v ρ post ↔ Okw a.sm.v ρ fun h ρ1 => Okw b.sm.v ρ1 fun k ρ2 => Sow (deref1 ρ2 h) fun x => Sow (deref1 ρ2 k) fun y => Sow (o.op x y) fun z => Chw z (post (.val (.bl false)) ρ2) (Okw c.sm.v ρ2 fun l ρ3 => Sow (deref1 ρ3 k) fun y => Sow (deref1 ρ3 l) fun w => Sow (o'.op y w) fun d => post (.val d) ρ3) := by
  show Okw (chainM _ _ _ _ _) ρ post ↔ _
  unfold chainM
  simp only [okv_bind_0, okv_deref_0, okv_lift_0, okv_pure_0]
  refine iff_of_eq (congrArg _ (funext fun h => funext fun ρ1 => congrArg _ (funext fun k => funext fun ρ2 => ?_)))
  refine propext (exists_congr fun x => and_congr_right fun _ => exists_congr fun y => and_congr_right fun _ => exists_congr fun z => and_congr_right fun _ => ?_)
  cases z with
  | bl q => cases q <;> simp [Ifw, Chw, Bow, Itw, Sow, okv_bind_0, okv_deref_0, okv_lift_0, okv_pure_0]
  | _ => simp [Ifw, Chw, Bow, Itw, Sow, okv_lift_0, Chw]
theorem v_neg_0 : Okw (E.neg a).sm.v ρ post ↔ Okw a.sm.v ρ fun h ρ1 => Sow (deref1 ρ1 h) fun x => Sow (negD x) fun d => post (.val d) ρ1 := by
  show Okw (unM _ _) ρ post ↔ _
  unfold unM
  simp only [okv_bind_0, okv_deref_0, okv_lift_0, okv_pure_0]
theorem okv_valB_0 {f : Mo Hd} : Okw (valB f) ρ pB ↔ Okw f ρ fun h ρ1 => Sow (deref1 ρ1 h) fun x => Sow (truD x) fun k => pB k ρ1 := by
  unfold valB
  simp only [okv_bind_0, okv_deref_0, okv_lift_0]
theorem v_not_0 : Okw (E.not a).sm.v ρ post ↔ Okw a.sm.v ρ fun h ρ1 => Sow (deref1 ρ1 h) fun x => Sow (truD x) fun k => post (.val (.bl (!k))) ρ1 := by
  show Okw (notM _) ρ post ↔ _
  unfold notM
  simp only [okv_bind_0, okv_pure_0, okv_valB_0]
theorem v_and_0 : Okw (E.and a b).sm.v ρ post ↔ Okw a.sm.v ρ fun h ρ1 => Sow (deref1 ρ1 h) fun x => Sow (truD x) fun k => Ifw k (Okw b.sm.v ρ1 post) (post h ρ1) := by
  show Okw (andM _ _) ρ post ↔ _
  unfold andM
  simp only [okv_bind_0, okv_deref_0, okv_lift_0]
  refine iff_of_eq (congrArg _ (funext fun h => funext fun ρ1 => propext (exists_congr fun x => and_congr_right fun _ => exists_congr fun k => and_congr_right fun _ => ?_)))
  cases k <;> simp [Ifw, Chw, Bow, Itw, Sow, okv_pure_0]
theorem v_or_0 : Okw (E.or a b).sm.v ρ post ↔ Okw a.sm.v ρ fun h ρ1 => Sow (deref1 ρ1 h) fun x => Sow (truD x) fun k => Ifw k (post h ρ1) (Okw b.sm.v ρ1 post) := by
  show Okw (orM _ _) ρ post ↔ _
  unfold orM
  simp only [okv_bind_0, okv_deref_0, okv_lift_0]
  refine iff_of_eq (congrArg _ (funext fun h => funext fun ρ1 => propext (exists_congr fun x => and_congr_right fun _ => exists_congr fun k => and_congr_right fun _ => ?_)))
  cases k <;> simp [Ifw, Chw, Bow, Itw, Sow, okv_pure_0]
theorem v_ite_0 : Okw (E.ite c a b).sm.v ρ post ↔ Okw c.sm.b ρ fun k ρ1 => Ifw k (Okw a.sm.v ρ1 post) (Okw b.sm.v ρ1 post) := by
  show Okw (iteM _ _ _) ρ post ↔ _
  unfold iteM
  simp only [okv_bind_0]
  refine iff_of_eq (congrArg _ (funext fun k => funext fun ρ1 => ?_))
  cases k <;> simp [Ifw, Chw, Bow, Itw, Sow]
variable {es ks : Es} {pS : List Hd → En → Prop}
theorem vs_nil_0 : Okw Es.nil.vs ρ pS ↔ pS [] ρ := okv_pure_0
theorem vs_cons_0 : Okw (Es.cons a es).vs ρ pS ↔ Okw a.sm.v ρ fun h ρ1 => Okw es.vs ρ1 fun hs ρ2 => pS (h :: hs) ρ2 := by
  show Okw (consM _ _) ρ pS ↔ _
  unfold consM
  simp only [okv_bind_0, okv_pure_0]
theorem ns_nil_0 {p : List Fr → En → Prop} : Okw Es.nil.ns ρ p ↔ p [] ρ := okv_pure_0
theorem ns_cons_0 {p : List Fr → En → Prop} : Okw (Es.cons a es).ns ρ p ↔ Okw a.sm.n ρ fun h ρ1 => Okw es.ns ρ1 fun hs ρ2 => p (h :: hs) ρ2 := by
  show Okw (consM _ _) ρ p ↔ _
  unfold consM
  simp only [okv_bind_0, okv_pure_0]
theorem v_tup_0 : Okw (E.tup es).sm.v ρ post ↔ Okw es.vs ρ fun hs ρ1 => Okw (freezes hs) ρ1 fun ds ρ2 => ds.length ≤ sizeLine ∧ post (.val (.tup ds)) ρ2 := by
  show Okw (tupM _) ρ post ↔ _
  unfold tupM
  simp only [okv_bind_0, okv_lift_0, okv_pure_0]
  refine iff_of_eq (congrArg _ (funext fun h => funext fun ρ1 => congrArg _ (funext fun k => funext fun ρ2 => ?_)))
  by_cases h : k.length ≤ sizeLine <;> simp [Ifw, Chw, Bow, Itw, Sow, h]
theorem n_lst_0 : Okw (E.lst es).sm.n ρ pN ↔ Okw es.vs ρ fun hs ρ1 => Okw (freezes hs) ρ1 fun ds ρ2 => ds.length ≤ sizeLine ∧ pN (.new (.lst ds)) ρ2 := by
  show Okw (lstN _) ρ pN ↔ _
  unfold lstN
  simp only [okv_bind_0, okv_lift_0, okv_pure_0]
  refine iff_of_eq (congrArg _ (funext fun h => funext fun ρ1 => congrArg _ (funext fun k => funext fun ρ2 => ?_)))
  by_cases h : k.length ≤ sizeLine <;> simp [Ifw, Chw, Bow, Itw, Sow, h]
theorem okv_valN_0 {f : Mo Fr} : Okw (valN f) ρ post ↔ Okw f ρ fun fr ρ1 => post (.val fr.toD) ρ1 := by
  unfold valN
  simp only [okv_bind_0, okv_pure_0]
theorem v_lst_0 : Okw (E.lst es).sm.v ρ post ↔ Okw (E.lst es).sm.n ρ fun fr ρ1 => post (.val fr.toD) ρ1 := okv_valN_0
theorem v_call_0 {F : Fn} : Okw (E.call F es ks).sm.v ρ post ↔ Okw (E.call F es ks).sm.n ρ fun fr ρ1 => post (.val fr.toD) ρ1 := okv_valN_0
theorem n_call_0 {F : Fn} : Okw (E.call F es ks).sm.n ρ pN ↔ Okw es.vs ρ fun hs ρ1 => Okw ks.vs ρ1 fun ls ρ2 => Okw (callF F (hs ++ ls)) ρ2 pN := by
  show Okw (callM F (appM _ _)) ρ pN ↔ _
  unfold callM appM
  simp only [okv_bind_0, okv_pure_0]
theorem okv_frzN_0 {f : Mo Hd} : Okw (frzN f) ρ pN ↔ Okw f ρ fun h ρ1 => Okw (freeze h) ρ1 fun d ρ2 => pN (.dat d) ρ2 := by
  unfold frzN
  simp only [okv_bind_0, okv_pure_0]
theorem v_isi_0 {t : Ty} : Okw (E.isi t a).sm.v ρ post ↔ Okw a.sm.v ρ fun h ρ1 => Sow (deref1 ρ1 h) fun x => Sow (isiD t x) fun k => post (.val (.bl k)) ρ1 := by
  show Okw (isiM _ _) ρ post ↔ _
  unfold isiM
  simp only [okv_bind_0, okv_deref_0, okv_lift_0, okv_pure_0]
theorem okv_biM_0 {fn : List D → Option D} {g : Mo (List Hd)} : Okw (biM fn g) ρ post ↔ Okw g ρ fun hs ρ1 => Sow (derefs1 ρ1 hs) fun ds => Sow (fn ds) fun d => post (.val d) ρ1 := by
  unfold biM
  simp only [okv_bind_0, okv_derefs_0, okv_lift_0, okv_pure_0]
theorem okv_callN_0 {fn : List D → Option D} {g : Mo (List Hd)} : Okw (callN fn g) ρ pN ↔ Okw g ρ fun hs ρ1 => Sow (derefs1 ρ1 hs) fun ds => Sow (fn ds) fun d => pN (freshL d) ρ1 := by
  unfold callN
  simp only [okv_bind_0, okv_derefs_0, okv_lift_0, okv_pure_0]
theorem freshL_toD_0 {d : D} : (freshL d).toD = d := by cases d <;> rfl
theorem v_bi_0 {q : Bi} : Okw (E.bi q es).sm.v ρ post ↔ Okw es.vs ρ fun hs ρ1 => Sow (derefs1 ρ1 hs) fun ds => Sow (q.fn ds) fun d => post (.val d) ρ1 := by
  by_cases h : q = .list
  · subst h
    show Okw (valN (callN listB2 es.vs)) ρ post ↔ _
    simp only [okv_valN_0, okv_callN_0, freshL_toD_0]
    rfl
  · by_cases h2 : q = .sorted
    · subst h2
      show Okw (valN (callN sortedB es.vs)) ρ post ↔ _
      simp only [okv_valN_0, okv_callN_0, freshL_toD_0]
      rfl
    · rw [sm_bi q es h h2]
      exact okv_biM_0
theorem v_sli_0 {lo hi : Oe} {post : Hd → En → Prop} : Okw (E.sli a lo hi).sm.v ρ post ↔ Okw a.sm.v ρ fun h ρ1 => Okw (prtM lo.v) ρ1 fun l ρ2 => Okw (prtM hi.v) ρ2 fun u ρ3 => Sow (deref1 ρ3 h) fun x => Sow (sliD x l u) fun d => post (.val d) ρ3 := by
  show Okw (sliM _ _ _) ρ post ↔ _
  unfold sliM
  simp only [okv_bind_0, okv_deref_0, okv_lift_0, okv_pure_0]
theorem prt_no_0 {p : Option Int → En → Prop} : Okw (prtM Oe.no.v) ρ p ↔ p none ρ := okv_pure_0
theorem prt_so_0 {p : Option Int → En → Prop} : Okw (prtM (Oe.so a).v) ρ p ↔ Okw a.sm.v ρ fun h ρ1 => Sow (deref1 ρ1 h) fun x => Itw x fun i => p (some i) ρ1 := by
  show Okw (prtM (some a.sm.v)) ρ p ↔ _
  unfold prtM
  simp only [okv_bind_0, okv_deref_0]
  refine iff_of_eq (congrArg _ (funext fun h => funext fun ρ1 => propext (exists_congr fun x => and_congr_right fun _ => ?_)))
  cases x <;> simp [Ifw, Chw, Bow, Itw, Sow, okv_pure_0, okv_lift_0, Itw]
theorem v_join_0 : Okw (E.join a b).sm.v ρ post ↔ Okw a.sm.v ρ fun h ρ1 => Sow (deref1 ρ1 h) fun x => isS x = true ∧ Okw b.sm.v ρ1 fun k ρ2 => Sow (deref1 ρ2 k) fun y => Sow (joinD x y) fun d => post (.val d) ρ2 := by
  show Okw (met1 _ _ _) ρ post ↔ _
  unfold met1
  simp only [okv_bind_0, okv_deref_0]
  refine iff_of_eq (congrArg _ (funext fun h => funext fun ρ1 => propext (exists_congr fun x => and_congr_right fun _ => ?_)))
  cases hs : isS x <;> simp [hs, Ifw, Chw, Bow, Itw, Sow, okv_bind_0, okv_deref_0, okv_lift_0, okv_pure_0]
theorem v_up_0 : Okw (E.up a).sm.v ρ post ↔ Okw a.sm.v ρ fun h ρ1 => Sow (deref1 ρ1 h) fun x => isS x = true ∧ Sow (upD x) fun d => post (.val d) ρ1 := by
  show Okw (met0 _ _) ρ post ↔ _
  unfold met0
  simp only [okv_bind_0, okv_deref_0]
  refine iff_of_eq (congrArg _ (funext fun h => funext fun ρ1 => propext (exists_congr fun x => and_congr_right fun _ => ?_)))
  cases hs : isS x <;> simp [hs, Ifw, Chw, Bow, Itw, Sow, okv_bind_0, okv_lift_0, okv_pure_0]
theorem v_dic_0 : Okw E.dic.sm.v ρ post ↔ post (.val (.dct [])) ρ := by
  show Okw (valN (Mo.pure (.new (.dct [])))) ρ post ↔ _
  rw [okv_valN_0, okv_pure_0]
  rfl
theorem n_dic_0 {p : Fr → En → Prop} : Okw E.dic.sm.n ρ p ↔ p (.new (.dct [])) ρ := okv_pure_0
end
section
variable {ρ : En} {a b c : E} {es ks : Es} {post : Hd → En → Prop} {pB : Bool → En → Prop} {pN : Fr → En → Prop} {pF : Fl → En → Prop}
/-! ### tests -/
theorem okv_tstB_0 {f : Mo Hd} : Okw (tstB f) ρ pB ↔ Okw f ρ fun h ρ1 => Bow h fun k => pB k ρ1 := by
  unfold tstB
  simp only [okv_bind_0]
  refine iff_of_eq (congrArg _ (funext fun h => funext fun ρ1 => ?_))
  cases h with
  | slot i => simp [Ifw, Chw, Bow, Itw, Sow, okv_lift_0, Bow]
  | val d => cases d <;> simp [Ifw, Chw, Bow, Itw, Sow, okv_pure_0, okv_lift_0, Bow]
theorem b_cmp_0 {o : Bop} : Okw (E.cmp o a b).sm.b ρ pB ↔ Okw (E.cmp o a b).sm.v ρ fun h ρ1 => Bow h fun k => pB k ρ1 := okv_tstB_0
theorem b_chain_0 {o o' : Bop} : Okw (E.chain o o' a b c).sm.b ρ pB ↔ Okw (E.chain o o' a b c).sm.v ρ fun h ρ1 => Bow h fun k => pB k ρ1 := okv_tstB_0
theorem b_and_0 : Okw (E.and a b).sm.b ρ pB ↔ Okw a.sm.b ρ fun k ρ1 => Ifw k (Okw b.sm.b ρ1 pB) (pB false ρ1) := by
  show Okw (andB _ _) ρ pB ↔ _
  unfold andB
  simp only [okv_bind_0]
  refine iff_of_eq (congrArg _ (funext fun k => funext fun ρ1 => ?_))
  cases k <;> simp [Ifw, Chw, Bow, Itw, Sow, okv_pure_0]
theorem b_or_0 : Okw (E.or a b).sm.b ρ pB ↔ Okw a.sm.b ρ fun k ρ1 => Ifw k (pB true ρ1) (Okw b.sm.b ρ1 pB) := by
  show Okw (orB _ _) ρ pB ↔ _
  unfold orB
  simp only [okv_bind_0]
  refine iff_of_eq (congrArg _ (funext fun k => funext fun ρ1 => ?_))
  cases k <;> simp [Ifw, Chw, Bow, Itw, Sow, okv_pure_0]
theorem b_not_0 : Okw (E.not a).sm.b ρ pB ↔ Okw a.sm.b ρ fun k ρ1 => pB (!k) ρ1 := by
  show Okw (notB _) ρ pB ↔ _
  unfold notB
  simp only [okv_bind_0, okv_pure_0]
theorem b_ite_0 : Okw (E.ite c a b).sm.b ρ pB ↔ Okw c.sm.b ρ fun k ρ1 => Ifw k (Okw a.sm.b ρ1 pB) (Okw b.sm.b ρ1 pB) := by
  show Okw (iteB _ _ _) ρ pB ↔ _
  unfold iteB
  simp only [okv_bind_0]
  refine iff_of_eq (congrArg _ (funext fun k => funext fun ρ1 => ?_))
  cases k <;> simp [Ifw, Chw, Bow, Itw, Sow]
/-- a test by its value -/
def Bv (e : E) : Prop := e.sm.b = valB e.sm.v
theorem b_val_0 {e : E} (h : Bv e) : Okw e.sm.b ρ pB ↔ Okw e.sm.v ρ fun h ρ1 => Sow (deref1 ρ1 h) fun x => Sow (truD x) fun k => pB k ρ1 := by
  rw [h]
  exact okv_valB_0
theorem b_var_0 {i : Nat} : Okw (E.var i).sm.b ρ pB ↔ Okw (E.var i).sm.v ρ fun h ρ1 => Sow (deref1 ρ1 h) fun x => Sow (truD x) fun k => pB k ρ1 := okv_valB_0
theorem b_con_0 {d : D} : Okw (E.con d).sm.b ρ pB ↔ Okw (E.con d).sm.v ρ fun h ρ1 => Sow (deref1 ρ1 h) fun x => Sow (truD x) fun k => pB k ρ1 := by
  show Okw (valB (Mo.pure (Hd.val d))) ρ pB ↔ Okw (Mo.pure (Hd.val d)) ρ _
  exact okv_valB_0
theorem b_isi_0 {t : Ty} : Okw (E.isi t a).sm.b ρ pB ↔ Okw (E.isi t a).sm.v ρ fun h ρ1 => Sow (deref1 ρ1 h) fun x => Sow (truD x) fun k => pB k ρ1 := okv_valB_0
theorem b_idx_0 : Okw (E.idx a b).sm.b ρ pB ↔ Okw (E.idx a b).sm.v ρ fun h ρ1 => Sow (deref1 ρ1 h) fun x => Sow (truD x) fun k => pB k ρ1 := okv_valB_0
theorem b_call_0 {F : Fn} : Okw (E.call F es ks).sm.b ρ pB ↔ Okw (E.call F es ks).sm.v ρ fun h ρ1 => Sow (deref1 ρ1 h) fun x => Sow (truD x) fun k => pB k ρ1 := okv_valB_0
theorem b_bi_0 {q : Bi} : Okw (E.bi q es).sm.b ρ pB ↔ Okw (E.bi q es).sm.v ρ fun h ρ1 => Sow (deref1 ρ1 h) fun x => Sow (truD x) fun k => pB k ρ1 := by
  by_cases h : q = .list
  · subst h
    exact okv_valB_0
  · by_cases h2 : q = .sorted
    · subst h2
      exact okv_valB_0
    · rw [sm_bi q es h h2]
      exact okv_valB_0

/-! ### results -/
def Nd (e : E) : Prop := e.sm.n = frzN e.sm.v
theorem n_dat_0 {e : E} (h : Nd e) : Okw e.sm.n ρ pN ↔ Okw e.sm.v ρ fun h ρ1 => Okw (freeze h) ρ1 fun d ρ2 => pN (.dat d) ρ2 := by
  rw [h]
  exact okv_frzN_0
theorem n_var_0 {i : Nat} : Okw (E.var i).sm.n ρ pN ↔ Okw (E.var i).sm.v ρ fun h ρ1 => Okw (freeze h) ρ1 fun d ρ2 => pN (.dat d) ρ2 := okv_frzN_0
theorem n_con_0 {d : D} : Okw (E.con d).sm.n ρ pN ↔ pN (.dat d) ρ := by
  show Okw (frzN (Mo.pure (Hd.val d))) ρ pN ↔ _
  rw [okv_frzN_0, okv_pure_0, okv_freeze_val_0]
theorem n_cmp_0 {o : Bop} : Okw (E.cmp o a b).sm.n ρ pN ↔ Okw (E.cmp o a b).sm.v ρ fun h ρ1 => Okw (freeze h) ρ1 fun d ρ2 => pN (.dat d) ρ2 := okv_frzN_0
theorem n_chain_0 {o o' : Bop} : Okw (E.chain o o' a b c).sm.n ρ pN ↔ Okw (E.chain o o' a b c).sm.v ρ fun h ρ1 => Okw (freeze h) ρ1 fun d ρ2 => pN (.dat d) ρ2 := okv_frzN_0
theorem n_not_0 : Okw (E.not a).sm.n ρ pN ↔ Okw (E.not a).sm.v ρ fun h ρ1 => Okw (freeze h) ρ1 fun d ρ2 => pN (.dat d) ρ2 := okv_frzN_0
theorem n_and_0 : Okw (E.and a b).sm.n ρ pN ↔ Okw (E.and a b).sm.v ρ fun h ρ1 => Okw (freeze h) ρ1 fun d ρ2 => pN (.dat d) ρ2 := okv_frzN_0
theorem n_or_0 : Okw (E.or a b).sm.n ρ pN ↔ Okw (E.or a b).sm.v ρ fun h ρ1 => Okw (freeze h) ρ1 fun d ρ2 => pN (.dat d) ρ2 := okv_frzN_0
theorem n_ite_0 : Okw (E.ite c a b).sm.n ρ pN ↔ Okw (E.ite c a b).sm.v ρ fun h ρ1 => Okw (freeze h) ρ1 fun d ρ2 => pN (.dat d) ρ2 := okv_frzN_0
theorem n_tup_0 : Okw (E.tup es).sm.n ρ pN ↔ Okw (E.tup es).sm.v ρ fun h ρ1 => Okw (freeze h) ρ1 fun d ρ2 => pN (.dat d) ρ2 := okv_frzN_0
theorem n_idx_0 : Okw (E.idx a b).sm.n ρ pN ↔ Okw (E.idx a b).sm.v ρ fun h ρ1 => Okw (freeze h) ρ1 fun d ρ2 => pN (.dat d) ρ2 := okv_frzN_0
theorem n_stp_0 : Okw (E.stp a b).sm.n ρ pN ↔ Okw (E.stp a b).sm.v ρ fun h ρ1 => Okw (freeze h) ρ1 fun d ρ2 => pN (.dat d) ρ2 := okv_frzN_0
theorem n_sli_0 {lo hi : Oe} : Okw (E.sli a lo hi).sm.n ρ pN ↔ Okw (E.sli a lo hi).sm.v ρ fun h ρ1 => Okw (freeze h) ρ1 fun d ρ2 => pN (.dat d) ρ2 := okv_frzN_0
theorem n_isi_0 {t : Ty} : Okw (E.isi t a).sm.n ρ pN ↔ Okw (E.isi t a).sm.v ρ fun h ρ1 => Okw (freeze h) ρ1 fun d ρ2 => pN (.dat d) ρ2 := okv_frzN_0
theorem n_join_0 : Okw (E.join a b).sm.n ρ pN ↔ Okw (E.join a b).sm.v ρ fun h ρ1 => Okw (freeze h) ρ1 fun d ρ2 => pN (.dat d) ρ2 := okv_frzN_0
theorem n_neg_0 : Okw (E.neg a).sm.n ρ pN ↔ Okw (E.neg a).sm.v ρ fun h ρ1 => Okw (freeze h) ρ1 fun d ρ2 => pN (.dat d) ρ2 := okv_frzN_0
theorem n_list_0 : Okw (E.bi .list es).sm.n ρ pN ↔ Okw es.vs ρ fun hs ρ1 => Sow (derefs1 ρ1 hs) fun ds => Sow (listB2 ds) fun d => pN (freshL d) ρ1 := okv_callN_0
theorem n_sorted_0 : Okw (E.bi .sorted es).sm.n ρ pN ↔ Okw es.vs ρ fun hs ρ1 => Sow (derefs1 ρ1 hs) fun ds => Sow (sortedB ds) fun d => pN (freshL d) ρ1 := okv_callN_0
theorem n_bi_0 {q : Bi} (h : q ≠ .list) (h2 : q ≠ .sorted) : Okw (E.bi q es).sm.n ρ pN ↔ Okw (E.bi q es).sm.v ρ fun h ρ1 => Okw (freeze h) ρ1 fun d ρ2 => pN (.dat d) ρ2 := by
  rw [sm_bi q es h h2]
  exact okv_frzN_0
theorem n_add_0 : Okw (E.op .add a b).sm.n ρ pN ↔ Okw a.sm.v ρ fun h ρ1 => Okw b.sm.v ρ1 fun k ρ2 => Sow (deref1 ρ2 h) fun x => Sow (deref1 ρ2 k) fun y => Sow (addD x y) fun d => pN (freshL d) ρ2 := by
  show Okw (opN _ _ _) ρ pN ↔ _
  unfold opN
  simp only [okv_bind_0, okv_deref_0, okv_lift_0, okv_pure_0]
theorem n_op_0 {o : Bop} (h : o ≠ .add) : Okw (E.op o a b).sm.n ρ pN ↔ Okw (E.op o a b).sm.v ρ fun h ρ1 => Okw (freeze h) ρ1 fun d ρ2 => pN (.dat d) ρ2 := by
  have e : (E.op o a b).sm.n = frzN (E.op o a b).sm.v := by cases o <;> first | rfl | exact absurd rfl h
  rw [e]
  exact okv_frzN_0
theorem n_mul_0 : Okw (E.op .mul a b).sm.n ρ pN ↔ Okw (E.op .mul a b).sm.v ρ fun h ρ1 => Okw (freeze h) ρ1 fun d ρ2 => pN (.dat d) ρ2 := okv_frzN_0
theorem n_mod_0 : Okw (E.op .mod a b).sm.n ρ pN ↔ Okw (E.op .mod a b).sm.v ρ fun h ρ1 => Okw (freeze h) ρ1 fun d ρ2 => pN (.dat d) ρ2 := okv_frzN_0
theorem n_fdiv_0 : Okw (E.op .fdiv a b).sm.n ρ pN ↔ Okw (E.op .fdiv a b).sm.v ρ fun h ρ1 => Okw (freeze h) ρ1 fun d ρ2 => pN (.dat d) ρ2 := okv_frzN_0
theorem n_sub_0 : Okw (E.op .sub a b).sm.n ρ pN ↔ Okw (E.op .sub a b).sm.v ρ fun h ρ1 => Okw (freeze h) ρ1 fun d ρ2 => pN (.dat d) ρ2 := okv_frzN_0
theorem v_lc_0 {it : Ie} {t : Tg} {own : List Nat} {o : Oe} : Okw (E.lc it t own o a).sm.v ρ post ↔ Okw (E.lc it t own o a).sm.n ρ fun fr ρ1 => post (.val fr.toD) ρ1 := okv_valN_0
/-- a comprehension, run -/
def Lcw (t : Tg) (own : List Nat) (c : Mo Bool) (e : Mo Hd) (ds : List D) (ρ : En) (p : List D → En → Prop) : Prop := plainAt ρ own = true ∧ ∃ vs ρ', lcL t own c e ds 0 (wipeE ρ own) = some (vs, ρ') ∧ p vs (unwipe ρ' ρ own)
theorem n_lc_0 {it : Ie} {t : Tg} {own : List Nat} {o : Oe} : Okw (E.lc it t own o a).sm.n ρ pN ↔ Okw it.ds ρ fun ds ρ1 => Lcw t own o.b a.sm.v ds ρ1 fun vs ρ2 => pN (.new (.lst vs)) ρ2 := by
  show Okw (lcM _ _ _ _ _) ρ pN ↔ _
  unfold lcM
  rw [okv_bind_0]
  refine iff_of_eq (congrArg _ (funext fun ds => funext fun ρ1 => propext ?_))
  constructor
  · rintro ⟨x, ρ', h, q⟩
    cases hp : plainAt ρ1 own with
    | false => simp [Ifw, Chw, Bow, Itw, Sow, hp] at h
    | true =>
      cases hl : lcL t own o.b a.sm.v ds 0 (wipeE ρ1 own) with
      | none => simp [Ifw, Chw, Bow, Itw, Sow, hp, hl] at h
      | some z =>
        simp [Ifw, Chw, Bow, Itw, Sow, hp, hl] at h
        obtain ⟨rfl, rfl⟩ := h
        exact ⟨hp, z.1, z.2, by rw [hl], q⟩
  · rintro ⟨hp, vs, ρ', hl, q⟩
    exact ⟨_, _, by simp [Ifw, Chw, Bow, Itw, Sow, hp, hl], q⟩
theorem ds_seq_0 : ∀ {p : List D → En → Prop}, Okw (Ie.seq a).ds ρ p ↔ Okw a.sm.v ρ fun h ρ1 => Okw (freeze h) ρ1 fun d ρ2 => Sow (seqD d) fun ds => p ds ρ2 := fun {p} => by
  show Okw (seqM _) ρ p ↔ _
  unfold seqM
  simp only [okv_bind_0, okv_lift_0]
theorem okv_itM_0 {k : List D → Option (List D)} {g : Mo (List Hd)} {p : List D → En → Prop} : Okw (itM k g) ρ p ↔ Okw g ρ fun hs ρ1 => Okw (freezes hs) ρ1 fun ds ρ2 => Sow (k ds) fun es => p es ρ2 := by
  unfold itM
  simp only [okv_bind_0, okv_lift_0]
theorem ds_rng1_0 {p : List D → En → Prop} : Okw (Ie.rng1 es).ds ρ p ↔ Okw es.vs ρ fun hs ρ1 => Okw (freezes hs) ρ1 fun ds ρ2 => Sow (rngK1 ds) fun es => p es ρ2 := okv_itM_0
theorem ds_rng2_0 {p : List D → En → Prop} : Okw (Ie.rng2 es).ds ρ p ↔ Okw es.vs ρ fun hs ρ1 => Okw (freezes hs) ρ1 fun ds ρ2 => Sow (rngK2 ds) fun es => p es ρ2 := okv_itM_0
theorem ds_enum_0 {p : List D → En → Prop} : Okw (Ie.enum es).ds ρ p ↔ Okw es.vs ρ fun hs ρ1 => Okw (freezes hs) ρ1 fun ds ρ2 => Sow (enumK ds) fun es => p es ρ2 := okv_itM_0
theorem ds_zip_0 {p : List D → En → Prop} : Okw (Ie.zip es).ds ρ p ↔ Okw es.vs ρ fun hs ρ1 => Okw (freezes hs) ρ1 fun ds ρ2 => Sow (zipK ds) fun es => p es ρ2 := okv_itM_0

/-! ### statements -/
theorem okv_just_0 {α : Type} {a : α} {ρ' : En} {p : α → En → Prop} : Okw (fun _ => some (.ok a ρ')) ρ p ↔ p a ρ' := by
  constructor
  · rintro ⟨x, ρ2, h, q⟩
    cases h
    exact q
  · exact fun h => ⟨a, ρ', rfl, h⟩
theorem okv_f_0 {α : Type} {f : Mo α} {a : α} {ρ' : En} {p : α → En → Prop} (e : f ρ = some (.ok a ρ')) : Okw f ρ p ↔ p a ρ' := by
  constructor
  · rintro ⟨x, ρ2, h, q⟩
    rw [e] at h
    cases h
    exact q
  · exact fun h => ⟨a, ρ', e, h⟩
theorem ss_nil_0 : Okw Ss.nil.ms ρ pF ↔ pF .nx ρ := okv_f_0 rfl
theorem ss_cons_0 {s : S} {ss : Ss} : Okw (Ss.cons s ss).ms ρ pF ↔ Okw s.ms ρ fun fl ρ1 => Seqw fl (Okw ss.ms ρ1 pF) (pF fl ρ1) := by
  show Okw (seqS _ _) ρ pF ↔ _
  constructor
  · rintro ⟨x, ρ2, h, q⟩
    unfold seqS at h
    cases h1 : s.ms ρ with
    | none => simp [Ifw, Chw, Bow, Itw, Sow, h1] at h
    | some r =>
      cases r with
      | ex x ρ1 => simp [Ifw, Chw, Bow, Itw, Sow, h1] at h
      | ok fl ρ1 =>
        cases fl with
        | nx =>
          simp [Ifw, Chw, Bow, Itw, Sow, h1] at h
          exact ⟨.nx, ρ1, h1, .inl ⟨rfl, x, ρ2, h, q⟩⟩
        | _ =>
          simp [Ifw, Chw, Bow, Itw, Sow, h1] at h
          obtain ⟨rfl, rfl⟩ := h
          exact ⟨_, _, h1, .inr ⟨by simp, q⟩⟩
  · rintro ⟨fl, ρ1, h1, ⟨rfl, x, ρ2, h2, q⟩ | ⟨h2, q⟩⟩
    · exact ⟨x, ρ2, by simp [Ifw, Chw, Bow, Itw, Sow, seqS, h1, h2], q⟩
    · refine ⟨fl, ρ1, ?_, q⟩
      cases fl <;> simp [Ifw, Chw, Bow, Itw, Sow, seqS, h1] at h2 ⊢
theorem s_asg_0 {i : Nat} : Okw (S.asg i a).ms ρ pF ↔ Okw a.sm.n ρ fun fr ρ1 => pF .nx (ρ1.set i (slotOf fr)) := by
  show Okw (Mo.bind _ _) ρ pF ↔ _
  rw [okv_bind_0]
  exact iff_of_eq (congrArg _ (funext fun fr => funext fun ρ1 => propext (okv_f_0 rfl)))
theorem s_ret_0 : Okw (S.ret a).ms ρ pF ↔ Okw a.sm.n ρ fun fr ρ1 => pF (.rt fr) ρ1 := by
  show Okw (Mo.bind _ _) ρ pF ↔ _
  rw [okv_bind_0]
  exact iff_of_eq (congrArg _ (funext fun fr => funext fun ρ1 => propext (okv_f_0 rfl)))
theorem s_expr_0 : Okw (S.expr a).ms ρ pF ↔ Okw a.sm.v ρ fun _ ρ1 => pF .nx ρ1 := by
  show Okw (Mo.bind _ _) ρ pF ↔ _
  rw [okv_bind_0]
  exact iff_of_eq (congrArg _ (funext fun fr => funext fun ρ1 => propext (okv_f_0 rfl)))
theorem okv_map_0 {α : Type} {o : Option En} {f : En → R3 α} {p : α → En → Prop} {x : α} (hf : ∀ e, f e = .ok x e) : Okw (fun _ => o.map f) ρ p ↔ ∃ ρ', o = some ρ' ∧ p x ρ' := by
  constructor
  · rintro ⟨y, ρ2, h, q⟩
    obtain ⟨e, h1, h2⟩ := map_some h
    rw [hf] at h2
    cases h2
    exact ⟨_, h1, q⟩
  · rintro ⟨ρ', rfl, q⟩
    exact ⟨x, ρ', by simp [Ifw, Chw, Bow, Itw, Sow, hf], q⟩
theorem s_asgT_0 {t : Tg} : Okw (S.asgT t a).ms ρ pF ↔ Okw a.sm.v ρ fun h ρ1 => Okw (freeze h) ρ1 fun d ρ2 => Sow (setT t d ρ2) fun ρ3 => pF .nx ρ3 := by
  show Okw (Mo.bind _ fun h => Mo.bind _ _) ρ pF ↔ _
  simp only [okv_bind_0]
  refine iff_of_eq (congrArg _ (funext fun h => funext fun ρ1 => congrArg _ (funext fun d => funext fun ρ2 => propext ?_)))
  constructor
  · rintro ⟨y, ρ3, h, q⟩
    obtain ⟨e, h1, h2⟩ := map_some h
    cases h2
    exact ⟨_, h1, q⟩
  · rintro ⟨ρ', h1, q⟩
    exact ⟨.nx, ρ', by simp [Ifw, Chw, Bow, Itw, Sow, h1], q⟩
theorem s_par_0 {is : List Nat} : Okw (S.par is es).ms ρ pF ↔ Okw es.ns ρ fun frs ρ1 => frs.length = is.length ∧ pF .nx (setAll ρ1 is frs) := by
  show Okw (Mo.bind _ _) ρ pF ↔ _
  rw [okv_bind_0]
  refine iff_of_eq (congrArg _ (funext fun frs => funext fun ρ1 => propext ?_))
  constructor
  · rintro ⟨y, ρ3, h, q⟩
    cases hl : frs.length == is.length with
    | false => simp [Ifw, Chw, Bow, Itw, Sow, hl] at h
    | true =>
      simp only [hl] at h
      cases h
      exact ⟨eq_of_beq hl, q⟩
  · rintro ⟨h1, q⟩
    exact ⟨.nx, _, by simp [Ifw, Chw, Bow, Itw, Sow, h1], q⟩
theorem s_retV_0 {i : Nat} : Okw (S.retV i).ms ρ pF ↔ Rtw ρ[i]? fun fr => pF (.rt fr) ρ := by
  show Okw (Mi.retV i) ρ pF ↔ _
  constructor
  · rintro ⟨y, ρ3, h, q⟩
    unfold Mi.retV at h
    split at h
    · rename_i d hs
      cases h
      rw [hs]
      exact q
    · rename_i o hs
      cases h
      rw [hs]
      exact q
    · cases h
  · intro h
    unfold Rtw at h
    split at h
    · rename_i d hs
      exact ⟨_, ρ, by simp [Ifw, Chw, Bow, Itw, Sow, Mi.retV, hs], h⟩
    · rename_i o hs
      exact ⟨_, ρ, by simp [Ifw, Chw, Bow, Itw, Sow, Mi.retV, hs], h⟩
    · exact h.elim
theorem s_ite_0 {s t : Ss} : Okw (S.ite c s t).ms ρ pF ↔ Okw c.sm.b ρ fun k ρ1 => Ifw k (Okw s.ms ρ1 pF) (Okw t.ms ρ1 pF) := by
  show Okw (ifM _ _ _) ρ pF ↔ _
  unfold ifM
  rw [okv_bind_0]
  refine iff_of_eq (congrArg _ (funext fun k => funext fun ρ1 => ?_))
  cases k <;> simp [Ifw, Chw, Bow, Itw, Sow]
theorem s_for_0 {it : Ie} {t : Tg} {s : Ss} : Okw (S.for it t s).ms ρ pF ↔ Okw it.ds ρ fun ds ρ1 => Okw (forL t s.ms ds) ρ1 pF := by
  show Okw (Mo.bind _ _) ρ pF ↔ _
  rw [okv_bind_0]
theorem for_nil_0 {t : Tg} {f : Ms} : Okw (forL t f []) ρ pF ↔ pF .nx ρ := okv_f_0 rfl
theorem for_cons_0 {t : Tg} {f : Ms} {d : D} {ds : List D} (h : Sow (setT t d ρ) fun ρ1 => Okw f ρ1 fun fl ρ2 => ((fl = .nx ∨ fl = .ct) ∧ Okw (forL t f ds) ρ2 pF) ∨ (fl = .bk ∧ pF .nx ρ2) ∨ ∃ r, fl = .rt r ∧ pF (.rt r) ρ2) : Okw (forL t f (d :: ds)) ρ pF := by
  obtain ⟨ρ1, h1, fl, ρ2, h2, h3⟩ := h
  rcases h3 with ⟨rfl | rfl, x, ρ3, h4, q⟩ | ⟨rfl, q⟩ | ⟨r, rfl, q⟩
  · exact ⟨x, ρ3, by simp [Ifw, Chw, Bow, Itw, Sow, forL, h1, h2, h4], q⟩
  · exact ⟨x, ρ3, by simp [Ifw, Chw, Bow, Itw, Sow, forL, h1, h2, h4], q⟩
  · exact ⟨_, ρ2, by simp [Ifw, Chw, Bow, Itw, Sow, forL, h1, h2], q⟩
  · exact ⟨_, ρ2, by simp [Ifw, Chw, Bow, Itw, Sow, forL, h1, h2], q⟩
/-- a loop that goes through -/
theorem for_inv_0 {t : Tg} {f : Ms} (P : List D → En → Prop) : ∀ {ds : List D} {ρ : En}, P ds ρ → (∀ d ds ρ, P (d :: ds) ρ → Sow (setT t d ρ) fun ρ1 => Okw f ρ1 fun fl ρ2 => (fl = .nx ∨ fl = .ct) ∧ P ds ρ2) → (∀ ρ, P [] ρ → pF .nx ρ) → Okw (forL t f ds) ρ pF
  | [], ρ, h0, hs, hd => for_nil_0.mpr (hd ρ h0)
  | d :: ds, ρ, h0, hs, hd => by
    obtain ⟨ρ1, h1, h2⟩ := hs d ds ρ h0
    exact for_cons_0 ⟨ρ1, h1, okv_imp_0 h2 fun fl ρ2 ⟨h3, h4⟩ => .inl ⟨h3, for_inv_0 P h4 hs hd⟩⟩
theorem v_app_0 {i : Nat} : Okw (E.app i a).sm.v ρ post ↔ (∃ l ds, ρ[i]? = some (.own l (.lst ds))) ∧ Okw a.sm.v ρ fun h ρ1 => Okw (freeze h) ρ1 fun d ρ2 => ∃ l ds, ρ2[i]? = some (.own l (.lst ds)) ∧ ds.length < sizeLine ∧ post (.val .non) (ρ2.set i (.own l (.lst (ds ++ [d])))) := by
  show Okw (apM i a.sm.v) ρ post ↔ _
  constructor
  · rintro ⟨x, ρ', h, q⟩
    unfold apM at h
    split at h
    · rename_i l ds h0
      refine ⟨⟨l, ds, h0⟩, ?_⟩
      have : Okw (Mo.bind a.sm.v fun h => Mo.bind (freeze h) fun d ρ => match ρ[i]? with
        | some (.own l (.lst ds)) => match decide (ds.length < sizeLine) with
          | true => some (.ok (Hd.val .non) (ρ.set i (.own l (.lst (ds ++ [d])))))
          | false => none
        | _ => none) ρ post := ⟨x, ρ', h, q⟩
      simp only [okv_bind_0] at this
      refine okv_imp_0 this fun h ρ1 this => okv_imp_0 this fun d ρ2 ⟨x, ρ', h, q⟩ => ?_
      dsimp only at h
      split at h
      · rename_i l ds h1
        by_cases hz : ds.length < sizeLine
        · simp [Ifw, Chw, Bow, Itw, Sow, hz] at h
          obtain ⟨rfl, rfl⟩ := h
          exact ⟨l, ds, h1, hz, q⟩
        · simp [Ifw, Chw, Bow, Itw, Sow, hz] at h
      · cases h
    · cases h
  · rintro ⟨⟨l, ds, h0⟩, h⟩
    have : Okw (Mo.bind a.sm.v fun h => Mo.bind (freeze h) fun d ρ => match ρ[i]? with
        | some (.own l (.lst ds)) => match decide (ds.length < sizeLine) with
          | true => some (.ok (Hd.val .non) (ρ.set i (.own l (.lst (ds ++ [d])))))
          | false => none
        | _ => none) ρ post := by
      simp only [okv_bind_0]
      refine okv_imp_0 h fun h ρ1 this => okv_imp_0 this fun d ρ2 ⟨l, ds, h1, hz, q⟩ => ?_
      exact ⟨.val .non, _, by simp [Ifw, Chw, Bow, Itw, Sow, h1, hz], q⟩
    obtain ⟨x, ρ', h1, q⟩ := this
    refine ⟨x, ρ', ?_, q⟩
    unfold apM
    rw [h0]
    exact h1
theorem s_set_0 {i : Nat} (h0 : ∃ l ds, ρ[i]? = some (.own l (.lst ds))) (h : Okw a.sm.v ρ fun h ρ1 => Okw (freeze h) ρ1 fun d ρ2 => (∃ l ds, ρ2[i]? = some (.own l (.lst ds))) ∧ Okw b.sm.v ρ2 fun h2 ρ3 => ∃ k, deref1 ρ3 h2 = some (.int k) ∧ ∃ l ds j, ρ3[i]? = some (.own l (.lst ds)) ∧ ixN ds.length k = some j ∧ pF .nx (ρ3.set i (.own l (.lst (ds.set j d))))) : Okw (S.set i b a).ms ρ pF := by
  show Okw (setM2 i a.sm.v b.sm.v) ρ pF
  unfold setM2
  simp only [okv_bind_0]
  refine okv_imp_0 h fun h ρ1 this => okv_imp_0 this fun d ρ2 ⟨⟨l, ds, h1⟩, this⟩ => ?_
  obtain ⟨x, ρ', e2, q⟩ : Okw (Mo.bind b.sm.v fun h2 => Mo.bind (deref h2) (setK i d)) ρ2 pF := by
    simp only [okv_bind_0, okv_deref_0]
    refine okv_imp_0 this fun h2 ρ3 ⟨k, h3, l, ds, j, h4, h5, q⟩ => ⟨.int k, h3, .nx, _, ?_, q⟩
    simp only [setK, h4, h5]
  refine ⟨x, ρ', ?_, q⟩
  simp only [h1]
  exact e2
/-- d[k] = e -/
theorem s_setD_0 {i : Nat} (h : Okw a.sm.v ρ fun h ρ1 => Okw (freeze h) ρ1 fun d ρ2 => (∃ l ds, ρ2[i]? = some (.own l (.dct ds))) ∧ Okw b.sm.v ρ2 fun h2 ρ3 => ∃ k kk, deref1 ρ3 h2 = some k ∧ kD k = some kk ∧ ∃ l ds, ρ3[i]? = some (.own l (.dct ds)) ∧ ds.length < sizeLine ∧ pF .nx (ρ3.set i (.own l (.dct (putD ds k kk d))))) : Okw (S.set i b a).ms ρ pF := by
  show Okw (setM2 i a.sm.v b.sm.v) ρ pF
  unfold setM2
  simp only [okv_bind_0]
  refine okv_imp_0 h fun h ρ1 this => okv_imp_0 this fun d ρ2 ⟨⟨l, ds, h1⟩, this⟩ => ?_
  obtain ⟨x, ρ', e2, q⟩ : Okw (Mo.bind b.sm.v fun h2 => Mo.bind (deref h2) (setK i d)) ρ2 pF := by
    simp only [okv_bind_0, okv_deref_0]
    refine okv_imp_0 this fun h2 ρ3 ⟨k, kk, h3, h6, l, ds, h4, h5, q⟩ => ⟨k, h3, .nx, _, ?_, q⟩
    simp only [setK, h4, h6, h5, if_true]
  refine ⟨x, ρ', ?_, q⟩
  simp only [h1]
  exact e2
theorem s_aug_0 {i : Nat} {o : Aop} {x : Int} (h0 : ρ[i]? = some (.v (.int x))) : Okw (S.aug i o a).ms ρ pF ↔ Okw a.sm.v ρ fun h ρ1 => ∃ y, deref1 ρ1 h = some (.int y) ∧ pF .nx (ρ1.set i (.v (.int (o.f x y)))) := by
  have e : (S.aug i o a).ms ρ = (Mo.bind a.sm.v fun h => Mo.bind (deref h) fun d ρ => match d with
    | .int b => some (.ok Fl.nx (ρ.set i (.v (.int (o.f x b)))))
    | _ => none) ρ := by
    show augM i o.f a.sm.v ρ = _
    unfold augM
    rw [h0]
    all_goals rfl
  have e2 : Okw (S.aug i o a).ms ρ pF ↔ Okw (Mo.bind a.sm.v fun h => Mo.bind (deref h) fun d ρ => match d with
    | .int b => some (.ok Fl.nx (ρ.set i (.v (.int (o.f x b)))))
    | _ => none) ρ pF := by
    unfold Okw
    rw [e]
  rw [e2]
  simp only [okv_bind_0, okv_deref_0]
  refine iff_of_eq (congrArg _ (funext fun h => funext fun ρ1 => propext ?_))
  constructor
  · rintro ⟨d, h1, y, ρ2, h2, q⟩
    cases d with
    | int b =>
      cases h2
      exact ⟨b, h1, q⟩
    | _ => cases h2
  · rintro ⟨y, h1, q⟩
    exact ⟨_, h1, _, _, rfl, q⟩
end

/-! ### functions -/
def Fow (F : Fn) (sl : List Sl) (p : Fr → List Sl → Prop) : Prop := ∃ fr sl', F sl = some (.ok fr sl') ∧ p fr sl'
theorem okv_callF'_0 {F : Fn} {hs : List Hd} {ρ : En} {post : Fr → En → Prop} : Okw (callF F hs) ρ post ↔ Sow (cal F hs ρ) fun sl => Fow F sl fun fr sl' => ∃ ρ', back ρ hs sl' = some ρ' ∧ post fr ρ' := by
  rw [okv_callF_0]
  constructor
  · rintro ⟨sl, fr, sl', ρ', h1, h2, h3, h4⟩
    exact ⟨sl, h1, fr, sl', h2, ρ', h3, h4⟩
  · rintro ⟨sl, h1, fr, sl', h2, ρ', h3, h4⟩
    exact ⟨sl, fr, sl', ρ', h1, h2, h3, h4⟩
theorem fok_imp_0 {F : Fn} {sl : List Sl} {p q : Fr → List Sl → Prop} (h : Fow F sl p) (i : ∀ fr sl', p fr sl' → q fr sl') : Fow F sl q := by
  obtain ⟨fr, sl', h1, h2⟩ := h
  exact ⟨fr, sl', h1, i _ _ h2⟩
theorem fok_run_0 {n np : Nat} {f : Ms} {sl : List Sl} {p : Fr → List Sl → Prop} (h1 : sl.length = np) (h2 : sl.all isLent = true)
    (h : Okw f (sl ++ List.replicate (n - np) .no) fun fl ρ => Sow (outSl sl ρ) fun r => ((fl = .nx ∧ p (.dat .non) r) ∨ ∃ fr, fl = .rt fr ∧ p fr r)) : Fow (runF n np f) sl p := by
  obtain ⟨fl, ρ, h3, r, h4, h5⟩ := h
  have e : (sl.length == np && sl.all isLent) = true := by simp [Ifw, Chw, Bow, Itw, Sow, h1, h2]
  rcases h5 with ⟨rfl, q⟩ | ⟨fr, rfl, q⟩
  · exact ⟨_, r, by simp only [runF, e, h3, h4]; rfl, q⟩
  · exact ⟨fr, r, by simp only [runF, e, h3, h4]; rfl, q⟩
theorem fok_eq_0 {F : Fn} {sl sl' : List Sl} {fr : Fr} {p : Fr → List Sl → Prop} (e : F sl = some (.ok fr sl')) : Fow F sl p ↔ p fr sl' := by
  constructor
  · rintro ⟨a, b, h, q⟩
    rw [e] at h
    cases h
    exact q
  · exact fun h => ⟨fr, sl', e, h⟩
theorem eq_fok_0 {F : Fn} {sl sl' : List Sl} {fr : Fr} (h : Fow F sl fun a b => a = fr ∧ b = sl') : F sl = some (.ok fr sl') := by
  obtain ⟨a, b, h1, rfl, rfl⟩ := h
  exact h1
end Mi
set_option Elab.async false
set_option linter.all false
set_option maxRecDepth 100000
set_option maxHeartbeats 2000000
/-! P1: the same, told so that only the next step is looked at -/
namespace Mi
open PySem L2

/-- what hangs on it stays as it is -/
structure Tag {α : Type} (a : α) : Type where
def Okv {α : Type} (m : Mo α) (ρ : En) (post : α → En → Prop) (t : Tag post := ⟨⟩) : Prop := Okw m ρ post
def Som {α : Type} (o : Option α) (k : α → Prop) (t : Tag k := ⟨⟩) : Prop := Sow o k
def Ifb (b : Bool) (A B : Prop) (t : Tag A := ⟨⟩) (u : Tag B := ⟨⟩) : Prop := Ifw b A B
def Bol (h : Hd) (k : Bool → Prop) (t : Tag k := ⟨⟩) : Prop := Bow h k
def Itg (d : D) (k : Int → Prop) (t : Tag k := ⟨⟩) : Prop := Itw d k
def Chn (z : D) (A B : Prop) (t : Tag A := ⟨⟩) (u : Tag B := ⟨⟩) : Prop := Chw z A B
def Seqf (fl : Fl) (A B : Prop) (t : Tag A := ⟨⟩) (u : Tag B := ⟨⟩) : Prop := Seqw fl A B
def Rtv (s : Option Sl) (k : Fr → Prop) (t : Tag k := ⟨⟩) : Prop := Rtw s k
def Lc (t : Tg) (own : List Nat) (c : Mo Bool) (e : Mo Hd) (ds : List D) (ρ : En) (p : List D → En → Prop) (u : Tag p := ⟨⟩) : Prop := Lcw t own c e ds ρ p
def Fok (F : Fn) (sl : List Sl) (p : Fr → List Sl → Prop) (t : Tag p := ⟨⟩) : Prop := Fow F sl p
@[simp] theorem som_some {α : Type} {a : α} {k : α → Prop} : Som (some a) k ↔ k a := by simp [Som, Sow]
@[simp] theorem som_none {α : Type} {k : α → Prop} : Som none k ↔ False := by simp [Som, Sow]
@[simp] theorem ifb_t {A B : Prop} : Ifb true A B ↔ A := by simp [Ifb, Ifw]
@[simp] theorem ifb_f {A B : Prop} : Ifb false A B ↔ B := by simp [Ifb, Ifw]
@[simp] theorem bol_b {b : Bool} {k : Bool → Prop} : Bol (.val (.bl b)) k ↔ k b := by simp [Bol, Bow]
@[simp] theorem itg_i {i : Int} {k : Int → Prop} : Itg (.int i) k ↔ k i := by simp [Itg, Itw]
@[simp] theorem chn_b {b : Bool} {A B : Prop} : Chn (.bl b) A B ↔ Ifb b B A := by cases b <;> simp [Chn, Chw]
@[simp] theorem seqf_n {A B : Prop} : Seqf .nx A B ↔ A := by simp [Seqf, Seqw]
@[simp] theorem seqf_r {A B : Prop} {fr : Fr} : Seqf (.rt fr) A B ↔ B := by simp [Seqf, Seqw]
@[simp] theorem seqf_b {A B : Prop} : Seqf .bk A B ↔ B := by simp [Seqf, Seqw]
@[simp] theorem seqf_c {A B : Prop} : Seqf .ct A B ↔ B := by simp [Seqf, Seqw]
@[simp] theorem rtv_v {d : D} {k : Fr → Prop} : Rtv (some (.v d)) k ↔ k (.dat d) := Iff.rfl
@[simp] theorem rtv_o {o : Ow} {k : Fr → Prop} : Rtv (some (.own false o)) k ↔ k (.new o) := Iff.rfl
section
variable {α β : Type} {ρ : En} {post : β → En → Prop}
theorem okv_bind {m : Mo α} {k : α → Mo β} : Okv (Mo.bind m k) ρ post ↔ Okv m ρ fun a ρ' => Okv (k a) ρ' post := okv_bind_0
theorem okv_pure {a : β} : Okv (Mo.pure a) ρ post ↔ post a ρ := okv_pure_0
theorem okv_lift {o : Option β} : Okv (Mo.lift o) ρ post ↔ Som (o) fun a => post a ρ := okv_lift_0
theorem okv_imp {m : Mo β} {post' : β → En → Prop} (h : Okv m ρ post) (i : ∀ a ρ', post a ρ' → post' a ρ') : Okv m ρ post' := okv_imp_0 h i
end
section
variable {ρ : En}
theorem okv_deref {h : Hd} {post : D → En → Prop} : Okv (deref h) ρ post ↔ Som (deref1 ρ h) fun d => post d ρ := okv_deref_0
theorem okv_derefs {h : List Hd} {post : List D → En → Prop} : Okv (derefs h) ρ post ↔ Som (derefs1 ρ h) fun d => post d ρ := okv_derefs_0
@[simp] theorem okv_freeze_val {d : D} {post : D → En → Prop} : Okv (freeze (.val d)) ρ post ↔ post d ρ := okv_freeze_val_0
@[simp] theorem okv_freeze_slot {i : Nat} {post : D → En → Prop} : Okv (freeze (.slot i)) ρ post ↔ Som (frz1 ρ i) fun p => post p.1 p.2 := okv_freeze_slot_0
@[simp] theorem okv_freezes_nil {post : List D → En → Prop} : Okv (freezes []) ρ post ↔ post [] ρ := okv_freezes_nil_0
@[simp] theorem okv_freezes_cons {h : Hd} {hs : List Hd} {post : List D → En → Prop} : Okv (freezes (h :: hs)) ρ post ↔ Okv (freeze h) ρ fun d ρ1 => Okv (freezes hs) ρ1 fun ds ρ2 => post (d :: ds) ρ2 := okv_freezes_cons_0
theorem okv_readVar {i : Nat} {post : Hd → En → Prop} : Okv (readVar i) ρ post ↔ Som (rdv ρ i) fun h => post h ρ := okv_readVar_0
theorem okv_callF {F : Fn} {hs : List Hd} {post : Fr → En → Prop} : Okv (callF F hs) ρ post ↔ ∃ sl fr sl' ρ', cal F hs ρ = some sl ∧ F sl = some (.ok fr sl') ∧ back ρ hs sl' = some ρ' ∧ post fr ρ' := okv_callF_0
variable {a b c : E} {post : Hd → En → Prop} {pB : Bool → En → Prop} {pN : Fr → En → Prop}
@[simp] theorem v_var {i : Nat} : Okv (E.var i).sm.v ρ post ↔ Som (rdv ρ i) fun h => post h ρ := v_var_0
@[simp] theorem v_con {d : D} : Okv (E.con d).sm.v ρ post ↔ post (.val d) ρ := v_con_0
theorem okv_opM {op : D → D → Option D} {f g : Mo Hd} : Okv (opM op f g) ρ post ↔ Okv f ρ fun h ρ1 => Okv g ρ1 fun k ρ2 => Som (deref1 ρ2 h) fun x => Som (deref1 ρ2 k) fun y => Som (op x y) fun d => post (.val d) ρ2 := okv_opM_0
@[simp] theorem v_op {o : Bop} : Okv (E.op o a b).sm.v ρ post ↔ Okv a.sm.v ρ fun h ρ1 => Okv b.sm.v ρ1 fun k ρ2 => Som (deref1 ρ2 h) fun x => Som (deref1 ρ2 k) fun y => Som (o.op x y) fun d => post (.val d) ρ2 := v_op_0
@[simp] theorem v_cmp {o : Bop} : Okv (E.cmp o a b).sm.v ρ post ↔ Okv a.sm.v ρ fun h ρ1 => Okv b.sm.v ρ1 fun k ρ2 => Som (deref1 ρ2 h) fun x => Som (deref1 ρ2 k) fun y => Som (o.op x y) fun d => post (.val d) ρ2 := v_cmp_0
@[simp] theorem v_idx : Okv (E.idx a b).sm.v ρ post ↔ Okv a.sm.v ρ fun h ρ1 => Okv b.sm.v ρ1 fun k ρ2 => Som (deref1 ρ2 h) fun x => Som (deref1 ρ2 k) fun y => Som (idxDD x y) fun d => post (.val d) ρ2 := v_idx_0
@[simp] theorem v_stp : Okv (E.stp a b).sm.v ρ post ↔ Okv a.sm.v ρ fun h ρ1 => Okv b.sm.v ρ1 fun k ρ2 => Som (deref1 ρ2 h) fun x => Som (deref1 ρ2 k) fun y => Som (stpD x y) fun d => post (.val d) ρ2 := v_stp_0
@[simp] theorem v_chain {o o' : Bop} : Okv (E.chain o o' a b c).sm.v ρ post ↔ Okv a.sm.v ρ fun h ρ1 => Okv b.sm.v ρ1 fun k ρ2 => Som (deref1 ρ2 h) fun x => Som (deref1 ρ2 k) fun y => Som (o.op x y) fun z => Chn z (post (.val (.bl false)) ρ2) (Okv c.sm.v ρ2 fun l ρ3 => Som (deref1 ρ3 k) fun y => Som (deref1 ρ3 l) fun w => Som (o'.op y w) fun d => post (.val d) ρ3) := v_chain_0
@[simp] theorem v_neg : Okv (E.neg a).sm.v ρ post ↔ Okv a.sm.v ρ fun h ρ1 => Som (deref1 ρ1 h) fun x => Som (negD x) fun d => post (.val d) ρ1 := v_neg_0
theorem okv_valB {f : Mo Hd} : Okv (valB f) ρ pB ↔ Okv f ρ fun h ρ1 => Som (deref1 ρ1 h) fun x => Som (truD x) fun k => pB k ρ1 := okv_valB_0
@[simp] theorem v_not : Okv (E.not a).sm.v ρ post ↔ Okv a.sm.v ρ fun h ρ1 => Som (deref1 ρ1 h) fun x => Som (truD x) fun k => post (.val (.bl (!k))) ρ1 := v_not_0
@[simp] theorem v_and : Okv (E.and a b).sm.v ρ post ↔ Okv a.sm.v ρ fun h ρ1 => Som (deref1 ρ1 h) fun x => Som (truD x) fun k => Ifb k (Okv b.sm.v ρ1 post) (post h ρ1) := v_and_0
@[simp] theorem v_or : Okv (E.or a b).sm.v ρ post ↔ Okv a.sm.v ρ fun h ρ1 => Som (deref1 ρ1 h) fun x => Som (truD x) fun k => Ifb k (post h ρ1) (Okv b.sm.v ρ1 post) := v_or_0
@[simp] theorem v_ite : Okv (E.ite c a b).sm.v ρ post ↔ Okv c.sm.b ρ fun k ρ1 => Ifb k (Okv a.sm.v ρ1 post) (Okv b.sm.v ρ1 post) := v_ite_0
variable {es ks : Es} {pS : List Hd → En → Prop}
@[simp] theorem vs_nil : Okv Es.nil.vs ρ pS ↔ pS [] ρ := vs_nil_0
@[simp] theorem vs_cons : Okv (Es.cons a es).vs ρ pS ↔ Okv a.sm.v ρ fun h ρ1 => Okv es.vs ρ1 fun hs ρ2 => pS (h :: hs) ρ2 := vs_cons_0
@[simp] theorem ns_nil {p : List Fr → En → Prop} : Okv Es.nil.ns ρ p ↔ p [] ρ := ns_nil_0
@[simp] theorem ns_cons {p : List Fr → En → Prop} : Okv (Es.cons a es).ns ρ p ↔ Okv a.sm.n ρ fun h ρ1 => Okv es.ns ρ1 fun hs ρ2 => p (h :: hs) ρ2 := ns_cons_0
@[simp] theorem v_tup : Okv (E.tup es).sm.v ρ post ↔ Okv es.vs ρ fun hs ρ1 => Okv (freezes hs) ρ1 fun ds ρ2 => ds.length ≤ sizeLine ∧ post (.val (.tup ds)) ρ2 := v_tup_0
@[simp] theorem n_lst : Okv (E.lst es).sm.n ρ pN ↔ Okv es.vs ρ fun hs ρ1 => Okv (freezes hs) ρ1 fun ds ρ2 => ds.length ≤ sizeLine ∧ pN (.new (.lst ds)) ρ2 := n_lst_0
theorem okv_valN {f : Mo Fr} : Okv (valN f) ρ post ↔ Okv f ρ fun fr ρ1 => post (.val fr.toD) ρ1 := okv_valN_0
@[simp] theorem v_lst : Okv (E.lst es).sm.v ρ post ↔ Okv (E.lst es).sm.n ρ fun fr ρ1 => post (.val fr.toD) ρ1 := v_lst_0
@[simp] theorem v_call {F : Fn} : Okv (E.call F es ks).sm.v ρ post ↔ Okv (E.call F es ks).sm.n ρ fun fr ρ1 => post (.val fr.toD) ρ1 := v_call_0
@[simp] theorem n_call {F : Fn} : Okv (E.call F es ks).sm.n ρ pN ↔ Okv es.vs ρ fun hs ρ1 => Okv ks.vs ρ1 fun ls ρ2 => Okv (callF F (hs ++ ls)) ρ2 pN := n_call_0
theorem okv_frzN {f : Mo Hd} : Okv (frzN f) ρ pN ↔ Okv f ρ fun h ρ1 => Okv (freeze h) ρ1 fun d ρ2 => pN (.dat d) ρ2 := okv_frzN_0
@[simp] theorem v_isi {t : Ty} : Okv (E.isi t a).sm.v ρ post ↔ Okv a.sm.v ρ fun h ρ1 => Som (deref1 ρ1 h) fun x => Som (isiD t x) fun k => post (.val (.bl k)) ρ1 := v_isi_0
theorem okv_biM {fn : List D → Option D} {g : Mo (List Hd)} : Okv (biM fn g) ρ post ↔ Okv g ρ fun hs ρ1 => Som (derefs1 ρ1 hs) fun ds => Som (fn ds) fun d => post (.val d) ρ1 := okv_biM_0
theorem okv_callN {fn : List D → Option D} {g : Mo (List Hd)} : Okv (callN fn g) ρ pN ↔ Okv g ρ fun hs ρ1 => Som (derefs1 ρ1 hs) fun ds => Som (fn ds) fun d => pN (freshL d) ρ1 := okv_callN_0
@[simp] theorem freshL_toD {d : D} : (freshL d).toD = d := freshL_toD_0
@[simp] theorem v_bi {q : Bi} : Okv (E.bi q es).sm.v ρ post ↔ Okv es.vs ρ fun hs ρ1 => Som (derefs1 ρ1 hs) fun ds => Som (q.fn ds) fun d => post (.val d) ρ1 := v_bi_0
@[simp] theorem v_sli {lo hi : Oe} {post : Hd → En → Prop} : Okv (E.sli a lo hi).sm.v ρ post ↔ Okv a.sm.v ρ fun h ρ1 => Okv (prtM lo.v) ρ1 fun l ρ2 => Okv (prtM hi.v) ρ2 fun u ρ3 => Som (deref1 ρ3 h) fun x => Som (sliD x l u) fun d => post (.val d) ρ3 := v_sli_0
@[simp] theorem prt_no {p : Option Int → En → Prop} : Okv (prtM Oe.no.v) ρ p ↔ p none ρ := prt_no_0
@[simp] theorem prt_so {p : Option Int → En → Prop} : Okv (prtM (Oe.so a).v) ρ p ↔ Okv a.sm.v ρ fun h ρ1 => Som (deref1 ρ1 h) fun x => Itg x fun i => p (some i) ρ1 := prt_so_0
@[simp] theorem v_join : Okv (E.join a b).sm.v ρ post ↔ Okv a.sm.v ρ fun h ρ1 => Som (deref1 ρ1 h) fun x => isS x = true ∧ Okv b.sm.v ρ1 fun k ρ2 => Som (deref1 ρ2 k) fun y => Som (joinD x y) fun d => post (.val d) ρ2 := v_join_0
@[simp] theorem v_up : Okv (E.up a).sm.v ρ post ↔ Okv a.sm.v ρ fun h ρ1 => Som (deref1 ρ1 h) fun x => isS x = true ∧ Som (upD x) fun d => post (.val d) ρ1 := v_up_0
@[simp] theorem v_dic : Okv E.dic.sm.v ρ post ↔ post (.val (.dct [])) ρ := v_dic_0
@[simp] theorem n_dic {p : Fr → En → Prop} : Okv E.dic.sm.n ρ p ↔ p (.new (.dct [])) ρ := n_dic_0
end
section
variable {ρ : En} {a b c : E} {es ks : Es} {post : Hd → En → Prop} {pB : Bool → En → Prop} {pN : Fr → En → Prop} {pF : Fl → En → Prop}
theorem okv_tstB {f : Mo Hd} : Okv (tstB f) ρ pB ↔ Okv f ρ fun h ρ1 => Bol h fun k => pB k ρ1 := okv_tstB_0
@[simp] theorem b_cmp {o : Bop} : Okv (E.cmp o a b).sm.b ρ pB ↔ Okv (E.cmp o a b).sm.v ρ fun h ρ1 => Bol h fun k => pB k ρ1 := b_cmp_0
@[simp] theorem b_chain {o o' : Bop} : Okv (E.chain o o' a b c).sm.b ρ pB ↔ Okv (E.chain o o' a b c).sm.v ρ fun h ρ1 => Bol h fun k => pB k ρ1 := b_chain_0
@[simp] theorem b_and : Okv (E.and a b).sm.b ρ pB ↔ Okv a.sm.b ρ fun k ρ1 => Ifb k (Okv b.sm.b ρ1 pB) (pB false ρ1) := b_and_0
@[simp] theorem b_or : Okv (E.or a b).sm.b ρ pB ↔ Okv a.sm.b ρ fun k ρ1 => Ifb k (pB true ρ1) (Okv b.sm.b ρ1 pB) := b_or_0
@[simp] theorem b_not : Okv (E.not a).sm.b ρ pB ↔ Okv a.sm.b ρ fun k ρ1 => pB (!k) ρ1 := b_not_0
@[simp] theorem b_ite : Okv (E.ite c a b).sm.b ρ pB ↔ Okv c.sm.b ρ fun k ρ1 => Ifb k (Okv a.sm.b ρ1 pB) (Okv b.sm.b ρ1 pB) := b_ite_0
theorem b_val {e : E} (h : Bv e) : Okv e.sm.b ρ pB ↔ Okv e.sm.v ρ fun h ρ1 => Som (deref1 ρ1 h) fun x => Som (truD x) fun k => pB k ρ1 := b_val_0 h
@[simp] theorem b_var {i : Nat} : Okv (E.var i).sm.b ρ pB ↔ Okv (E.var i).sm.v ρ fun h ρ1 => Som (deref1 ρ1 h) fun x => Som (truD x) fun k => pB k ρ1 := b_var_0
@[simp] theorem b_con {d : D} : Okv (E.con d).sm.b ρ pB ↔ Okv (E.con d).sm.v ρ fun h ρ1 => Som (deref1 ρ1 h) fun x => Som (truD x) fun k => pB k ρ1 := b_con_0
@[simp] theorem b_isi {t : Ty} : Okv (E.isi t a).sm.b ρ pB ↔ Okv (E.isi t a).sm.v ρ fun h ρ1 => Som (deref1 ρ1 h) fun x => Som (truD x) fun k => pB k ρ1 := b_isi_0
@[simp] theorem b_idx : Okv (E.idx a b).sm.b ρ pB ↔ Okv (E.idx a b).sm.v ρ fun h ρ1 => Som (deref1 ρ1 h) fun x => Som (truD x) fun k => pB k ρ1 := b_idx_0
@[simp] theorem b_call {F : Fn} : Okv (E.call F es ks).sm.b ρ pB ↔ Okv (E.call F es ks).sm.v ρ fun h ρ1 => Som (deref1 ρ1 h) fun x => Som (truD x) fun k => pB k ρ1 := b_call_0
@[simp] theorem b_bi {q : Bi} : Okv (E.bi q es).sm.b ρ pB ↔ Okv (E.bi q es).sm.v ρ fun h ρ1 => Som (deref1 ρ1 h) fun x => Som (truD x) fun k => pB k ρ1 := b_bi_0
theorem n_dat {e : E} (h : Nd e) : Okv e.sm.n ρ pN ↔ Okv e.sm.v ρ fun h ρ1 => Okv (freeze h) ρ1 fun d ρ2 => pN (.dat d) ρ2 := n_dat_0 h
@[simp] theorem n_var {i : Nat} : Okv (E.var i).sm.n ρ pN ↔ Okv (E.var i).sm.v ρ fun h ρ1 => Okv (freeze h) ρ1 fun d ρ2 => pN (.dat d) ρ2 := n_var_0
@[simp] theorem n_con {d : D} : Okv (E.con d).sm.n ρ pN ↔ pN (.dat d) ρ := n_con_0
@[simp] theorem n_cmp {o : Bop} : Okv (E.cmp o a b).sm.n ρ pN ↔ Okv (E.cmp o a b).sm.v ρ fun h ρ1 => Okv (freeze h) ρ1 fun d ρ2 => pN (.dat d) ρ2 := n_cmp_0
@[simp] theorem n_chain {o o' : Bop} : Okv (E.chain o o' a b c).sm.n ρ pN ↔ Okv (E.chain o o' a b c).sm.v ρ fun h ρ1 => Okv (freeze h) ρ1 fun d ρ2 => pN (.dat d) ρ2 := n_chain_0
@[simp] theorem n_not : Okv (E.not a).sm.n ρ pN ↔ Okv (E.not a).sm.v ρ fun h ρ1 => Okv (freeze h) ρ1 fun d ρ2 => pN (.dat d) ρ2 := n_not_0
@[simp] theorem n_and : Okv (E.and a b).sm.n ρ pN ↔ Okv (E.and a b).sm.v ρ fun h ρ1 => Okv (freeze h) ρ1 fun d ρ2 => pN (.dat d) ρ2 := n_and_0
@[simp] theorem n_or : Okv (E.or a b).sm.n ρ pN ↔ Okv (E.or a b).sm.v ρ fun h ρ1 => Okv (freeze h) ρ1 fun d ρ2 => pN (.dat d) ρ2 := n_or_0
@[simp] theorem n_ite : Okv (E.ite c a b).sm.n ρ pN ↔ Okv (E.ite c a b).sm.v ρ fun h ρ1 => Okv (freeze h) ρ1 fun d ρ2 => pN (.dat d) ρ2 := n_ite_0
@[simp] theorem n_tup : Okv (E.tup es).sm.n ρ pN ↔ Okv (E.tup es).sm.v ρ fun h ρ1 => Okv (freeze h) ρ1 fun d ρ2 => pN (.dat d) ρ2 := n_tup_0
@[simp] theorem n_idx : Okv (E.idx a b).sm.n ρ pN ↔ Okv (E.idx a b).sm.v ρ fun h ρ1 => Okv (freeze h) ρ1 fun d ρ2 => pN (.dat d) ρ2 := n_idx_0
@[simp] theorem n_stp : Okv (E.stp a b).sm.n ρ pN ↔ Okv (E.stp a b).sm.v ρ fun h ρ1 => Okv (freeze h) ρ1 fun d ρ2 => pN (.dat d) ρ2 := n_stp_0
@[simp] theorem n_sli {lo hi : Oe} : Okv (E.sli a lo hi).sm.n ρ pN ↔ Okv (E.sli a lo hi).sm.v ρ fun h ρ1 => Okv (freeze h) ρ1 fun d ρ2 => pN (.dat d) ρ2 := n_sli_0
@[simp] theorem n_isi {t : Ty} : Okv (E.isi t a).sm.n ρ pN ↔ Okv (E.isi t a).sm.v ρ fun h ρ1 => Okv (freeze h) ρ1 fun d ρ2 => pN (.dat d) ρ2 := n_isi_0
@[simp] theorem n_join : Okv (E.join a b).sm.n ρ pN ↔ Okv (E.join a b).sm.v ρ fun h ρ1 => Okv (freeze h) ρ1 fun d ρ2 => pN (.dat d) ρ2 := n_join_0
@[simp] theorem n_neg : Okv (E.neg a).sm.n ρ pN ↔ Okv (E.neg a).sm.v ρ fun h ρ1 => Okv (freeze h) ρ1 fun d ρ2 => pN (.dat d) ρ2 := n_neg_0
@[simp] theorem n_list : Okv (E.bi .list es).sm.n ρ pN ↔ Okv es.vs ρ fun hs ρ1 => Som (derefs1 ρ1 hs) fun ds => Som (listB2 ds) fun d => pN (freshL d) ρ1 := n_list_0
@[simp] theorem n_sorted : Okv (E.bi .sorted es).sm.n ρ pN ↔ Okv es.vs ρ fun hs ρ1 => Som (derefs1 ρ1 hs) fun ds => Som (sortedB ds) fun d => pN (freshL d) ρ1 := n_sorted_0
theorem n_bi {q : Bi} (h : q ≠ .list) (h2 : q ≠ .sorted) : Okv (E.bi q es).sm.n ρ pN ↔ Okv (E.bi q es).sm.v ρ fun h ρ1 => Okv (freeze h) ρ1 fun d ρ2 => pN (.dat d) ρ2 := n_bi_0 h h2
@[simp] theorem n_add : Okv (E.op .add a b).sm.n ρ pN ↔ Okv a.sm.v ρ fun h ρ1 => Okv b.sm.v ρ1 fun k ρ2 => Som (deref1 ρ2 h) fun x => Som (deref1 ρ2 k) fun y => Som (addD x y) fun d => pN (freshL d) ρ2 := n_add_0
theorem n_op {o : Bop} (h : o ≠ .add) : Okv (E.op o a b).sm.n ρ pN ↔ Okv (E.op o a b).sm.v ρ fun h ρ1 => Okv (freeze h) ρ1 fun d ρ2 => pN (.dat d) ρ2 := n_op_0 h
@[simp] theorem n_mul : Okv (E.op .mul a b).sm.n ρ pN ↔ Okv (E.op .mul a b).sm.v ρ fun h ρ1 => Okv (freeze h) ρ1 fun d ρ2 => pN (.dat d) ρ2 := n_mul_0
@[simp] theorem n_mod : Okv (E.op .mod a b).sm.n ρ pN ↔ Okv (E.op .mod a b).sm.v ρ fun h ρ1 => Okv (freeze h) ρ1 fun d ρ2 => pN (.dat d) ρ2 := n_mod_0
@[simp] theorem n_fdiv : Okv (E.op .fdiv a b).sm.n ρ pN ↔ Okv (E.op .fdiv a b).sm.v ρ fun h ρ1 => Okv (freeze h) ρ1 fun d ρ2 => pN (.dat d) ρ2 := n_fdiv_0
@[simp] theorem n_sub : Okv (E.op .sub a b).sm.n ρ pN ↔ Okv (E.op .sub a b).sm.v ρ fun h ρ1 => Okv (freeze h) ρ1 fun d ρ2 => pN (.dat d) ρ2 := n_sub_0
@[simp] theorem v_lc {it : Ie} {t : Tg} {own : List Nat} {o : Oe} : Okv (E.lc it t own o a).sm.v ρ post ↔ Okv (E.lc it t own o a).sm.n ρ fun fr ρ1 => post (.val fr.toD) ρ1 := v_lc_0
@[simp] theorem n_lc {it : Ie} {t : Tg} {own : List Nat} {o : Oe} : Okv (E.lc it t own o a).sm.n ρ pN ↔ Okv it.ds ρ fun ds ρ1 => Lc t own o.b a.sm.v ds ρ1 fun vs ρ2 => pN (.new (.lst vs)) ρ2 := n_lc_0
@[simp] theorem ds_seq : ∀ {p : List D → En → Prop}, Okv (Ie.seq a).ds ρ p ↔ Okv a.sm.v ρ fun h ρ1 => Okv (freeze h) ρ1 fun d ρ2 => Som (seqD d) fun ds => p ds ρ2 := ds_seq_0
theorem okv_itM {k : List D → Option (List D)} {g : Mo (List Hd)} {p : List D → En → Prop} : Okv (itM k g) ρ p ↔ Okv g ρ fun hs ρ1 => Okv (freezes hs) ρ1 fun ds ρ2 => Som (k ds) fun es => p es ρ2 := okv_itM_0
@[simp] theorem ds_rng1 {p : List D → En → Prop} : Okv (Ie.rng1 es).ds ρ p ↔ Okv es.vs ρ fun hs ρ1 => Okv (freezes hs) ρ1 fun ds ρ2 => Som (rngK1 ds) fun es => p es ρ2 := ds_rng1_0
@[simp] theorem ds_rng2 {p : List D → En → Prop} : Okv (Ie.rng2 es).ds ρ p ↔ Okv es.vs ρ fun hs ρ1 => Okv (freezes hs) ρ1 fun ds ρ2 => Som (rngK2 ds) fun es => p es ρ2 := ds_rng2_0
@[simp] theorem ds_enum {p : List D → En → Prop} : Okv (Ie.enum es).ds ρ p ↔ Okv es.vs ρ fun hs ρ1 => Okv (freezes hs) ρ1 fun ds ρ2 => Som (enumK ds) fun es => p es ρ2 := ds_enum_0
@[simp] theorem ds_zip {p : List D → En → Prop} : Okv (Ie.zip es).ds ρ p ↔ Okv es.vs ρ fun hs ρ1 => Okv (freezes hs) ρ1 fun ds ρ2 => Som (zipK ds) fun es => p es ρ2 := ds_zip_0
theorem okv_just {α : Type} {a : α} {ρ' : En} {p : α → En → Prop} : Okv (fun _ => some (.ok a ρ')) ρ p ↔ p a ρ' := okv_just_0
theorem okv_f {α : Type} {f : Mo α} {a : α} {ρ' : En} {p : α → En → Prop} (e : f ρ = some (.ok a ρ')) : Okv f ρ p ↔ p a ρ' := okv_f_0 e
@[simp] theorem ss_nil : Okv Ss.nil.ms ρ pF ↔ pF .nx ρ := ss_nil_0
@[simp] theorem ss_cons {s : S} {ss : Ss} : Okv (Ss.cons s ss).ms ρ pF ↔ Okv s.ms ρ fun fl ρ1 => Seqf fl (Okv ss.ms ρ1 pF) (pF fl ρ1) := ss_cons_0
@[simp] theorem s_asg {i : Nat} : Okv (S.asg i a).ms ρ pF ↔ Okv a.sm.n ρ fun fr ρ1 => pF .nx (ρ1.set i (slotOf fr)) := s_asg_0
@[simp] theorem s_ret : Okv (S.ret a).ms ρ pF ↔ Okv a.sm.n ρ fun fr ρ1 => pF (.rt fr) ρ1 := s_ret_0
@[simp] theorem s_expr : Okv (S.expr a).ms ρ pF ↔ Okv a.sm.v ρ fun _ ρ1 => pF .nx ρ1 := s_expr_0
@[simp] theorem s_asgT {t : Tg} : Okv (S.asgT t a).ms ρ pF ↔ Okv a.sm.v ρ fun h ρ1 => Okv (freeze h) ρ1 fun d ρ2 => Som (setT t d ρ2) fun ρ3 => pF .nx ρ3 := s_asgT_0
@[simp] theorem s_par {is : List Nat} : Okv (S.par is es).ms ρ pF ↔ Okv es.ns ρ fun frs ρ1 => frs.length = is.length ∧ pF .nx (setAll ρ1 is frs) := s_par_0
@[simp] theorem s_retV {i : Nat} : Okv (S.retV i).ms ρ pF ↔ Rtv ρ[i]? fun fr => pF (.rt fr) ρ := s_retV_0
@[simp] theorem s_ite {s t : Ss} : Okv (S.ite c s t).ms ρ pF ↔ Okv c.sm.b ρ fun k ρ1 => Ifb k (Okv s.ms ρ1 pF) (Okv t.ms ρ1 pF) := s_ite_0
@[simp] theorem s_for {it : Ie} {t : Tg} {s : Ss} : Okv (S.for it t s).ms ρ pF ↔ Okv it.ds ρ fun ds ρ1 => Okv (forL t s.ms ds) ρ1 pF := s_for_0
@[simp] theorem for_nil {t : Tg} {f : Ms} : Okv (forL t f []) ρ pF ↔ pF .nx ρ := for_nil_0
theorem for_cons {t : Tg} {f : Ms} {d : D} {ds : List D} (h : Som (setT t d ρ) fun ρ1 => Okv f ρ1 fun fl ρ2 => ((fl = .nx ∨ fl = .ct) ∧ Okv (forL t f ds) ρ2 pF) ∨ (fl = .bk ∧ pF .nx ρ2) ∨ ∃ r, fl = .rt r ∧ pF (.rt r) ρ2) : Okv (forL t f (d :: ds)) ρ pF := for_cons_0 h
theorem v_app {i : Nat} : Okv (E.app i a).sm.v ρ post ↔ (∃ l ds, ρ[i]? = some (.own l (.lst ds))) ∧ Okv a.sm.v ρ fun h ρ1 => Okv (freeze h) ρ1 fun d ρ2 => ∃ l ds, ρ2[i]? = some (.own l (.lst ds)) ∧ ds.length < sizeLine ∧ post (.val .non) (ρ2.set i (.own l (.lst (ds ++ [d])))) := v_app_0
theorem s_set {i : Nat} (h0 : ∃ l ds, ρ[i]? = some (.own l (.lst ds))) (h : Okv a.sm.v ρ fun h ρ1 => Okv (freeze h) ρ1 fun d ρ2 => (∃ l ds, ρ2[i]? = some (.own l (.lst ds))) ∧ Okv b.sm.v ρ2 fun h2 ρ3 => ∃ k, deref1 ρ3 h2 = some (.int k) ∧ ∃ l ds j, ρ3[i]? = some (.own l (.lst ds)) ∧ ixN ds.length k = some j ∧ pF .nx (ρ3.set i (.own l (.lst (ds.set j d))))) : Okv (S.set i b a).ms ρ pF := s_set_0 h0 h
theorem s_aug {i : Nat} {o : Aop} {x : Int} (h0 : ρ[i]? = some (.v (.int x))) : Okv (S.aug i o a).ms ρ pF ↔ Okv a.sm.v ρ fun h ρ1 => ∃ y, deref1 ρ1 h = some (.int y) ∧ pF .nx (ρ1.set i (.v (.int (o.f x y)))) := s_aug_0 h0
end
@[simp] theorem okv_callF' {F : Fn} {hs : List Hd} {ρ : En} {post : Fr → En → Prop} : Okv (callF F hs) ρ post ↔ Som (cal F hs ρ) fun sl => Fok F sl fun fr sl' => ∃ ρ', back ρ hs sl' = some ρ' ∧ post fr ρ' := okv_callF'_0
theorem fok_imp {F : Fn} {sl : List Sl} {p q : Fr → List Sl → Prop} (h : Fok F sl p) (i : ∀ fr sl', p fr sl' → q fr sl') : Fok F sl q := fok_imp_0 h i
theorem fok_run {n np : Nat} {f : Ms} {sl : List Sl} {p : Fr → List Sl → Prop} (h1 : sl.length = np) (h2 : sl.all isLent = true) (h : Okv f (sl ++ List.replicate (n - np) .no) fun fl ρ => Som (outSl sl ρ) fun r => ((fl = .nx ∧ p (.dat .non) r) ∨ ∃ fr, fl = .rt fr ∧ p fr r)) : Fok (runF n np f) sl p := fok_run_0 h1 h2 h
theorem fok_eq {F : Fn} {sl sl' : List Sl} {fr : Fr} {p : Fr → List Sl → Prop} (e : F sl = some (.ok fr sl')) : Fok F sl p ↔ p fr sl' := fok_eq_0 e
theorem eq_fok {F : Fn} {sl sl' : List Sl} {fr : Fr} (h : Fok F sl fun a b => a = fr ∧ b = sl') : F sl = some (.ok fr sl') := eq_fok_0 h
theorem for_inv {pF : Fl → En → Prop} {t : Tg} {f : Ms} (P : List D → En → Prop) {ds : List D} {ρ : En} (h0 : P ds ρ) (hs : ∀ d ds ρ, P (d :: ds) ρ → Som (setT t d ρ) fun ρ1 => Okv f ρ1 fun fl ρ2 => (fl = .nx ∨ fl = .ct) ∧ P ds ρ2) (hd : ∀ ρ, P [] ρ → pF .nx ρ) : Okv (forL t f ds) ρ pF := for_inv_0 P h0 hs hd
section
variable {ρ : En} {d : D} {i : Nat}
@[simp] theorem deref1_v : deref1 ρ (.val d) = some d := rfl
@[simp] theorem deref1_s : deref1 ρ (.slot i) = match ρ[i]? with
  | some (.own _ o) => some o.toD
  | some (.v d) => some d
  | _ => none := rfl
@[simp] theorem derefs1_n : derefs1 ρ [] = some [] := rfl
@[simp] theorem derefs1_c {h : Hd} {hs : List Hd} : derefs1 ρ (h :: hs) = match deref1 ρ h, derefs1 ρ hs with
  | some d, some ds => some (d :: ds)
  | _, _ => none := rfl
@[simp] theorem apart_n : apart [] = true := rfl
@[simp] theorem apart_v {hs : List Hd} : apart (.val d :: hs) = apart hs := rfl
@[simp] theorem apart_s {hs : List Hd} : apart (.slot i :: hs) = (!slotIn i hs && apart hs) := rfl
@[simp] theorem slotIn_n : slotIn i [] = false := rfl
@[simp] theorem slotIn_v {hs : List Hd} : slotIn i (.val d :: hs) = slotIn i hs := rfl
@[simp] theorem slotIn_s {j : Nat} {hs : List Hd} : slotIn i (.slot j :: hs) = (i == j || slotIn i hs) := rfl
@[simp] theorem lend1_v : lend1 ρ (.val d) = some (.v d) := rfl
@[simp] theorem lend1_s : lend1 ρ (.slot i) = match ρ[i]? with
  | some (.own _ o) => some (.own true o)
  | some (.v d) => some (.v d)
  | _ => none := rfl
@[simp] theorem lend_n : lend ρ [] = some [] := rfl
@[simp] theorem lend_c {h : Hd} {hs : List Hd} : lend ρ (h :: hs) = match lend1 ρ h, lend ρ hs with
  | some s, some sl => some (s :: sl)
  | _, _ => none := rfl
@[simp] theorem back_n : back ρ [] [] = some ρ := rfl
@[simp] theorem back_v {s : Sl} {hs : List Hd} {sl : List Sl} : back ρ (.val d :: hs) (s :: sl) = back ρ hs sl := rfl
@[simp] theorem back_s {s : Sl} {hs : List Hd} {sl : List Sl} : back ρ (.slot i :: hs) (s :: sl) = match ρ[i]?, s with
  | some (.own l _), .own true o => back (ρ.set i (.own l o)) hs sl
  | some (.v _), .v _ => back ρ hs sl
  | _, _ => none := rfl
@[simp] theorem outSl_n : outSl [] ρ = some [] := rfl
@[simp] theorem outSl_v {sl : List Sl} {s : Sl} : outSl (.v d :: sl) (s :: ρ) = (outSl sl ρ).map fun r => .v d :: r := by cases s with
  | own l o => cases l <;> rfl
  | _ => rfl
@[simp] theorem outSl_o {sl : List Sl} {l : Bool} {o u : Ow} : outSl (.own l u :: sl) (.own true o :: ρ) = (outSl sl ρ).map fun r => .own true o :: r := rfl
@[simp] theorem slotOf_d : slotOf (.dat d) = .v d := rfl
@[simp] theorem slotOf_n {o : Ow} : slotOf (.new o) = .own false o := rfl
@[simp] theorem frD_d : Fr.toD (.dat d) = d := rfl
@[simp] theorem frD_n {o : Ow} : Fr.toD (.new o) = o.toD := rfl
@[simp] theorem owD_l {ds : List D} : Ow.toD (.lst ds) = .lst ds := rfl
@[simp] theorem freshL_l {ds : List D} : freshL (.lst ds) = .new (.lst ds) := rfl
@[simp] theorem freshL_t {ds : List D} : freshL (.tup ds) = .dat (.tup ds) := rfl
@[simp] theorem freshL_i {n : Int} : freshL (.int n) = .dat (.int n) := rfl
@[simp] theorem freshL_s {n : List Nat} : freshL (.str n) = .dat (.str n) := rfl
@[simp] theorem tru_n : truD .non = some false := rfl
@[simp] theorem tru_b {b : Bool} : truD (.bl b) = some b := rfl
@[simp] theorem isi_n {t : Ty} : isiD t .non = some false := by cases t <;> rfl
@[simp] theorem isi_b {b : Bool} : isiD .int (.bl b) = some true := rfl
@[simp] theorem isi_bb {b : Bool} : isiD .bool (.bl b) = some true := rfl
@[simp] theorem isi_bs {b : Bool} : isiD .str (.bl b) = some false := rfl
@[simp] theorem isi_bt {b : Bool} : isiD .tuple (.bl b) = some false := rfl
@[simp] theorem isi_ii {n : Int} : isiD .int (.int n) = some true := rfl
@[simp] theorem isi_ib {n : Int} : isiD .bool (.int n) = some false := rfl
@[simp] theorem isi_is {n : Int} : isiD .str (.int n) = some false := rfl
@[simp] theorem isi_it {n : Int} : isiD .tuple (.int n) = some false := rfl
@[simp] theorem isi_si {s : List Nat} : isiD .int (.str s) = some false := rfl
@[simp] theorem isi_sb {s : List Nat} : isiD .bool (.str s) = some false := rfl
@[simp] theorem isi_ss {s : List Nat} : isiD .str (.str s) = some true := rfl
@[simp] theorem isi_st {s : List Nat} : isiD .tuple (.str s) = some false := rfl
@[simp] theorem isi_ti {s : List D} : isiD .int (.tup s) = some false := rfl
@[simp] theorem isi_tb {s : List D} : isiD .bool (.tup s) = some false := rfl
@[simp] theorem isi_ts {s : List D} : isiD .str (.tup s) = some false := rfl
@[simp] theorem isi_tt {s : List D} : isiD .tuple (.tup s) = some true := rfl
@[simp] theorem isi_li {s : List D} : isiD .int (.lst s) = some false := rfl
@[simp] theorem isi_lb {s : List D} : isiD .bool (.lst s) = some false := rfl
@[simp] theorem isi_ls {s : List D} : isiD .str (.lst s) = some false := rfl
@[simp] theorem isi_lt {s : List D} : isiD .tuple (.lst s) = some false := rfl
@[simp] theorem isi_di {s : List (D × D)} : isiD .int (.dct s) = some false := rfl
@[simp] theorem isi_db {s : List (D × D)} : isiD .bool (.dct s) = some false := rfl
@[simp] theorem isi_ds {s : List (D × D)} : isiD .str (.dct s) = some false := rfl
@[simp] theorem isi_dt {s : List (D × D)} : isiD .tuple (.dct s) = some false := rfl
@[simp] theorem opB_add : Bop.op .add = addD := rfl
@[simp] theorem opB_sub : Bop.op .sub = subD := rfl
@[simp] theorem opB_mul : Bop.op .mul = mulD2 := rfl
@[simp] theorem opB_fdiv : Bop.op .fdiv = fdivD := rfl
@[simp] theorem opB_mod : Bop.op .mod = modD := rfl
@[simp] theorem opB_pow : Bop.op .pow = powD := rfl
@[simp] theorem opB_eq : Bop.op .eq = fun a b => (eqF 60 a b).map fun e => .bl e := rfl
@[simp] theorem opB_ne : Bop.op .ne = fun a b => (eqF 60 a b).map fun e => .bl (!e) := rfl
@[simp] theorem opB_lt : Bop.op .lt = ltD := rfl
@[simp] theorem opB_le : Bop.op .le = leD := rfl
@[simp] theorem opB_gt : Bop.op .gt = gtD := rfl
@[simp] theorem opB_ge : Bop.op .ge = geD := rfl
@[simp] theorem opB_is : Bop.op .is = isD false := rfl
@[simp] theorem opB_isn : Bop.op .isn = isD true := rfl
@[simp] theorem opB_isin : Bop.op .isin = inDD2 false := rfl
@[simp] theorem opB_nin : Bop.op .nin = inDD2 true := rfl
@[simp] theorem biF_len : Bi.fn .len = lenB2 := rfl
@[simp] theorem biF_abs : Bi.fn .abs = absB := rfl
@[simp] theorem biF_int : Bi.fn .int = intB := rfl
@[simp] theorem biF_sum : Bi.fn .sum = sumB := rfl
@[simp] theorem biF_all : Bi.fn .all = allB := rfl
@[simp] theorem biF_any : Bi.fn .any = anyB := rfl
@[simp] theorem biF_max : Bi.fn .max = maxB := rfl
@[simp] theorem biF_min : Bi.fn .min = minB := rfl
@[simp] theorem biF_str : Bi.fn .str = strB := rfl
@[simp] theorem biF_repr : Bi.fn .repr = reprB2 := rfl
@[simp] theorem biF_list : Bi.fn .list = listB2 := rfl
@[simp] theorem biF_sorted : Bi.fn .sorted = sortedB := rfl
@[simp] theorem biF_tuple : Bi.fn .tuple = tupleB := rfl
/-! ints -/
variable {n m : Int}
@[simp] theorem add_ii : addD (.int n) (.int m) = some (.int (n + m)) := rfl
@[simp] theorem sub_ii : subD (.int n) (.int m) = some (.int (n - m)) := rfl
@[simp] theorem lt_ii : ltD (.int n) (.int m) = some (.bl (decide (n < m))) := rfl
@[simp] theorem le_ii : leD (.int n) (.int m) = some (.bl (decide (n ≤ m))) := rfl
@[simp] theorem gt_ii : gtD (.int n) (.int m) = some (.bl (decide (m < n))) := rfl
@[simp] theorem ge_ii : geD (.int n) (.int m) = some (.bl (decide (m ≤ n))) := rfl
@[simp] theorem eq_ii : eqF 60 (.int n) (.int m) = some (n == m) := rfl
@[simp] theorem eq_ss {a b : List Nat} : eqF 60 (.str a) (.str b) = some (a == b) := rfl
@[simp] theorem eq_bb {a b : Bool} : eqF 60 (.bl a) (.bl b) = some (a == b) := rfl
@[simp] theorem len_t {ds : List D} : lenB2 [.tup ds] = some (.int ds.length) := rfl
@[simp] theorem len_d {ds : List (D × D)} : lenB2 [.dct ds] = some (.int ds.length) := rfl
@[simp] theorem len_l {ds : List D} : lenB2 [.lst ds] = some (.int ds.length) := rfl
@[simp] theorem int_i : intB [.int n] = some (.int n) := rfl
@[simp] theorem int_b {b : Bool} : intB [.bl b] = some (.int (if b then 1 else 0)) := rfl
@[simp] theorem abs_i : absB [.int n] = some (.int (if n < 0 then -n else n)) := rfl
@[simp] theorem max_ii : maxB [.int n, .int m] = some (.int (if m > n then m else n)) := rfl
@[simp] theorem min_ii : minB [.int n, .int m] = some (.int (if m < n then m else n)) := rfl
@[simp] theorem neg_i : negD (.int n) = some (.int (-n)) := rfl
@[simp] theorem idx_t {ds : List D} : idxDD (.tup ds) (.int n) = atI ds n := by
  show (atI ds n).or none = _
  simp
@[simp] theorem idx_l {ds : List D} : idxDD (.lst ds) (.int n) = atI ds n := by
  show (atI ds n).or none = _
  simp
@[simp] theorem seq_t {ds : List D} : seqD (.tup ds) = some ds := rfl
@[simp] theorem seq_l {ds : List D} : seqD (.lst ds) = some ds := rfl
@[simp] theorem seq_f {ds : List D} : seqD (.frz ds) = some ds := rfl
@[simp] theorem seq_s {s : List Nat} : seqD (.str s) = some (chars s) := rfl
@[simp] theorem setT_nm {ρ : En} {i : Nat} {d : D} : setT (.nm i) d ρ = some (ρ.set i (.v d)) := by
  simp [setT]
@[simp] theorem setT_tup {ρ : En} {ts : Tgs} {ds : List D} : setT (.tup ts) (.tup ds) ρ = setTs ts ds ρ := by
  simp [setT]
@[simp] theorem setTs_n {ρ : En} : setTs .nil [] ρ = some ρ := by
  simp [setTs]
@[simp] theorem setTs_c {ρ : En} {t : Tg} {ts : Tgs} {d : D} {ds : List D} : setTs (.cons t ts) (d :: ds) ρ = (setT t d ρ).bind fun ρ1 => setTs ts ds ρ1 := by
  cases h : setT t d ρ with
  | none => simp [setTs, h]
  | some ρ1 => simp [setTs, h]
@[simp] theorem setAll_n {ρ : En} {frs : List Fr} : setAll ρ [] frs = ρ := by
  simp [setAll]
@[simp] theorem setAll_c {ρ : En} {i : Nat} {is : List Nat} {fr : Fr} {frs : List Fr} : setAll ρ (i :: is) (fr :: frs) = setAll (ρ.set i (slotOf fr)) is frs := by
  simp [setAll]
end
end Mi
set_option Elab.async false
set_option linter.all false
set_option maxRecDepth 100000
set_option maxHeartbeats 2000000
/-! P2: lists written, ints counted, one step at a time; the arithmetic of draws -/
namespace Mi
open PySem L2
def Olw (s : Option Sl) (k : Bool → List D → Prop) : Prop := ∃ l ds, s = some (.own l (.lst ds)) ∧ k l ds
def Olst (s : Option Sl) (k : Bool → List D → Prop) (t : Tag k := ⟨⟩) : Prop := Olw s k
@[simp] theorem olst_o {l : Bool} {ds : List D} {k : Bool → List D → Prop} : Olst (some (.own l (.lst ds))) k ↔ k l ds := by
  constructor
  · rintro ⟨l', ds', h, q⟩
    cases h
    exact q
  · exact fun h => ⟨l, ds, rfl, h⟩
def Ivw (s : Option Sl) (k : Int → Prop) : Prop := ∃ i, s = some (.v (.int i)) ∧ k i
def Ivar (s : Option Sl) (k : Int → Prop) (t : Tag k := ⟨⟩) : Prop := Ivw s k
@[simp] theorem ivar_o {i : Int} {k : Int → Prop} : Ivar (some (.v (.int i))) k ↔ k i := by simp [Ivar, Ivw]
def Cnd (p : Prop) (A : Prop) (t : Tag A := ⟨⟩) : Prop := p ∧ A
@[simp] theorem cnd_t {A : Prop} : Cnd True A ↔ A := by simp [Cnd]
def Oaw (s : Option Sl) (A : Prop) : Prop := (∃ l o, s = some (.own l o)) ∧ A
def Oany (s : Option Sl) (A : Prop) (t : Tag A := ⟨⟩) : Prop := Oaw s A
@[simp] theorem oany_o {l : Bool} {o : Ow} {A : Prop} : Oany (some (.own l o)) A ↔ A := ⟨fun h => h.2, fun h => ⟨⟨l, o, rfl⟩, h⟩⟩
def setS (s : Option Sl) (k d : D) : Option Sl := match s with
  | some (.own l (.lst ds)) => (match k with
    | .int k => (ixN ds.length k).map fun j => .own l (.lst (ds.set j d))
    | _ => none)
  | some (.own l (.dct kvs)) => (match kD k with
    | some kk => if kvs.length < sizeLine then some (.own l (.dct (putD kvs k kk d))) else none
    | none => none)
  | _ => none
@[simp] theorem setS_l {l : Bool} {ds : List D} {k : Int} {d : D} : setS (some (.own l (.lst ds))) (.int k) d = (ixN ds.length k).map fun j => .own l (.lst (ds.set j d)) := rfl
section
variable {ρ : En} {a b : E} {pF : Fl → En → Prop}
theorem setK_eq {i : Nat} {d k : D} : setK i d k ρ = (setS ρ[i]? k d).map fun s => .ok .nx (ρ.set i s) := by
  unfold setK setS
  cases ρ[i]? with
  | none => rfl
  | some s =>
    cases s with
    | no => rfl
    | v d => rfl
    | own l o =>
      cases o with
      | lst ds =>
        cases k with
        | int k =>
          show (match ixN ds.length k with
            | some j => _
            | none => _) = _
          show _ = ((ixN ds.length k).map fun j => Sl.own l (.lst (ds.set j d))).map _
          cases ixN ds.length k <;> rfl
        | _ => rfl
      | dct kvs =>
        show (match kD k with
          | some kk => _
          | none => _) = _
        cases kD k with
        | none => rfl
        | some kk =>
          show (if _ then _ else _) = ((if _ then _ else _ : Option Sl)).map _
          by_cases h : kvs.length < sizeLine
          · rw [if_pos h, if_pos h]
            rfl
          · rw [if_neg h, if_neg h]
            rfl
theorem s_set_s0 {i : Nat} : Okw (S.set i b a).ms ρ pF ↔ Okw a.sm.v ρ fun h ρ1 => Okw (freeze h) ρ1 fun d ρ2 => Oaw ρ2[i]? (Okw b.sm.v ρ2 fun h2 ρ3 => Sow (deref1 ρ3 h2) fun k => Sow (setS ρ3[i]? k d) fun s => pF .nx (ρ3.set i s)) := by
  show Okw (setM2 i a.sm.v b.sm.v) ρ pF ↔ _
  unfold setM2
  simp only [okv_bind_0]
  refine iff_of_eq (congrArg _ (funext fun h => funext fun ρ1 => congrArg _ (funext fun d => funext fun ρ2 => propext ?_)))
  constructor
  · rintro ⟨x, ρ', h, q⟩
    dsimp only at h
    split at h
    · rename_i l o h1
      refine ⟨⟨l, o, h1⟩, ?_⟩
      have this : Okw (Mo.bind b.sm.v fun h2 => Mo.bind (deref h2) (setK i d)) ρ2 pF := ⟨x, ρ', h, q⟩
      simp only [okv_bind_0, okv_deref_0] at this
      refine okv_imp_0 this fun h2 ρ3 ⟨k, h3, x, ρ', h4, q⟩ => ⟨k, h3, ?_⟩
      rw [setK_eq] at h4
      obtain ⟨s, h5, h6⟩ := map_some h4
      cases h6
      exact ⟨s, h5, q⟩
    · cases h
  · rintro ⟨⟨l, o, h1⟩, this⟩
    have this : Okw (Mo.bind b.sm.v fun h2 => Mo.bind (deref h2) (setK i d)) ρ2 pF := by
      simp only [okv_bind_0, okv_deref_0]
      refine okv_imp_0 this fun h2 ρ3 ⟨k, h3, s, h4, q⟩ => ⟨k, h3, .nx, _, ?_, q⟩
      rw [setK_eq, h4]
      rfl
    obtain ⟨x, ρ', h2, q⟩ := this
    refine ⟨x, ρ', ?_, q⟩
    simp only [h1]
    exact h2
@[simp] theorem s_set_s {i : Nat} : Okv (S.set i b a).ms ρ pF ↔ Okv a.sm.v ρ fun h ρ1 => Okv (freeze h) ρ1 fun d ρ2 => Oany ρ2[i]? (Okv b.sm.v ρ2 fun h2 ρ3 => Som (deref1 ρ3 h2) fun k => Som (setS ρ3[i]? k d) fun s => pF .nx (ρ3.set i s)) := s_set_s0
theorem s_aug_s0 {i : Nat} {o : Aop} : Okw (S.aug i o a).ms ρ pF ↔ Ivw ρ[i]? fun x => Okw a.sm.v ρ fun h ρ1 => Sow (deref1 ρ1 h) fun y => Itw y fun y => pF .nx (ρ1.set i (.v (.int (o.f x y)))) := by
  constructor
  · intro h
    have h' : Okw (augM i o.f a.sm.v) ρ pF := h
    obtain ⟨x, ρ', h1, q⟩ := h'
    unfold augM at h1
    split at h1
    · rename_i x h0
      refine ⟨x, h0, ?_⟩
      obtain h2 := (s_aug_0 h0).mp h
      exact okv_imp_0 h2 fun h ρ1 ⟨y, h3, h4⟩ => ⟨_, h3, y, rfl, h4⟩
    · cases h1
  · rintro ⟨x, h0, h⟩
    refine (s_aug_0 h0).mpr (okv_imp_0 h fun h ρ1 ⟨d, h3, y, hd, h4⟩ => ⟨y, by rw [h3, hd], h4⟩)
@[simp] theorem s_aug_s {i : Nat} {o : Aop} : Okv (S.aug i o a).ms ρ pF ↔ Ivar ρ[i]? fun x => Okv a.sm.v ρ fun h ρ1 => Som (deref1 ρ1 h) fun y => Itg y fun y => pF .nx (ρ1.set i (.v (.int (o.f x y)))) := s_aug_s0
theorem v_app_s0 {i : Nat} {post : Hd → En → Prop} : Okw (E.app i a).sm.v ρ post ↔ Olw ρ[i]? fun _ _ => Okw a.sm.v ρ fun h ρ1 => Okw (freeze h) ρ1 fun d ρ2 => Olw ρ2[i]? fun l ds => ds.length < sizeLine ∧ post (.val .non) (ρ2.set i (.own l (.lst (ds ++ [d])))) := by
  rw [v_app_0]
  constructor
  · rintro ⟨⟨l, ds, h⟩, h2⟩
    exact ⟨l, ds, h, h2⟩
  · rintro ⟨l, ds, h, h2⟩
    exact ⟨⟨l, ds, h⟩, h2⟩
@[simp] theorem v_app_s {i : Nat} {post : Hd → En → Prop} : Okv (E.app i a).sm.v ρ post ↔ Olst ρ[i]? fun _ _ => Okv a.sm.v ρ fun h ρ1 => Okv (freeze h) ρ1 fun d ρ2 => Olst ρ2[i]? fun l ds => Cnd (ds.length < sizeLine) (post (.val .non) (ρ2.set i (.own l (.lst (ds ++ [d]))))) := v_app_s0
end
/-! ### ints -/
section
variable {n m : Int}
theorem mod_ii (h : m ≠ 0) : modD (.int n) (.int m) = some (.int (n.fmod m)) := by simp [modD, intOp, h]
theorem fdiv_ii (h : m ≠ 0) (h2 : m.natAbs < 1073741824) : fdivD (.int n) (.int m) = some (.int (n.fdiv m)) := by simp [fdivD, intOp, divB, h, h2]
theorem mul_ii (h : -(2 ^ 64) < n ∧ n < 2 ^ 64) : mulD2 (.int n) (.int m) = some (.int (n * m)) := by
  have : mulB n m = true := by
    unfold mulB
    simp only [Bool.or_eq_true, Bool.and_eq_true, decide_eq_true_eq]
    exact .inl h
  simp [mulD2, mulD, intOp, this]
theorem mul_ii' (h : -(2 ^ 64) < m ∧ m < 2 ^ 64) : mulD2 (.int n) (.int m) = some (.int (n * m)) := by
  have : mulB n m = true := by
    unfold mulB
    simp only [Bool.or_eq_true, Bool.and_eq_true, decide_eq_true_eq]
    exact .inr h
  simp [mulD2, mulD, intOp, this]
theorem pow_ii (h : 0 ≤ m) (h2 : m ≤ 1000000) (h3 : n.natAbs < 2 ^ 64) : powD (.int n) (.int m) = some (.int (n ^ m.toNat)) := by
  have : powB n m = true := by
    unfold powB
    simp only [Bool.and_eq_true, decide_eq_true_eq]
    exact ⟨⟨h, h2⟩, h3⟩
  simp [powD, intOp, this]
@[simp] theorem ne_ll {xs : List D} : eqF 60 (.lst xs) (.lst []) = some xs.isEmpty := by
  cases xs <;> rfl
@[simp] theorem eq_tt0 {xs : List D} : eqF 60 (.tup xs) (.tup []) = some xs.isEmpty := by
  cases xs <;> rfl
end
end Mi
set_option Elab.async false
set_option linter.all false
set_option maxRecDepth 100000
set_option maxHeartbeats 2000000
/-! P3: comprehensions; what repr shows of bools; operations on lists, tuples and texts -/
namespace Mi
open PySem L2

@[simp] theorem oe_no {ρ : En} {p : Bool → En → Prop} : Okv Oe.no.b ρ p ↔ p true ρ := okv_pure
@[simp] theorem oe_so {e : E} {ρ : En} {p : Bool → En → Prop} : Okv (Oe.so e).b ρ p ↔ Okv e.sm.b ρ p := Iff.rfl
@[simp] theorem n_bi_s {q : Bi} {es : Es} {ρ : En} {pN : Fr → En → Prop} (h : q ≠ .list) (h2 : q ≠ .sorted) : Okv (E.bi q es).sm.n ρ pN ↔ Okv (E.bi q es).sm.v ρ fun h ρ1 => Okv (freeze h) ρ1 fun d ρ2 => pN (.dat d) ρ2 := n_bi h h2
@[simp] theorem n_op_s {o : Bop} {a b : E} {ρ : En} {pN : Fr → En → Prop} (h : o ≠ .add) : Okv (E.op o a b).sm.n ρ pN ↔ Okv (E.op o a b).sm.v ρ fun h ρ1 => Okv (freeze h) ρ1 fun d ρ2 => pN (.dat d) ρ2 := n_op h
theorem okw_eq {α : Type} {m : Mo α} {ρ : En} {post : α → En → Prop} (h : Okw m ρ post) : ∃ a ρ', m ρ = some (.ok a ρ') ∧ post a ρ' := h
theorem lcl_inv {t : Tg} {own : List Nat} {c : Mo Bool} {e : Mo Hd} (P : List D → List D → En → Prop)
    (hs : ∀ d ds vs ρ, P (d :: ds) vs ρ → Sow (setT t d ρ) fun ρ1 => Okw c ρ1 fun k ρ2 => Ifw k (Okw e ρ2 fun h ρ3 => Okw (freeze h) ρ3 fun v ρ4 => vs.length < sizeLine ∧ P ds (vs ++ [v]) (wipeE ρ4 own)) (P ds vs (wipeE ρ2 own))) :
    ∀ (ds vs : List D) (ρ : En), P ds vs ρ → ∃ ws ρ', lcL t own c e ds vs.length ρ = some (ws, ρ') ∧ P [] (vs ++ ws) ρ'
  | [], vs, ρ, h => ⟨[], ρ, rfl, by simpa using h⟩
  | d :: ds, vs, ρ, h => by
    obtain ⟨ρ1, h1, k, ρ2, h2, ⟨rfl, h3⟩ | ⟨rfl, h3⟩⟩ := hs d ds vs ρ h
    · obtain ⟨a, ρ3, h4, v, ρ4, h5, h6, h7⟩ := h3
      obtain ⟨ws, ρ', h8, h9⟩ := lcl_inv P hs ds (vs ++ [v]) _ h7
      have hb : Mo.bind e freeze ρ2 = some (.ok v ρ4) := by simp [Mo.bind, h4, h5]
      rw [List.length_append, List.length_singleton] at h8
      refine ⟨v :: ws, ρ', ?_, by simpa using h9⟩
      simp [lcL, h1, h2, hb, h6, h8]
    · obtain ⟨ws, ρ', h8, h9⟩ := lcl_inv P hs ds vs _ h3
      exact ⟨ws, ρ', by simp [lcL, h1, h2, h8], h9⟩
/-- a comprehension by an invariant of what is left and what is made -/
theorem lc_inv {t : Tg} {own : List Nat} {c : Mo Bool} {e : Mo Hd} {ds : List D} {ρ : En} {p : List D → En → Prop} (P : List D → List D → En → Prop) (h0 : plainAt ρ own = true) (h1 : P ds [] (wipeE ρ own))
    (hs : ∀ d ds vs ρ, P (d :: ds) vs ρ → Som (setT t d ρ) fun ρ1 => Okv c ρ1 fun k ρ2 => Ifb k (Okv e ρ2 fun h ρ3 => Okv (freeze h) ρ3 fun v ρ4 => Cnd (vs.length < sizeLine) (P ds (vs ++ [v]) (wipeE ρ4 own))) (P ds vs (wipeE ρ2 own)))
    (hd : ∀ vs ρ', P [] vs ρ' → p vs (unwipe ρ' ρ own)) : Lc t own c e ds ρ p := by
  obtain ⟨ws, ρ', h2, h3⟩ := lcl_inv P hs ds [] _ h1
  exact ⟨h0, ws, ρ', h2, hd _ _ (by simpa using h3)⟩
/-- a comprehension that leaves all as it is -/
theorem lc_fm {t : Tg} {own : List Nat} {c : Mo Bool} {e : Mo Hd} {ds : List D} {ρ : En} {p : List D → En → Prop} (f : D → Option D) (h0 : plainAt ρ own = true) (hl : ds.length ≤ sizeLine)
    (hs : ∀ d, d ∈ ds → Som (setT t d (wipeE ρ own)) fun ρ1 => Okv c ρ1 fun k ρ2 => Ifb k (Okv e ρ2 fun h ρ3 => Okv (freeze h) ρ3 fun v ρ4 => f d = some v ∧ wipeE ρ4 own = wipeE ρ own) (f d = none ∧ wipeE ρ2 own = wipeE ρ own))
    (hd : p (ds.filterMap f) (unwipe (wipeE ρ own) ρ own)) : Lc t own c e ds ρ p := by
  refine lc_inv (fun rs vs ρ' => ρ' = wipeE ρ own ∧ ∃ bs, ds = bs ++ rs ∧ vs = bs.filterMap f) h0 ⟨rfl, [], rfl, rfl⟩ ?_ ?_
  · rintro d rs vs ρ' ⟨rfl, bs, hb, rfl⟩
    obtain ⟨ρ1, h1, k, ρ2, h2, h3⟩ := hs d (by rw [hb]; simp)
    have hl2 : (bs.filterMap f).length < sizeLine := by
      have a1 := List.length_filterMap_le f bs
      have a2 : ds.length = bs.length + (rs.length + 1) := by rw [hb]; simp
      omega
    refine ⟨ρ1, h1, k, ρ2, h2, ?_⟩
    rcases h3 with ⟨rfl, a, ρ3, h4, v, ρ4, h5, h6, h7⟩ | ⟨rfl, h6, h7⟩
    · exact .inl ⟨rfl, a, ρ3, h4, v, ρ4, h5, hl2, h7, bs ++ [d], by rw [hb]; simp, by simp [h6]⟩
    · exact .inr ⟨rfl, h7, bs ++ [d], by rw [hb]; simp, by simp [h6]⟩
  · rintro vs ρ' ⟨rfl, bs, hb, rfl⟩
    rw [List.append_nil] at hb
    subst hb
    exact hd
theorem lc_map {t : Tg} {own : List Nat} {c : Mo Bool} {e : Mo Hd} {ds : List D} {ρ : En} {p : List D → En → Prop} (f : D → D) (h0 : plainAt ρ own = true) (hl : ds.length ≤ sizeLine)
    (hs : ∀ d, d ∈ ds → Som (setT t d (wipeE ρ own)) fun ρ1 => Okv c ρ1 fun k ρ2 => k = true ∧ Okv e ρ2 fun h ρ3 => Okv (freeze h) ρ3 fun v ρ4 => v = f d ∧ wipeE ρ4 own = wipeE ρ own)
    (hd : p (ds.map f) (unwipe (wipeE ρ own) ρ own)) : Lc t own c e ds ρ p := by
  refine lc_fm (fun d => some (f d)) h0 hl (fun d hm => ?_) (by rw [List.filterMap_eq_map']; exact hd)
  obtain ⟨ρ1, h1, k, ρ2, h2, rfl, a, ρ3, h4, v, ρ4, h5, h6, h7⟩ := hs d hm
  exact ⟨ρ1, h1, _, ρ2, h2, .inl ⟨rfl, a, ρ3, h4, v, ρ4, h5, by rw [h6], h7⟩⟩

/-! ### frames -/
section
variable {ρ : En} {v : Nat} {vs : List Nat} {s : Sl}
@[simp] theorem wipeE_n : wipeE ρ [] = ρ := by simp [wipeE]
@[simp] theorem wipeE_c : wipeE ρ (v :: vs) = (wipeE ρ vs).set v .no := by simp [wipeE]
@[simp] theorem plainAt_n : plainAt ρ [] = true := by simp [plainAt]
@[simp] theorem plainAt_c : plainAt ρ (v :: vs) = ((match ρ[v]? with
  | some (.own _ _) => false
  | _ => true) && plainAt ρ vs) := by simp [plainAt] <;> rfl
@[simp] theorem unwipe_n {ρ0 : En} : unwipe ρ ρ0 [] = ρ := by simp [unwipe]
@[simp] theorem unwipe_c {ρ0 : En} : unwipe ρ ρ0 (v :: vs) = match ρ0[v]? with
  | some s => (unwipe ρ ρ0 vs).set v s
  | none => unwipe ρ ρ0 vs := by simp [unwipe] <;> (cases ρ0[v]? <;> rfl)
end

/-! ### operations -/
section
variable {a b : List Nat} {xs ys : List D} {n m : Int}
theorem line_le {n : Nat} (h : n ≤ 1000000) : n ≤ sizeLine := by
  rw [sizeLine_eq]
  omega
theorem line_lt {n : Nat} (h : n < 1000000) : n < sizeLine := by
  rw [sizeLine_eq]
  omega
theorem add_ss (h : a.length + b.length ≤ 1000000) : addD (.str a) (.str b) = some (.str (a ++ b)) := by
  simp [addD, catStr, intOp, line_le h]
theorem add_ll (h : xs.length + ys.length ≤ 1000000) : addD (.lst xs) (.lst ys) = some (.lst (xs ++ ys)) := by
  simp [addD, catStr, catLst, intOp, line_le h]
theorem add_tt (h : xs.length + ys.length ≤ 1000000) : addD (.tup xs) (.tup ys) = some (.tup (xs ++ ys)) := by
  simp [addD, catStr, catLst, catTup, intOp, line_le h]
theorem len_s (h : a.length ≤ 1000000) : lenB2 [.str a] = some (.int a.length) := by
  simp [lenB2, lenB, line_le h]
theorem idx_s (h : a.length ≤ 1000000) : idxDD (.str a) (.int n) = (atI a n).map fun c => .str [c] := by
  simp [idxDD, idxDt, idxD, line_le h]
theorem sli_s {lo hi : Option Int} (h : a.length ≤ 1000000) : sliD (.str a) lo hi = some (.str (cutL a lo hi)) := by
  simp [sliD, line_le h]
theorem flat_rep {x : D} {k : Nat} : (List.replicate k [x]).flatten = List.replicate k x := by
  induction k with
  | zero => rfl
  | succ k ih => rw [List.replicate_succ, List.flatten_cons, ih]; rfl
theorem rep_c {x : D} {k : Nat} (h : k ≤ 1000000) : [x].length * (k : Int).toNat ≤ sizeLine := by
  rw [List.length_singleton, Nat.one_mul, Int.toNat_natCast]
  exact line_le h
theorem rep_l {x : D} {k : Int} (h : -(2 ^ 63) ≤ k ∧ k < 2 ^ 63 ∧ [x].length * k.toNat ≤ sizeLine) : repLst (.lst [x]) (.int k) = some (.lst (List.replicate k.toNat x)) := by
  unfold repLst
  rw [← flat_rep]
  exact if_pos h
theorem mul_l {x : D} {k : Int} : mulD2 (.lst [x]) (.int k) = repLst (.lst [x]) (.int k) := by
  show ((none : Option D).or (repLst (.lst [x]) (.int k))).or none = _
  rw [Option.none_or, Option.or_none]
theorem mul_s {a : List Nat} {k : Int} (h : 0 ≤ k ∧ k ≤ 1000 ∧ a.length ≤ 1000) : mulD2 (.str a) (.int k) = some (.str (List.replicate k.toNat a).flatten) := by
  show ((none : Option D).or none).or (if -(2 ^ 63) ≤ k ∧ k ≤ 1000 ∧ a.length ≤ 1000 then some (D.str (List.replicate k.toNat a).flatten) else none) = _
  rw [Option.none_or, Option.none_or, if_pos ⟨by omega, h.2.1, h.2.2⟩]
theorem mul_rep {x : D} {k : Nat} (h : k ≤ 1000000) : mulD2 (.lst [x]) (.int (k : Int)) = some (.lst (List.replicate k x)) := by
  have h2 : -(2 ^ 63) ≤ (k : Int) ∧ (k : Int) < 2 ^ 63 := ⟨by omega, by omega⟩
  have e := rep_l (x := x) ⟨h2.1, h2.2, rep_c h⟩
  rw [Int.toNat_natCast] at e
  exact mul_l.trans e
end
/-! ### repr -/
mutual
/-- what repr shows, briefly -/
def rk : D → Bool
  | .non => true
  | .bl _ => true
  | .int i => decide (0 ≤ i ∧ i ≤ 999)
  | .str s => s.all fun c => decide (c < 16 ^ 8)
  | .lst xs => rks xs
  | .tup xs => rks xs
  | .dct kvs => rkv kvs
  | _ => false
def rks : List D → Bool
  | [] => true
  | d :: ds => rk d && rks ds
def rkv : List (D × D) → Bool
  | [] => true
  | (k, v) :: r => rk k && rk v && rkv r
end
mutual
def wD : D → Nat
  | .str s => s.length
  | .lst xs => wDs xs
  | .tup xs => wDs xs
  | .dct kvs => wDv kvs
  | .int _ => 10
  | _ => 0
def wDs : List D → Nat
  | [] => 0
  | d :: ds => wD d + 1 + wDs ds
def wDv : List (D × D) → Nat
  | [] => 0
  | (k, v) :: r => wD k + wD v + 2 + wDv r
end
mutual
def dD : D → Nat
  | .lst xs => dDs xs + 1
  | .tup xs => dDs xs + 1
  | .dct kvs => dDv kvs + 1
  | _ => 0
def dDs : List D → Nat
  | [] => 0
  | d :: ds => max (dD d) (dDs ds)
def dDv : List (D × D) → Nat
  | [] => 0
  | (k, v) :: r => max (max (dD k) (dD v)) (dDv r)
end
theorem int_short : ∀ n < 1000, (PyData.shown (.int (Int.ofNat n))).length ≤ 8 := by decide +kernel
theorem int_log : ∀ n < 1000, n.log2 < 10 := by decide +kernel
mutual
theorem rk_py : ∀ {d : D}, rk d = true → ∃ p, toPy2 d = some p ∧ p.showable = true ∧ p.leavesShort 8 = true ∧ p.weight ≤ wD d ∧ p.depth ≤ dD d
  | .non, _ => ⟨.none, by simp only [toPy2], by simp [PyData.showable], by simp [PyData.leavesShort], by simp [PyData.weight], by simp [PyData.depth]⟩
  | .bl b, _ => ⟨.bool b, by simp only [toPy2], by simp [PyData.showable], by simp [PyData.leavesShort], by simp [PyData.weight], by simp [PyData.depth]⟩
  | .int i, h => by
    have h' : 0 ≤ i ∧ i ≤ 999 := by simpa [rk] using h
    obtain ⟨n, rfl⟩ := Int.eq_ofNat_of_zero_le h'.1
    have hn : n < 1000 := by omega
    have h1 := int_short n hn
    have h2 := int_log n hn
    refine ⟨.int n, by simp only [toPy2], ?_, ?_, ?_, by simp [PyData.depth]⟩
    · simp [PyData.showable]
      omega
    · simp only [PyData.leavesShort, decide_eq_true_eq]
      exact h1
    · simp only [PyData.weight, wD]
      split
      · omega
      · have : (n : Int).natAbs = n := by omega
        rw [this]
        omega
  | .str s, h => by
    have h' : ∀ c ∈ s, c < 16 ^ 8 := by simpa [rk] using h
    exact ⟨.str ⟨s.toArray⟩, by simp only [toPy2], by simp [PyData.showable], by simpa [PyData.leavesShort] using h', by simp [PyData.weight, wD], by simp [PyData.depth]⟩
  | .lst xs, h => by
    obtain ⟨ps, h1, h2, h3, h4, h5⟩ := rks_py (ds := xs) (by simpa [rk] using h)
    exact ⟨.list ps, by simp [toPy2, h1], by simpa [PyData.showable] using h2, by simpa [PyData.leavesShort] using h3, by simpa [PyData.weight, wD] using h4, by simpa [PyData.depth, dD] using h5⟩
  | .tup xs, h => by
    obtain ⟨ps, h1, h2, h3, h4, h5⟩ := rks_py (ds := xs) (by simpa [rk] using h)
    exact ⟨.tuple ps, by simp [toPy2, h1], by simpa [PyData.showable] using h2, by simpa [PyData.leavesShort] using h3, by simpa [PyData.weight, wD] using h4, by simpa [PyData.depth, dD] using h5⟩
  | .dct kvs, h => by
    obtain ⟨ps, h1, h2, h3, h4, h5⟩ := rkv_py (ds := kvs) (by simpa [rk] using h)
    exact ⟨.dict ps, by simp [toPy2, h1], by simpa [PyData.showable] using h2, by simpa [PyData.leavesShort] using h3, by simpa [PyData.weight, wD] using h4, by simpa [PyData.depth, dD] using h5⟩
  | .frz _, h => by simp [rk] at h
  | .ref _, h => by simp [rk] at h
  | .exc _ _, h => by simp [rk] at h
theorem rks_py : ∀ {ds : List D}, rks ds = true → ∃ ps, toPys2 ds = some ps ∧ PyData.showableAll ps = true ∧ PyData.leavesShortAll 8 ps = true ∧ PyData.weightAll ps ≤ wDs ds ∧ PyData.depthAll ps ≤ dDs ds
  | [], _ => ⟨[], by simp only [toPys2], by simp [PyData.showableAll], by simp [PyData.leavesShortAll], by simp [PyData.weightAll], by simp [PyData.depthAll]⟩
  | d :: ds, h => by
    have h' : rk d = true ∧ rks ds = true := by simpa [rks] using h
    obtain ⟨p, a1, a2, a3, a4, a5⟩ := rk_py h'.1
    obtain ⟨ps, b1, b2, b3, b4, b5⟩ := rks_py h'.2
    refine ⟨p :: ps, by simp [toPys2, a1, b1], by simp [PyData.showableAll, a2, b2], by simp [PyData.leavesShortAll, a3, b3], ?_, ?_⟩
    · simp only [PyData.weightAll, wDs]
      omega
    · simp only [PyData.depthAll, dDs]
      omega
theorem rkv_py : ∀ {ds : List (D × D)}, rkv ds = true → ∃ ps, toPyKv ds = some ps ∧ PyData.showableKv ps = true ∧ PyData.leavesShortKv 8 ps = true ∧ PyData.weightKv ps ≤ wDv ds ∧ PyData.depthKv ps ≤ dDv ds
  | [], _ => ⟨[], by simp only [toPyKv], by simp [PyData.showableKv], by simp [PyData.leavesShortKv], by simp [PyData.weightKv], by simp [PyData.depthKv]⟩
  | (k, v) :: ds, h => by
    have h' : (rk k = true ∧ rk v = true) ∧ rkv ds = true := by simpa [rkv] using h
    obtain ⟨p, a1, a2, a3, a4, a5⟩ := rk_py h'.1.1
    obtain ⟨q, c1, c2, c3, c4, c5⟩ := rk_py h'.1.2
    obtain ⟨ps, b1, b2, b3, b4, b5⟩ := rkv_py h'.2
    refine ⟨(p, q) :: ps, by simp [toPyKv, a1, b1, c1], by simp [PyData.showableKv, a2, b2, c2], by simp [PyData.leavesShortKv, a3, b3, c3], ?_, ?_⟩
    · simp only [PyData.weightKv, wDv]
      omega
    · simp only [PyData.depthKv, dDv]
      omega
end
theorem repr_ok {d : D} (h : rk d = true) (h1 : wD d ≤ 1048576) (h2 : dD d ≤ 60) : ∃ t, reprB2 [d] = some (.str t) := by
  obtain ⟨p, a1, a2, a3, a4, a5⟩ := rk_py h
  have hf := PyData.shown_fits (B := 8) (by omega) (by omega) a3 (by
    have e : (2 : Nat) ^ 20 = 1048576 := by decide
    omega)
  have hd : p.depth ≤ 60 := by omega
  exact ⟨p.shown.cps.toList, by simp [reprB2, a1, shw2, a2, hd, hf]⟩
theorem rks_all : ∀ {ds : List D}, rks ds = ds.all rk
  | [] => by simp [rks]
  | d :: ds => by simp [rks, rks_all (ds := ds)]
theorem wDs_le {n : Nat} : ∀ {ds : List D}, (∀ d ∈ ds, wD d ≤ n) → wDs ds ≤ (n + 1) * ds.length
  | [], _ => by simp [wDs]
  | d :: ds, h => by
    have h1 := h d (List.mem_cons_self ..)
    have h2 := wDs_le (ds := ds) fun x hx => h x (List.mem_cons_of_mem _ hx)
    simp only [wDs, List.length_cons]
    rw [Nat.mul_succ]
    omega
theorem dDs_le {n : Nat} : ∀ {ds : List D}, (∀ d ∈ ds, dD d ≤ n) → dDs ds ≤ n
  | [], _ => by simp [dDs]
  | d :: ds, h => by
    have h1 := h d (List.mem_cons_self ..)
    have h2 := dDs_le (ds := ds) fun x hx => h x (List.mem_cons_of_mem _ hx)
    simp only [dDs]
    omega
theorem rkv_all : ∀ {ds : List (D × D)}, (∀ p ∈ ds, rk p.1 = true ∧ rk p.2 = true) → rkv ds = true
  | [], _ => by simp [rkv]
  | (k, v) :: ds, h => by
    obtain ⟨h1, h2⟩ := h (k, v) (List.mem_cons_self ..)
    simp [rkv, h1, h2, rkv_all (ds := ds) fun x hx => h x (List.mem_cons_of_mem _ hx)]
theorem wDv_le {n : Nat} : ∀ {ds : List (D × D)}, (∀ p ∈ ds, wD p.1 + wD p.2 ≤ n) → wDv ds ≤ (n + 2) * ds.length
  | [], _ => by simp [wDv]
  | (k, v) :: ds, h => by
    have h1 : wD k + wD v ≤ n := h (k, v) (List.mem_cons_self ..)
    have h2 := wDv_le (ds := ds) fun x hx => h x (List.mem_cons_of_mem _ hx)
    simp only [wDv, List.length_cons]
    rw [Nat.mul_succ]
    omega
theorem dDv_le {n : Nat} : ∀ {ds : List (D × D)}, (∀ p ∈ ds, dD p.1 ≤ n ∧ dD p.2 ≤ n) → dDv ds ≤ n
  | [], _ => by simp [dDv]
  | (k, v) :: ds, h => by
    obtain ⟨h1, h3⟩ : dD k ≤ n ∧ dD v ≤ n := h (k, v) (List.mem_cons_self ..)
    have h2 := dDv_le (ds := ds) fun x hx => h x (List.mem_cons_of_mem _ hx)
    simp only [dDv]
    omega
end Mi
set_option Elab.async false
set_option linter.all false
set_option maxRecDepth 100000
set_option maxHeartbeats 2000000
/-! P4: slices, zips, ranges, indexes -/
namespace Mi
open PySem L2

section
variable {α : Type} {xs : List α} {a b c d : α}
theorem atI_n {k : Nat} : atI xs (k : Int) = xs[k]? := by
  unfold atI ixN
  rw [if_pos (by omega)]
  by_cases h : k < xs.length
  · rw [if_pos (by omega)]
    simp
  · rw [if_neg (by omega)]
    simp [List.getElem?_eq_none (Nat.le_of_not_lt h)]
@[simp] theorem atI_0 : atI (a :: xs) 0 = some a := atI_n (k := 0)
@[simp] theorem atI_1 : atI (a :: b :: xs) 1 = some b := atI_n (k := 1)
@[simp] theorem atI_2 : atI (a :: b :: c :: xs) 2 = some c := atI_n (k := 2)
@[simp] theorem atI_3 : atI (a :: b :: c :: d :: xs) 3 = some d := atI_n (k := 3)
theorem atI_some {i : Int} (h0 : 0 ≤ i) (h1 : i < xs.length) : ∃ x, atI xs i = some x ∧ x ∈ xs := by
  obtain ⟨k, rfl⟩ : ∃ k : Nat, i = k := ⟨i.toNat, by omega⟩
  have h : k < xs.length := by omega
  exact ⟨xs[k], by rw [atI_n]; simp [h], List.getElem_mem h⟩
theorem atI_m1 : atI (xs ++ [a]) (-1) = some a := by
  unfold atI ixN
  rw [if_neg (by omega), if_pos (by simp only [List.length_append, List.length_singleton]; omega)]
  have : ((-1 : Int) + ((xs ++ [a]).length : Int)).toNat = xs.length := by
    simp only [List.length_append, List.length_singleton]
    omega
  show (xs ++ [a])[_]? = _
  rw [this]
  simp
theorem atI_last (h : xs ≠ []) : atI xs (-1) = some (xs.getLast h) := by
  have := atI_m1 (xs := xs.dropLast) (a := xs.getLast h)
  rwa [List.dropLast_concat_getLast] at this
theorem cut_to {k : Nat} : cutL xs none (some (k : Int)) = xs.take k := by
  unfold cutL
  rw [HT.sIx_none, HT.sIx_nat, List.drop_zero, Nat.sub_zero]
  by_cases h : k ≤ xs.length
  · rw [Nat.min_eq_left h]
  · rw [Nat.min_eq_right (by omega), List.take_of_length_le (by omega), List.take_of_length_le (by omega)]
theorem cut_from {k : Nat} : cutL xs (some (k : Int)) none = xs.drop k := by
  unfold cutL
  rw [HT.sIx_none, HT.sIx_nat]
  by_cases h : k ≤ xs.length
  · rw [Nat.min_eq_left h, List.take_of_length_le (by simp)]
  · rw [Nat.min_eq_right (by omega), List.drop_of_length_le (Nat.le_refl _), List.drop_of_length_le (by omega)]
    simp
theorem cut_all : cutL xs none none = xs := by
  unfold cutL
  rw [HT.sIx_none, HT.sIx_none, List.drop_zero, Nat.sub_zero, List.take_length]
theorem cut_mid {j k : Nat} : cutL xs (some (j : Int)) (some (k : Int)) = (xs.drop j).take (k - j) := by
  unfold cutL
  rw [HT.sIx_nat, HT.sIx_nat]
  by_cases h : j ≤ xs.length
  · rw [Nat.min_eq_left h]
    by_cases h2 : k ≤ xs.length
    · rw [Nat.min_eq_left h2]
    · rw [Nat.min_eq_right (by omega), List.take_of_length_le (by simp), List.take_of_length_le (by simp; omega)]
  · have e1 : min j xs.length = xs.length := Nat.min_eq_right (by omega)
    rw [e1, List.drop_of_length_le (Nat.le_refl _), List.drop_of_length_le (by omega)]
    simp
theorem cut_init : cutL xs none (some (-1)) = xs.dropLast := by
  unfold cutL
  rw [HT.sIx_none]
  have : HT.sIx xs.length xs.length (some (-1)) = xs.length - 1 := by
    show (if (-1 : Int) < 0 then ((-1 : Int) + (xs.length : Int)).toNat else min (-1 : Int).toNat xs.length) = _
    rw [if_pos (by omega)]
    omega
  rw [this, List.drop_zero, Nat.sub_zero, List.dropLast_eq_take]
end
section
variable {α : Type} {xs : List α}
@[simp] theorem cut_t1 : cutL xs none (some 1) = xs.take 1 := cut_to
@[simp] theorem cut_t2 : cutL xs none (some 2) = xs.take 2 := cut_to
@[simp] theorem cut_t3 : cutL xs none (some 3) = xs.take 3 := cut_to
@[simp] theorem cut_t5 : cutL xs none (some 5) = xs.take 5 := cut_to
@[simp] theorem cut_t6 : cutL xs none (some 6) = xs.take 6 := cut_to
@[simp] theorem cut_t7 : cutL xs none (some 7) = xs.take 7 := cut_to
@[simp] theorem cut_t63 : cutL xs none (some 63) = xs.take 63 := cut_to
@[simp] theorem cut_t64 : cutL xs none (some 64) = xs.take 64 := cut_to
@[simp] theorem cut_f1 : cutL xs (some 1) none = xs.drop 1 := cut_from
@[simp] theorem cut_f2 : cutL xs (some 2) none = xs.drop 2 := cut_from
@[simp] theorem cut_f3 : cutL xs (some 3) none = xs.drop 3 := cut_from
@[simp] theorem cut_12 : cutL xs (some 1) (some 2) = (xs.drop 1).take 1 := cut_mid (j := 1) (k := 2)
@[simp] theorem cut_m1 : cutL xs none (some (-1)) = xs.dropLast := cut_init
@[simp] theorem cut_nn : cutL xs none none = xs := cut_all
@[simp] theorem cut_tn {k : Nat} : cutL xs none (some (k : Int)) = xs.take k := cut_to
@[simp] theorem cut_fn {k : Nat} : cutL xs (some (k : Int)) none = xs.drop k := cut_from
@[simp] theorem cut_fn1 {k : Nat} : cutL xs (some ((k : Int) + 1)) none = xs.drop (k + 1) := cut_from (k := k + 1)
@[simp] theorem cut_mm1 {k : Nat} : cutL xs (some (k : Int)) (some ((k : Int) + 1)) = (xs.drop k).take 1 := by
  have := cut_mid (xs := xs) (j := k) (k := k + 1)
  rw [Nat.add_sub_cancel_left] at this
  exact this
@[simp] theorem sli_t {lo hi : Option Int} {ds : List D} : sliD (.tup ds) lo hi = some (.tup (cutL ds lo hi)) := by simp [sliD]
@[simp] theorem sli_l {lo hi : Option Int} {ds : List D} : sliD (.lst ds) lo hi = some (.lst (cutL ds lo hi)) := by simp [sliD]
theorem zip_eq : ∀ {ds es : List D}, zipD ds es = (ds.zip es).map fun ab => .tup [ab.1, ab.2]
  | [], _ => by simp [zipD]
  | _ :: _, [] => by simp [zipD]
  | d :: ds, e :: es => by simp [zipD, zip_eq (ds := ds)]
@[simp] theorem zipK_t {ds es : List D} : zipK [.tup ds, .tup es] = some (zipD ds es) := by simp [zipK]
@[simp] theorem zipK_l {ds es : List D} : zipK [.lst ds, .lst es] = some (zipD ds es) := by simp [zipK]
@[simp] theorem enumK_t {ds : List D} : enumK [.tup ds] = some (enumD 0 ds) := by simp [enumK, seqT]
@[simp] theorem enumK_l {ds : List D} : enumK [.lst ds] = some (enumD 0 ds) := by simp [enumK, seqT]
@[simp] theorem ll_s {n : Nat} : 0 < sizeLine := line_lt (by omega)
@[simp] theorem ll_0 : 0 ≤ sizeLine := line_le (by omega)
@[simp] theorem ll_1 : 1 ≤ sizeLine := line_le (by omega)
@[simp] theorem ll_2 : 2 ≤ sizeLine := line_le (by omega)
@[simp] theorem ll_3 : 3 ≤ sizeLine := line_le (by omega)
@[simp] theorem ll_4 : 4 ≤ sizeLine := line_le (by omega)
@[simp] theorem ll_5 : 5 ≤ sizeLine := line_le (by omega)
@[simp] theorem ll_6 : 6 ≤ sizeLine := line_le (by omega)
@[simp] theorem ll_7 : 7 ≤ sizeLine := line_le (by omega)
@[simp] theorem ll_8 : 8 ≤ sizeLine := line_le (by omega)
@[simp] theorem ll_9 : 9 ≤ sizeLine := line_le (by omega)
@[simp] theorem ll_10 : 10 ≤ sizeLine := line_le (by omega)
@[simp] theorem ll_11 : 11 ≤ sizeLine := line_le (by omega)
@[simp] theorem ll_12 : 12 ≤ sizeLine := line_le (by omega)
@[simp] theorem ll_13 : 13 ≤ sizeLine := line_le (by omega)
@[simp] theorem ll_14 : 14 ≤ sizeLine := line_le (by omega)
@[simp] theorem ll_15 : 15 ≤ sizeLine := line_le (by omega)
@[simp] theorem ll_16 : 16 ≤ sizeLine := line_le (by omega)
@[simp] theorem ll_17 : 17 ≤ sizeLine := line_le (by omega)
@[simp] theorem ll_18 : 18 ≤ sizeLine := line_le (by omega)
@[simp] theorem ll_19 : 19 ≤ sizeLine := line_le (by omega)
@[simp] theorem ll_20 : 20 ≤ sizeLine := line_le (by omega)
@[simp] theorem ll_21 : 21 ≤ sizeLine := line_le (by omega)
@[simp] theorem ll_22 : 22 ≤ sizeLine := line_le (by omega)
@[simp] theorem ll_23 : 23 ≤ sizeLine := line_le (by omega)
@[simp] theorem ll_24 : 24 ≤ sizeLine := line_le (by omega)
@[simp] theorem ll_25 : 25 ≤ sizeLine := line_le (by omega)
@[simp] theorem ll_26 : 26 ≤ sizeLine := line_le (by omega)
@[simp] theorem ll_27 : 27 ≤ sizeLine := line_le (by omega)
@[simp] theorem ll_28 : 28 ≤ sizeLine := line_le (by omega)
@[simp] theorem ll_29 : 29 ≤ sizeLine := line_le (by omega)
@[simp] theorem ll_30 : 30 ≤ sizeLine := line_le (by omega)
@[simp] theorem ll_31 : 31 ≤ sizeLine := line_le (by omega)
@[simp] theorem ll_32 : 32 ≤ sizeLine := line_le (by omega)
@[simp] theorem ll_33 : 33 ≤ sizeLine := line_le (by omega)
@[simp] theorem ll_34 : 34 ≤ sizeLine := line_le (by omega)
@[simp] theorem ll_35 : 35 ≤ sizeLine := line_le (by omega)
@[simp] theorem ll_36 : 36 ≤ sizeLine := line_le (by omega)
@[simp] theorem ll_37 : 37 ≤ sizeLine := line_le (by omega)
@[simp] theorem ll_38 : 38 ≤ sizeLine := line_le (by omega)
@[simp] theorem ll_39 : 39 ≤ sizeLine := line_le (by omega)
@[simp] theorem ll_40 : 40 ≤ sizeLine := line_le (by omega)
@[simp] theorem tuple_l {ds : List D} : tupleB [.lst ds] = some (.tup ds) := by simp [tupleB]
@[simp] theorem tuple_t {ds : List D} : tupleB [.tup ds] = some (.tup ds) := by simp [tupleB]
@[simp] theorem list_l {ds : List D} : listB2 [.lst ds] = some (.lst ds) := by simp [listB2]
@[simp] theorem list_t {ds : List D} : listB2 [.tup ds] = some (.lst ds) := by simp [listB2]
theorem rngK1_n {n : Nat} (h : n ≤ 1000000) : rngK1 [.int (n : Int)] = some (rngD 0 n) := by
  have : smlB (n : Int) = true := by
    unfold smlB
    simp only [Bool.and_eq_true, decide_eq_true_eq]
    omega
  simp [rngK1, this]
theorem rngK2_n {i : Int} {n : Nat} (h0 : 0 ≤ i) (h1 : i ≤ 1000000) (h : n ≤ 1000000) : rngK2 [.int i, .int (i + n)] = some (rngD i n) := by
  have e1 : smlB i = true := by
    unfold smlB
    simp only [Bool.and_eq_true, decide_eq_true_eq]
    omega
  have e2 : smlB (i + n) = true := by
    unfold smlB
    simp only [Bool.and_eq_true, decide_eq_true_eq]
    omega
  simp [rngK2, e1, e2]
  congr 1
  omega
@[simp] theorem lt_ss {a b : List Nat} : ltD (.str a) (.str b) = some (.bl (strLt a b)) := by simp [ltD, cmpD, intOp, strOp]
@[simp] theorem le_ss {a b : List Nat} : leD (.str a) (.str b) = some (.bl (!strLt b a)) := by simp [leD, cmpD, intOp, strOp]
@[simp] theorem is_n {d : D} (h : ∀ l, d ≠ .ref l) : isD false d .non = some (.bl (isNon d)) := by
  cases d with
  | ref l => exact absurd rfl (h l)
  | _ => simp [isD]
@[simp] theorem isn_n {d : D} (h : ∀ l, d ≠ .ref l) : isD true d .non = some (.bl (!isNon d)) := by
  cases d with
  | ref l => exact absurd rfl (h l)
  | _ => simp [isD]
end
end Mi
set_option Elab.async false
set_option linter.all false
set_option maxRecDepth 100000
set_option maxHeartbeats 2000000
/-! P5: exceptions, dicts, keywords in another order, one step at a time -/
namespace Mi
open PySem L2
section
variable {ρ : En} {a b c k v : E} {es ks : Es} {ps : Ps} {post : Hd → En → Prop} {pB : Bool → En → Prop} {pN : Fr → En → Prop} {pF : Fl → En → Prop} {tab : List (Str × Bool)} {n : Str} {ok : List Str} {F : Fn}
theorem v_isx_0 : Okw (E.isx tab a).sm.v ρ post ↔ Okw a.sm.v ρ fun h ρ1 => Sow (deref1 ρ1 h) fun x => Sow (isxD tab x) fun k => post (.val (.bl k)) ρ1 := by
  show Okw (isxM _ _) ρ post ↔ _
  unfold isxM
  simp only [okv_bind_0, okv_deref_0, okv_lift_0, okv_pure_0]
@[simp] theorem v_isx : Okv (E.isx tab a).sm.v ρ post ↔ Okv a.sm.v ρ fun h ρ1 => Som (deref1 ρ1 h) fun x => Som (isxD tab x) fun k => post (.val (.bl k)) ρ1 := v_isx_0
theorem b_isx_0 : Okw (E.isx tab a).sm.b ρ pB ↔ Okw (E.isx tab a).sm.v ρ fun h ρ1 => Sow (deref1 ρ1 h) fun x => Sow (truD x) fun k => pB k ρ1 := okv_valB_0
@[simp] theorem b_isx : Okv (E.isx tab a).sm.b ρ pB ↔ Okv (E.isx tab a).sm.v ρ fun h ρ1 => Som (deref1 ρ1 h) fun x => Som (truD x) fun k => pB k ρ1 := b_isx_0
theorem n_isx_0 : Okw (E.isx tab a).sm.n ρ pN ↔ Okw (E.isx tab a).sm.v ρ fun h ρ1 => Okw (freeze h) ρ1 fun d ρ2 => pN (.dat d) ρ2 := okv_frzN_0
@[simp] theorem n_isx : Okv (E.isx tab a).sm.n ρ pN ↔ Okv (E.isx tab a).sm.v ρ fun h ρ1 => Okv (freeze h) ρ1 fun d ρ2 => pN (.dat d) ρ2 := n_isx_0
theorem v_att_0 : Okw (E.att n ok a).sm.v ρ post ↔ Okw a.sm.v ρ fun h ρ1 => Sow (deref1 ρ1 h) fun x => Sow (attD n ok x) fun d => post (.val d) ρ1 := by
  show Okw (attM _ _ _) ρ post ↔ _
  unfold attM
  simp only [okv_bind_0, okv_deref_0, okv_lift_0, okv_pure_0]
@[simp] theorem v_att : Okv (E.att n ok a).sm.v ρ post ↔ Okv a.sm.v ρ fun h ρ1 => Som (deref1 ρ1 h) fun x => Som (attD n ok x) fun d => post (.val d) ρ1 := v_att_0
theorem n_att_0 : Okw (E.att n ok a).sm.n ρ pN ↔ Okw (E.att n ok a).sm.v ρ fun h ρ1 => Okw (freeze h) ρ1 fun d ρ2 => pN (.dat d) ρ2 := okv_frzN_0
@[simp] theorem n_att : Okv (E.att n ok a).sm.n ρ pN ↔ Okv (E.att n ok a).sm.v ρ fun h ρ1 => Okv (freeze h) ρ1 fun d ρ2 => pN (.dat d) ρ2 := n_att_0
theorem v_lset_0 : Okw (E.lset a).sm.v ρ post ↔ Okw a.sm.v ρ fun h ρ1 => Sow (deref1 ρ1 h) fun x => Sow (lenSetB x) fun d => post (.val d) ρ1 := by
  show Okw (unM _ _) ρ post ↔ _
  unfold unM
  simp only [okv_bind_0, okv_deref_0, okv_lift_0, okv_pure_0]
@[simp] theorem v_lset : Okv (E.lset a).sm.v ρ post ↔ Okv a.sm.v ρ fun h ρ1 => Som (deref1 ρ1 h) fun x => Som (lenSetB x) fun d => post (.val d) ρ1 := v_lset_0
theorem n_lset_0 : Okw (E.lset a).sm.n ρ pN ↔ Okw (E.lset a).sm.v ρ fun h ρ1 => Okw (freeze h) ρ1 fun d ρ2 => pN (.dat d) ρ2 := okv_frzN_0
@[simp] theorem n_lset : Okv (E.lset a).sm.n ρ pN ↔ Okv (E.lset a).sm.v ρ fun h ρ1 => Okv (freeze h) ρ1 fun d ρ2 => pN (.dat d) ρ2 := n_lset_0
theorem v_get_0 : Okw (E.get a k).sm.v ρ post ↔ Okw a.sm.v ρ fun h ρ1 => Sow (deref1 ρ1 h) fun x => isDct x = true ∧ Okw k.sm.v ρ1 fun l ρ2 => Sow (deref1 ρ2 h) fun x => Sow (deref1 ρ2 l) fun y => Sow (getDD x y) fun d => post (.val d) ρ2 := by
  show Okw (getM _ _) ρ post ↔ _
  unfold getM
  simp only [okv_bind_0, okv_deref_0]
  refine iff_of_eq (congrArg _ (funext fun h => funext fun ρ1 => propext (exists_congr fun x => and_congr_right fun _ => ?_)))
  cases hs : isDct x <;> simp [hs, Ifw, Chw, Bow, Itw, Sow, okv_bind_0, okv_deref_0, okv_lift_0, okv_pure_0]
@[simp] theorem v_get : Okv (E.get a k).sm.v ρ post ↔ Okv a.sm.v ρ fun h ρ1 => Som (deref1 ρ1 h) fun x => Cnd (isDct x = true) (Okv k.sm.v ρ1 fun l ρ2 => Som (deref1 ρ2 h) fun x => Som (deref1 ρ2 l) fun y => Som (getDD x y) fun d => post (.val d) ρ2) := v_get_0
theorem n_get_0 : Okw (E.get a k).sm.n ρ pN ↔ Okw (E.get a k).sm.v ρ fun h ρ1 => Okw (freeze h) ρ1 fun d ρ2 => pN (.dat d) ρ2 := okv_frzN_0
@[simp] theorem n_get : Okv (E.get a k).sm.n ρ pN ↔ Okv (E.get a k).sm.v ρ fun h ρ1 => Okv (freeze h) ρ1 fun d ρ2 => pN (.dat d) ρ2 := n_get_0
theorem n_dct_0 : Okw (E.dct ps).sm.n ρ pN ↔ Okw (gPairs ps.ms) ρ fun hs ρ1 => Okw (freezes hs) ρ1 fun ds ρ2 => Sow (dctB ds) fun kvs => pN (.new (.dct kvs)) ρ2 := by
  show Okw (dctM _) ρ pN ↔ _
  unfold dctM
  simp only [okv_bind_0, okv_lift_0, okv_pure_0]
@[simp] theorem n_dct : Okv (E.dct ps).sm.n ρ pN ↔ Okv (gPairs ps.ms) ρ fun hs ρ1 => Okv (freezes hs) ρ1 fun ds ρ2 => Som (dctB ds) fun kvs => pN (.new (.dct kvs)) ρ2 := n_dct_0
@[simp] theorem v_dct : Okv (E.dct ps).sm.v ρ post ↔ Okv (E.dct ps).sm.n ρ fun fr ρ1 => post (.val fr.toD) ρ1 := okv_valN_0
@[simp] theorem g_nil {p : List Hd → En → Prop} : Okv (gPairs Ps.nil.ms) ρ p ↔ p [] ρ := okv_pure_0
theorem g_cons_0 {p : List Hd → En → Prop} : Okw (gPairs (Ps.cons k v ps).ms) ρ p ↔ Okw k.sm.v ρ fun h ρ1 => Okw v.sm.v ρ1 fun l ρ2 => Okw (gPairs ps.ms) ρ2 fun hs ρ3 => p (h :: l :: hs) ρ3 := by
  show Okw (Mo.bind k.sm.v fun a => Mo.bind (Mo.bind v.sm.v fun b => Mo.bind (gPairs ps.ms) fun as => Mo.pure (b :: as)) fun as => Mo.pure (a :: as)) ρ p ↔ _
  simp only [okv_bind_0, okv_pure_0]
@[simp] theorem g_cons {p : List Hd → En → Prop} : Okv (gPairs (Ps.cons k v ps).ms) ρ p ↔ Okv k.sm.v ρ fun h ρ1 => Okv v.sm.v ρ1 fun l ρ2 => Okv (gPairs ps.ms) ρ2 fun hs ρ3 => p (h :: l :: hs) ρ3 := g_cons_0
variable {na : Nat} {pm : List Nat}
theorem n_callP_0 : Okw (E.callP F es ks na pm).sm.n ρ pN ↔ Okw es.vs ρ fun hs ρ1 => Okw ks.vs ρ1 fun ls ρ2 => Okw (callF F (permL na pm (hs ++ ls))) ρ2 pN := by
  show Okw (callM F (permM _ _ (appM _ _))) ρ pN ↔ _
  unfold callM permM appM
  simp only [okv_bind_0, okv_pure_0]
@[simp] theorem n_callP : Okv (E.callP F es ks na pm).sm.n ρ pN ↔ Okv es.vs ρ fun hs ρ1 => Okv ks.vs ρ1 fun ls ρ2 => Okv (callF F (permL na pm (hs ++ ls))) ρ2 pN := n_callP_0
@[simp] theorem v_callP : Okv (E.callP F es ks na pm).sm.v ρ post ↔ Okv (E.callP F es ks na pm).sm.n ρ fun fr ρ1 => post (.val fr.toD) ρ1 := okv_valN_0
@[simp] theorem b_callP : Okv (E.callP F es ks na pm).sm.b ρ pB ↔ Okv (E.callP F es ks na pm).sm.v ρ fun h ρ1 => Som (deref1 ρ1 h) fun x => Som (truD x) fun k => pB k ρ1 := okv_valB_0
variable {cl : Str} {fs : List Str}
theorem okv_mkM_0 {g : Mo (List Hd)} : Okw (mkM cl fs g) ρ post ↔ Okw g ρ fun hs ρ1 => Okw (freezes hs) ρ1 fun ds ρ2 => ds.length = fs.length ∧ post (.val (.exc cl (fs.zip ds).reverse)) ρ2 := by
  unfold mkM
  simp only [okv_bind_0]
  refine iff_of_eq (congrArg _ (funext fun h => funext fun ρ1 => congrArg _ (funext fun k => funext fun ρ2 => ?_)))
  refine propext ⟨fun ⟨a, ρ', e, q⟩ => ?_, fun ⟨h, q⟩ => ⟨_, ρ2, if_pos h, q⟩⟩
  by_cases h : k.length = fs.length
  · have e' := (if_pos h).symm.trans e
    cases e'
    exact ⟨h, q⟩
  · have e' := (if_neg h).symm.trans e
    cases e'
@[simp] theorem v_mk : Okv (E.mk cl fs es).sm.v ρ post ↔ Okv es.vs ρ fun hs ρ1 => Okv (freezes hs) ρ1 fun ds ρ2 => Cnd (ds.length = fs.length) (post (.val (.exc cl (fs.zip ds).reverse)) ρ2) := okv_mkM_0
theorem v_mkP_0 : Okw (E.mkP cl fs es pm).sm.v ρ post ↔ Okw es.vs ρ fun hs ρ1 => Okw (freezes (permL 0 pm hs)) ρ1 fun ds ρ2 => ds.length = fs.length ∧ post (.val (.exc cl (fs.zip ds).reverse)) ρ2 := by
  show Okw (mkM _ _ (permM _ _ _)) ρ post ↔ _
  rw [okv_mkM_0]
  unfold permM
  simp only [okv_bind_0, okv_pure_0]
@[simp] theorem v_mkP : Okv (E.mkP cl fs es pm).sm.v ρ post ↔ Okv es.vs ρ fun hs ρ1 => Okv (freezes (permL 0 pm hs)) ρ1 fun ds ρ2 => Cnd (ds.length = fs.length) (post (.val (.exc cl (fs.zip ds).reverse)) ρ2) := v_mkP_0
theorem n_mk_0 : Okw (E.mk cl fs es).sm.n ρ pN ↔ Okw (E.mk cl fs es).sm.v ρ fun h ρ1 => Okw (freeze h) ρ1 fun d ρ2 => pN (.dat d) ρ2 := okv_frzN_0
@[simp] theorem n_mk : Okv (E.mk cl fs es).sm.n ρ pN ↔ Okv (E.mk cl fs es).sm.v ρ fun h ρ1 => Okv (freeze h) ρ1 fun d ρ2 => pN (.dat d) ρ2 := n_mk_0
theorem n_mkP_0 : Okw (E.mkP cl fs es pm).sm.n ρ pN ↔ Okw (E.mkP cl fs es pm).sm.v ρ fun h ρ1 => Okw (freeze h) ρ1 fun d ρ2 => pN (.dat d) ρ2 := okv_frzN_0
@[simp] theorem n_mkP : Okv (E.mkP cl fs es pm).sm.n ρ pN ↔ Okv (E.mkP cl fs es pm).sm.v ρ fun h ρ1 => Okv (freeze h) ρ1 fun d ρ2 => pN (.dat d) ρ2 := n_mkP_0
end
section
variable {kvs : List (D × D)} {s : List Nat}
@[simp] theorem get_ds : getDD (.dct kvs) (.str s) = some ((valD kvs (.inr ⟨s.toArray⟩)).getD .non) := rfl
@[simp] theorem idx_ds : idxDD (.dct kvs) (.str s) = valD kvs (.inr ⟨s.toArray⟩) := by
  show (none : Option D).or (valD kvs (.inr ⟨s.toArray⟩)) = _
  simp
@[simp] theorem isDct_d : isDct (.dct kvs) = true := rfl
@[simp] theorem list_d : listB2 [.dct kvs] = some (.lst (kvs.map (·.1))) := rfl
@[simp] theorem owD_d : Ow.toD (.dct kvs) = .dct kvs := rfl
@[simp] theorem setS_d {l : Bool} {d : D} : setS (some (.own l (.dct kvs))) (.str s) d = if kvs.length < sizeLine then some (.own l (.dct (putD kvs (.str s) (.inr ⟨s.toArray⟩) d))) else none := rfl
@[simp] theorem tru_d : truD (.dct kvs) = some (!kvs.isEmpty) := rfl
theorem list_s (h : s.length ≤ 1000000) : listB2 [.str s] = some (.lst (s.map fun c => .str [c])) := by
  simp [listB2, line_le h]
@[simp] theorem outSl_od {sl : List Sl} {l : Bool} {o u : Ow} {ρ : En} : outSl (.own l u :: sl) (.own true o :: ρ) = (outSl sl ρ).map fun r => .own true o :: r := rfl
end
/-! ### exceptions -/
def Okx {α : Type} (m : Mo α) (ρ : En) (q : Xc → En → Prop) : Prop := ∃ x ρ', m ρ = some (.ex x ρ') ∧ q x ρ'
def Fex (F : Fn) (sl : List Sl) (q : Xc → List Sl → Prop) : Prop := ∃ x sl', F sl = some (.ex x sl') ∧ q x sl'
section
variable {α β : Type} {ρ : En} {q : Xc → En → Prop}
theorem x_imp {m : Mo α} {q' : Xc → En → Prop} (h : Okx m ρ q) (i : ∀ x ρ', q x ρ' → q' x ρ') : Okx m ρ q' := by
  obtain ⟨x, ρ', h1, h2⟩ := h
  exact ⟨x, ρ', h1, i x ρ' h2⟩
theorem x_bind1 {m : Mo α} {k : α → Mo β} (h : Okx m ρ q) : Okx (Mo.bind m k) ρ q := by
  obtain ⟨x, ρ', h1, h2⟩ := h
  exact ⟨x, ρ', by simp [Mo.bind, h1], h2⟩
theorem x_bind2 {m : Mo α} {k : α → Mo β} (h : Okv m ρ fun a ρ1 => Okx (k a) ρ1 q) : Okx (Mo.bind m k) ρ q := by
  obtain ⟨a, ρ1, h1, x, ρ', h2, h3⟩ := h
  exact ⟨x, ρ', by simp [Mo.bind, h1, h2], h3⟩
variable {a b c : E} {es ks : Es} {F : Fn} {s : S} {ss tt : Ss}
theorem x_ret (h : Okx a.sm.n ρ q) : Okx (S.ret a).ms ρ q := x_bind1 h
theorem x_lst (h : Okx es.vs ρ q) : Okx (E.lst es).sm.n ρ q := x_bind1 h
theorem x_vs1 (h : Okx a.sm.v ρ q) : Okx (Es.cons a es).vs ρ q := x_bind1 h
theorem x_vs2 (h : Okv a.sm.v ρ fun _ ρ1 => Okx es.vs ρ1 q) : Okx (Es.cons a es).vs ρ q := by
  refine x_bind2 ?_
  obtain ⟨a, ρ1, h1, h2⟩ := h
  exact ⟨a, ρ1, h1, x_bind1 h2⟩
theorem x_callF {hs : List Hd} (h : Som (cal F hs ρ) fun sl => Fex F sl fun x sl' => ∃ ρ', back ρ hs sl' = some ρ' ∧ q x ρ') : Okx (callF F hs) ρ q := by
  obtain ⟨sl, h1, x, sl', h2, ρ', h3, h4⟩ := h
  unfold cal at h1
  cases ha : apart hs with
  | false => simp [ha] at h1
  | true =>
    simp [ha] at h1
    exact ⟨x, ρ', by simp [callF, h1, ha, h2, h3], h4⟩
theorem x_callN (h : Okv es.vs ρ fun hs ρ1 => Okv ks.vs ρ1 fun ls ρ2 => Okx (callF F (hs ++ ls)) ρ2 q) : Okx (E.call F es ks).sm.n ρ q := by
  show Okx (callM F (appM es.vs ks.vs)) ρ q
  refine x_bind2 ?_
  obtain ⟨hs, ρ1, h1, ls, ρ2, h2, h3⟩ := h
  exact ⟨hs ++ ls, ρ2, by simp [appM, Mo.bind, Mo.pure, h1, h2], h3⟩
theorem x_callV (h : Okx (E.call F es ks).sm.n ρ q) : Okx (E.call F es ks).sm.v ρ q := x_bind1 h
theorem x_ss1 (h : Okx s.ms ρ q) : Okx (Ss.cons s ss).ms ρ q := by
  obtain ⟨x, ρ', h1, h2⟩ := h
  refine ⟨x, ρ', ?_, h2⟩
  show seqS s.ms ss.ms ρ = _
  simp [seqS, h1]
theorem x_ss2 (h : Okv s.ms ρ fun fl ρ1 => fl = .nx ∧ Okx ss.ms ρ1 q) : Okx (Ss.cons s ss).ms ρ q := by
  obtain ⟨fl, ρ1, h1, rfl, x, ρ', h2, h3⟩ := h
  refine ⟨x, ρ', ?_, h3⟩
  show seqS s.ms ss.ms ρ = _
  simp [seqS, h1, h2]
theorem x_ite (h : Okv c.sm.b ρ fun k ρ1 => (k = true ∧ Okx ss.ms ρ1 q) ∨ (k = false ∧ Okx tt.ms ρ1 q)) : Okx (S.ite c ss tt).ms ρ q := by
  show Okx (ifM c.sm.b ss.ms tt.ms) ρ q
  refine x_bind2 ?_
  obtain ⟨k, ρ1, h1, ⟨rfl, h2⟩ | ⟨rfl, h2⟩⟩ := h
  · exact ⟨_, ρ1, h1, h2⟩
  · exact ⟨_, ρ1, h1, h2⟩
theorem x_raise {cl : Str} {fs : List Str} (h : Okv es.vs ρ fun hs ρ1 => Okv (freezes hs) ρ1 fun ds ρ2 => ds.length = fs.length ∧ q ⟨cl, (fs.zip ds).reverse⟩ ρ2) : Okx (S.raise cl fs es).ms ρ q := by
  show Okx (raiseM cl fs es.vs) ρ q
  refine x_bind2 ?_
  obtain ⟨hs, ρ1, h1, ds, ρ2, h2, h3, h4⟩ := h
  refine ⟨hs, ρ1, h1, x_bind2 ⟨ds, ρ2, h2, ⟨cl, (fs.zip ds).reverse⟩, ρ2, ?_, h4⟩⟩
  simp [h3]
def OutX (sl : List Sl) (ρ : En) (q : List Sl → Prop) : Prop := ∃ r, outSl sl ρ = some r ∧ q r
theorem x_run {n np : Nat} {f : Ms} {sl : List Sl} {q : Xc → List Sl → Prop} (h1 : sl.length = np) (h2 : sl.all isLent = true) (h : Okx f (sl ++ List.replicate (n - np) .no) fun x ρ => OutX sl ρ fun r => q x r) : Fex (runF n np f) sl q := by
  obtain ⟨x, ρ', h3, r, h4, h5⟩ := h
  refine ⟨x, r, ?_, h5⟩
  unfold runF
  simp [h1, h2, h3, h4]
theorem try_ok {pF : Fl → En → Prop} {hs : Hs} (h : Okv ss.ms ρ pF) : Okv (S.tryH ss hs).ms ρ pF := by
  obtain ⟨fl, ρ', h1, h2⟩ := h
  refine ⟨fl, ρ', ?_, h2⟩
  show tryM ss.ms hs.ms ρ = _
  simp [tryM, h1]
theorem try_ex {pF : Fl → En → Prop} {hs : Hs} (h : Okx ss.ms ρ fun x ρ1 => Okv (catchM x hs.ms) ρ1 pF) : Okv (S.tryH ss hs).ms ρ pF := by
  obtain ⟨x, ρ1, h1, fl, ρ', h2, h3⟩ := h
  refine ⟨fl, ρ', ?_, h3⟩
  show tryM ss.ms hs.ms ρ = _
  simp [tryM, h1, h2]
/-- the first clause takes it, under a name -/
theorem catch_as {x : Xc} {pF : Fl → En → Prop} {tab : List (Str × Bool)} {i : Nat} {hs : Hs} (ht : tab.lookup x.c = some true) (hi : i < ρ.length) (h : Okv ss.ms (ρ.set i (.v (.exc x.c x.fs))) fun fl ρ1 => (∃ fr, fl = .rt fr ∧ pF fl ρ1) ∨ ((∀ fr, fl ≠ .rt fr) ∧ pF fl (ρ1.set i .no))) :
    Okv (catchM x (Hs.cons tab (some i) ss hs).ms) ρ pF := by
  obtain ⟨fl, ρ1, h1, h2⟩ := h
  show Okw (catchM x (⟨tab, some i, ss.ms⟩ :: hs.ms)) ρ pF
  rcases h2 with ⟨fr, rfl, h2⟩ | ⟨hn, h2⟩
  · exact ⟨_, ρ1, by simp [catchM, ht, hi, h1], h2⟩
  · refine ⟨fl, ρ1.set i .no, ?_, h2⟩
    cases fl with
    | rt fr => exact absurd rfl (hn fr)
    | _ => simp [catchM, ht, hi, h1]
/-- it does not take it -/
theorem catch_no {x : Xc} {pF : Fl → En → Prop} {tab : List (Str × Bool)} {o : Option Nat} {hs : Hs} (ht : tab.lookup x.c = some false) (h : Okv (catchM x hs.ms) ρ pF) : Okv (catchM x (Hs.cons tab o ss hs).ms) ρ pF := by
  obtain ⟨fl, ρ1, h1, h2⟩ := h
  exact ⟨fl, ρ1, by
    show catchM x (⟨tab, o, ss.ms⟩ :: hs.ms) ρ = _
    simp [catchM, ht, h1], h2⟩
end
end Mi
set_option Elab.async false
set_option linter.all false
set_option maxRecDepth 100000
set_option maxHeartbeats 0
namespace Lwk01
open PySem L2 Mi
/-- 'sweep' -/
def s0 : List Nat := [115, 119, 101, 101, 112]
/-- 'fall' -/
def s1 : List Nat := [102, 97, 108, 108]
/-- 'a' -/
def s2 : List Nat := [97]
/-- '0' -/
def s3 : List Nat := [48]
/-- '-' -/
def s4 : List Nat := [45]
def s5 : List Nat := [98, 10]
/-- 'a b' -/
def s6 : List Nat := [97, 32, 98]
/-- '1' -/
def s7 : List Nat := [49]
/-- 'a1' -/
def s8 : List Nat := [97, 49]
/-- 'A' -/
def s9 : List Nat := [65]
/-- 'abcdefghi' -/
def s10 : List Nat := [97, 98, 99, 100, 101, 102, 103, 104, 105]
/-- 'abcdefgh' -/
def s11 : List Nat := [97, 98, 99, 100, 101, 102, 103, 104]
/-- '' -/
def s12 : List Nat := []
abbrev cls : List ClI := [⟨"HoldError", [], ["HoldError", "ValueError"], false, none, []⟩, ⟨"TurnError", [], ["TurnError", "RuntimeError"], false, none, []⟩, ⟨"AbsentError", [], ["AbsentError", "LookupError"], false, none, []⟩, ⟨"SizeError", [], ["SizeError", "OverflowError"], false, none, []⟩, ⟨"InvalidKey", ["value"], ["InvalidKey", "HoldError", "ValueError"], true, none, [(["value"], [0])]⟩, ⟨"InvalidValue", ["value"], ["InvalidValue", "HoldError", "ValueError"], true, none, [(["value"], [0])]⟩, ⟨"InvalidView", ["value"], ["InvalidView", "HoldError", "ValueError"], true, none, [(["value"], [0])]⟩, ⟨"InvalidLoss", ["value"], ["InvalidLoss", "HoldError", "ValueError"], true, none, [(["value"], [0])]⟩, ⟨"InvalidPages", ["value"], ["InvalidPages", "HoldError", "ValueError"], true, none, [(["value"], [0])]⟩, ⟨"InvalidRow", ["index"], ["InvalidRow", "HoldError", "ValueError"], true, none, [(["index"], [0])]⟩, ⟨"InvalidText", ["line", "word"], ["InvalidText", "HoldError", "ValueError"], true, none, [(["word", "line"], [1, 0])]⟩, ⟨"Barred", ["bar"], ["Barred", "HoldError", "ValueError"], true, none, [(["bar"], [0])]⟩, ⟨"Unplayed", ["index"], ["Unplayed", "HoldError", "ValueError"], true, none, [(["index"], [0])]⟩, ⟨"InvalidAccounts", ["index"], ["InvalidAccounts", "HoldError", "ValueError"], true, none, [(["index"], [0])]⟩, ⟨"Unfit", ["account", "run"], ["Unfit", "HoldError", "ValueError"], true, none, [(["run", "account"], [1, 0])]⟩, ⟨"InvalidQuestion", ["value"], ["InvalidQuestion", "HoldError", "ValueError"], true, none, [(["value"], [0])]⟩, ⟨"InvalidMoment", ["moment"], ["InvalidMoment", "HoldError", "ValueError"], true, none, [(["moment"], [0])]⟩, ⟨"InvalidMost", ["most"], ["InvalidMost", "HoldError", "ValueError"], true, none, [(["most"], [0])]⟩, ⟨"Lied", ["lie"], ["Lied", "HoldError", "ValueError"], true, none, [(["lie"], [0])]⟩, ⟨"UnknownCommand", [], ["UnknownCommand", "HoldError", "ValueError"], true, none, []⟩, ⟨"NameTaken", ["name"], ["NameTaken", "HoldError", "ValueError"], true, none, [(["name"], [0])]⟩, ⟨"Ended", [], ["Ended", "TurnError", "RuntimeError"], true, none, []⟩, ⟨"NotOuter", [], ["NotOuter", "TurnError", "RuntimeError"], true, none, []⟩, ⟨"Unasked", ["account", "run", "note"], ["Unasked", "TurnError", "RuntimeError"], true, none, [(["note", "run", "account"], [2, 1, 0])]⟩, ⟨"Occupied", [], ["Occupied", "TurnError", "RuntimeError"], true, none, []⟩, ⟨"Busy", ["number"], ["Busy", "TurnError", "RuntimeError"], true, none, [(["number"], [0])]⟩, ⟨"Blocked", ["number"], ["Blocked", "TurnError", "RuntimeError"], true, none, [(["number"], [0])]⟩, ⟨"Taken", ["key"], ["Taken", "TurnError", "RuntimeError"], true, none, [(["key"], [0])]⟩, ⟨"NoKey", ["key"], ["NoKey", "AbsentError", "LookupError"], true, none, [(["key"], [0])]⟩, ⟨"NoPage", ["page"], ["NoPage", "AbsentError", "LookupError"], true, none, [(["page"], [0])]⟩, ⟨"NoSlot", ["slot"], ["NoSlot", "AbsentError", "LookupError"], true, none, [(["slot"], [0])]⟩, ⟨"NotDead", ["slot"], ["NotDead", "AbsentError", "LookupError"], true, none, [(["slot"], [0])]⟩, ⟨"NotPrepared", ["number"], ["NotPrepared", "AbsentError", "LookupError"], true, none, [(["number"], [0])]⟩, ⟨"NotSpan", ["row"], ["NotSpan", "AbsentError", "LookupError"], true, none, [(["row"], [0])]⟩, ⟨"NotCleaning", ["row"], ["NotCleaning", "AbsentError", "LookupError"], true, none, [(["row"], [0])]⟩, ⟨"NoNumber", ["number"], ["NoNumber", "AbsentError", "LookupError"], true, none, [(["number"], [0])]⟩, ⟨"NoTransaction", ["number"], ["NoTransaction", "AbsentError", "LookupError"], true, none, [(["number"], [0])]⟩, ⟨"NoRun", ["account", "run"], ["NoRun", "AbsentError", "LookupError"], true, none, [(["run", "account"], [1, 0])]⟩, ⟨"NoAccount", ["name"], ["NoAccount", "AbsentError", "LookupError"], true, none, [(["name"], [0])]⟩, ⟨"Full", [], ["Full", "SizeError", "OverflowError"], true, none, []⟩, ⟨"TooDeep", ["limit"], ["TooDeep", "SizeError", "OverflowError"], true, none, [(["limit"], [0])]⟩, ⟨"TooLong", ["limit"], ["TooLong", "SizeError", "OverflowError"], true, none, [(["limit"], [0])]⟩, ⟨"OverflowError", [], [], false, some "OverflowError", []⟩, ⟨"LookupError", [], [], false, some "LookupError", []⟩, ⟨"RuntimeError", [], [], false, some "RuntimeError", []⟩, ⟨"ValueError", [], [], false, some "ValueError", []⟩]
def b_law_pen : Ss := (.cons (.ret (.lst (.cons (.bi .list (.cons (.sli (.var 0) .no (.so (.con (.int 63)))) .nil)) (.cons (.con (.int 0)) (.cons (.con (.int 0)) .nil))))) .nil)
def F_law_pen : Fn := runF 1 1 b_law_pen.ms
def b_law_draw : Ss := (.cons (.ite (.cmp .gt (.idx (.var 0) (.con (.int 2))) (.con (.int 0))) (.cons (.asg 2 (.op .mod (.bi .int (.cons (.idx (.var 0) (.con (.int 2))) .nil)) (.var 1))) (.cons (.set 0 (.con (.int 2)) (.op .fdiv (.bi .int (.cons (.idx (.var 0) (.con (.int 2))) .nil)) (.var 1))) (.cons (.retV 2) .nil))) .nil) (.cons (.asg 3 (.bi .int (.cons (.idx (.var 0) (.con (.int 1))) .nil))) (.cons (.set 0 (.con (.int 1)) (.op .add (.var 3) (.con (.int 1)))) (.cons (.asg 4 (.op .add (.op .mul (.con (.int 91193)) (.var 3)) (.con (.int 377)))) (.cons (.ite (.cmp .ne (.idx (.var 0) (.con (.int 0))) (.lst .nil)) (.cons (.asg 4 (.bi .int (.cons (.idx (.idx (.var 0) (.con (.int 0))) (.op .mod (.bi .int (.cons (.var 3) .nil)) (.bi .len (.cons (.idx (.var 0) (.con (.int 0))) .nil)))) .nil))) .nil) .nil) (.cons (.ite (.and (.cmp .lt (.var 3) (.bi .len (.cons (.idx (.var 0) (.con (.int 0))) .nil))) (.cmp .ge (.bi .abs (.cons (.var 4) .nil)) (.op .pow (.con (.int 10)) (.con (.int 18))))) (.cons (.asg 5 (.op .add (.op .mul (.con (.int 2)) (.op .sub (.bi .abs (.cons (.var 4) .nil)) (.op .pow (.con (.int 10)) (.con (.int 18))))) (.bi .int (.cons (.cmp .lt (.var 4) (.con (.int 0))) .nil)))) (.cons (.set 0 (.con (.int 2)) (.op .fdiv (.var 5) (.var 1))) (.cons (.ret (.op .mod (.bi .int (.cons (.var 5) .nil)) (.var 1))) .nil))) .nil) (.cons (.asg 6 (.op .mod (.bi .int (.cons (.op .pow (.op .add (.op .add (.op .mod (.bi .int (.cons (.var 4) .nil)) (.con (.int 2147483579))) (.op .mul (.con (.int 51407)) (.var 3))) (.con (.int 61))) (.con (.int 5))) .nil)) (.con (.int 2147483647)))) (.cons (.asg 6 (.op .mod (.bi .int (.cons (.op .pow (.op .add (.op .add (.op .mul (.var 6) (.op .add (.op .mul (.con (.int 2)) (.var 3)) (.con (.int 19)))) (.op .mul (.op .mul (.con (.int 70223)) (.var 3)) (.var 3))) (.con (.int 7))) (.con (.int 3))) .nil)) (.con (.int 2147483629)))) (.cons (.ret (.op .mod (.bi .int (.cons (.op .fdiv (.var 6) (.con (.int 32))) .nil)) (.var 1))) .nil)))))))))
def F_law_draw : Fn := runF 7 2 b_law_draw.ms
def b_law_pick : Ss := (.cons (.ret (.idx (.var 1) (.call F_law_draw (.cons (.var 0) (.cons (.bi .len (.cons (.var 1) .nil)) .nil)) .nil))) .nil)
def F_law_pick : Fn := runF 2 2 b_law_pick.ms
def b_law_odd : Ss := (.cons (.asg 1 (.lst (.cons (.con .non) (.cons (.con (.bl true)) (.cons (.con (.bl false)) (.cons (.con (.int 0)) (.cons (.con (.int 1)) (.cons (.neg (.con (.int 1))) (.cons (.con (.int 7)) (.cons (.con (.int 8)) (.cons (.con (.int 999999)) (.cons (.con (.int 1000000)) (.cons (.op .pow (.con (.int 10)) (.con (.int 59))) (.cons (.op .sub (.con (.int 0)) (.op .pow (.con (.int 10)) (.con (.int 59)))) (.cons (.con (.str s12)) (.cons (.con (.str s2)) (.cons (.con (.str s11)) .nil))))))))))))))))) (.cons (.asg 1 (.op .add (.var 1) (.lst (.cons (.con (.str s10)) (.cons (.con (.str s9)) (.cons (.con (.str s8)) (.cons (.con (.str s7)) (.cons (.con (.str s6)) (.cons (.con (.str s5)) (.cons (.con (.str s4)) (.cons (.tup .nil) (.cons (.tup (.cons (.con (.int 0)) (.cons (.con (.int 0)) .nil))) (.cons (.tup (.cons (.con (.int 7)) (.cons (.con (.int 7)) .nil))) (.cons (.tup (.cons (.con (.int 0)) (.cons (.con (.int 8)) .nil))) (.cons (.tup (.cons (.neg (.con (.int 1))) (.cons (.con (.int 0)) .nil))) (.cons (.lst (.cons (.con (.int 0)) (.cons (.con (.int 0)) .nil))) .nil)))))))))))))))) (.cons (.asg 1 (.op .add (.var 1) (.lst (.cons (.tup (.cons (.con (.bl true)) (.cons (.con (.int 0)) .nil))) (.cons (.tup (.cons (.con (.int 0)) (.cons (.con (.int 0)) (.cons (.con (.int 0)) .nil)))) (.cons (.lst .nil) (.cons .dic (.cons (.tup (.cons (.con (.str s3)) (.cons (.con (.int 0)) .nil))) (.cons (.tup (.cons (.con (.int 0)) .nil)) (.cons (.lst (.cons (.con .non) .nil)) (.cons (.dct (.cons (.con (.str s2)) (.con (.int 1)) .nil)) (.cons (.tup (.cons (.con (.str s1)) .nil)) (.cons (.con (.str s1)) (.cons (.lst (.cons (.tup (.cons (.con (.str s1)) .nil)) .nil)) .nil)))))))))))))) (.cons (.ret (.call F_law_pick (.cons (.var 0) (.cons (.op .add (.var 1) (.lst (.cons (.tup (.cons (.con (.str s0)) (.cons (.con .non) .nil))) .nil))) .nil)) .nil)) .nil))))
def F_law_odd : Fn := runF 2 1 b_law_odd.ms
def b_law_made : Ss := (.cons (.asg 3 (.lst (.cons (.mk "InvalidKey" ["value"] (.cons (.var 0) .nil)) (.cons (.mk "InvalidValue" ["value"] (.cons (.var 0) .nil)) (.cons (.mk "InvalidView" ["value"] (.cons (.var 0) .nil)) (.cons (.mk "InvalidLoss" ["value"] (.cons (.var 0) .nil)) .nil)))))) (.cons (.asg 3 (.op .add (.var 3) (.lst (.cons (.mk "InvalidPages" ["value"] (.cons (.var 0) .nil)) (.cons (.mk "InvalidRow" ["index"] (.cons (.var 0) .nil)) (.cons (.mk "InvalidText" ["line", "word"] (.cons (.var 0) (.cons (.var 1) .nil))) (.cons (.mk "Barred" ["bar"] (.cons (.var 0) .nil)) (.cons (.mk "Unplayed" ["index"] (.cons (.var 0) .nil)) .nil)))))))) (.cons (.asg 3 (.op .add (.var 3) (.lst (.cons (.mk "InvalidAccounts" ["index"] (.cons (.var 0) .nil)) (.cons (.mk "Unfit" ["account", "run"] (.cons (.var 0) (.cons (.var 1) .nil))) (.cons (.mk "InvalidQuestion" ["value"] (.cons (.var 0) .nil)) (.cons (.mk "InvalidMoment" ["moment"] (.cons (.var 0) .nil)) (.cons (.mk "InvalidMost" ["most"] (.cons (.var 0) .nil)) .nil)))))))) (.cons (.asg 3 (.op .add (.var 3) (.lst (.cons (.mk "Lied" ["lie"] (.cons (.var 0) .nil)) (.cons (.mk "UnknownCommand" [] .nil) (.cons (.mk "NameTaken" ["name"] (.cons (.var 0) .nil)) (.cons (.mk "Ended" [] .nil) (.cons (.mk "NotOuter" [] .nil) (.cons (.mk "Busy" ["number"] (.cons (.var 0) .nil)) (.cons (.mk "Blocked" ["number"] (.cons (.var 0) .nil)) .nil)))))))))) (.cons (.asg 3 (.op .add (.var 3) (.lst (.cons (.mk "Taken" ["key"] (.cons (.var 0) .nil)) (.cons (.mk "Unasked" ["account", "run", "note"] (.cons (.var 0) (.cons (.var 1) (.cons (.var 2) .nil)))) (.cons (.mk "Occupied" [] .nil) (.cons (.mk "NoKey" ["key"] (.cons (.var 0) .nil)) .nil))))))) (.cons (.asg 3 (.op .add (.var 3) (.lst (.cons (.mk "NoPage" ["page"] (.cons (.var 0) .nil)) (.cons (.mk "NoSlot" ["slot"] (.cons (.var 0) .nil)) (.cons (.mk "NotDead" ["slot"] (.cons (.var 0) .nil)) (.cons (.mk "NotPrepared" ["number"] (.cons (.var 0) .nil)) .nil))))))) (.cons (.asg 3 (.op .add (.var 3) (.lst (.cons (.mk "NotSpan" ["row"] (.cons (.var 0) .nil)) (.cons (.mk "NotCleaning" ["row"] (.cons (.var 0) .nil)) (.cons (.mk "NoNumber" ["number"] (.cons (.var 0) .nil)) (.cons (.mk "NoTransaction" ["number"] (.cons (.var 0) .nil)) (.cons (.mk "NoRun" ["account", "run"] (.cons (.var 0) (.cons (.var 1) .nil))) .nil)))))))) (.cons (.ret (.op .add (.var 3) (.lst (.cons (.mk "NoAccount" ["name"] (.cons (.var 0) .nil)) (.cons (.mk "Full" [] .nil) (.cons (.mk "TooDeep" ["limit"] (.cons (.var 0) .nil)) (.cons (.mk "TooLong" ["limit"] (.cons (.var 0) .nil)) .nil))))))) .nil))))))))
def F_law_made : Fn := runF 4 3 b_law_made.ms
def b_law_marks : Ss := (.cons (.asg 1 (.lst (.cons (.isx (tabOf cls ["InvalidKey"]) (.var 0)) (.cons (.isx (tabOf cls ["InvalidValue"]) (.var 0)) .nil)))) (.cons (.asg 1 (.op .add (.var 1) (.lst (.cons (.isx (tabOf cls ["InvalidView"]) (.var 0)) (.cons (.isx (tabOf cls ["InvalidLoss"]) (.var 0)) .nil))))) (.cons (.asg 1 (.op .add (.var 1) (.lst (.cons (.isx (tabOf cls ["InvalidPages"]) (.var 0)) (.cons (.isx (tabOf cls ["InvalidRow"]) (.var 0)) .nil))))) (.cons (.asg 1 (.op .add (.var 1) (.lst (.cons (.isx (tabOf cls ["InvalidText"]) (.var 0)) (.cons (.isx (tabOf cls ["Barred"]) (.var 0)) (.cons (.isx (tabOf cls ["Unplayed"]) (.var 0)) .nil)))))) (.cons (.asg 1 (.op .add (.var 1) (.lst (.cons (.isx (tabOf cls ["InvalidAccounts"]) (.var 0)) (.cons (.isx (tabOf cls ["Unfit"]) (.var 0)) (.cons (.isx (tabOf cls ["InvalidQuestion"]) (.var 0)) .nil)))))) (.cons (.asg 1 (.op .add (.var 1) (.lst (.cons (.isx (tabOf cls ["InvalidMoment"]) (.var 0)) (.cons (.isx (tabOf cls ["InvalidMost"]) (.var 0)) (.cons (.isx (tabOf cls ["Lied"]) (.var 0)) .nil)))))) (.cons (.asg 1 (.op .add (.var 1) (.lst (.cons (.isx (tabOf cls ["UnknownCommand"]) (.var 0)) (.cons (.isx (tabOf cls ["NameTaken"]) (.var 0)) (.cons (.isx (tabOf cls ["Ended"]) (.var 0)) .nil)))))) (.cons (.asg 1 (.op .add (.var 1) (.lst (.cons (.isx (tabOf cls ["NotOuter"]) (.var 0)) (.cons (.isx (tabOf cls ["Busy"]) (.var 0)) (.cons (.isx (tabOf cls ["Blocked"]) (.var 0)) .nil)))))) (.cons (.asg 1 (.op .add (.var 1) (.lst (.cons (.isx (tabOf cls ["Taken"]) (.var 0)) (.cons (.isx (tabOf cls ["Unasked"]) (.var 0)) (.cons (.isx (tabOf cls ["Occupied"]) (.var 0)) .nil)))))) (.cons (.asg 1 (.op .add (.var 1) (.lst (.cons (.isx (tabOf cls ["NoKey"]) (.var 0)) (.cons (.isx (tabOf cls ["NoPage"]) (.var 0)) .nil))))) (.cons (.asg 1 (.op .add (.var 1) (.lst (.cons (.isx (tabOf cls ["NoSlot"]) (.var 0)) (.cons (.isx (tabOf cls ["NotDead"]) (.var 0)) .nil))))) (.cons (.asg 1 (.op .add (.var 1) (.lst (.cons (.isx (tabOf cls ["NotPrepared"]) (.var 0)) (.cons (.isx (tabOf cls ["NotSpan"]) (.var 0)) .nil))))) (.cons (.asg 1 (.op .add (.var 1) (.lst (.cons (.isx (tabOf cls ["NotCleaning"]) (.var 0)) (.cons (.isx (tabOf cls ["NoNumber"]) (.var 0)) .nil))))) (.cons (.asg 1 (.op .add (.var 1) (.lst (.cons (.isx (tabOf cls ["NoTransaction"]) (.var 0)) (.cons (.isx (tabOf cls ["NoRun"]) (.var 0)) (.cons (.isx (tabOf cls ["NoAccount"]) (.var 0)) .nil)))))) (.cons (.ret (.op .add (.var 1) (.lst (.cons (.isx (tabOf cls ["Full"]) (.var 0)) (.cons (.isx (tabOf cls ["TooDeep"]) (.var 0)) (.cons (.isx (tabOf cls ["TooLong"]) (.var 0)) .nil)))))) .nil)))))))))))))))
def F_law_marks : Fn := runF 2 1 b_law_marks.ms
def b_law_bases : Ss := (.cons (.asg 1 (.lst (.cons (.isx (tabOf cls ["HoldError"]) (.var 0)) (.cons (.isx (tabOf cls ["TurnError"]) (.var 0)) (.cons (.isx (tabOf cls ["AbsentError"]) (.var 0)) .nil))))) (.cons (.asg 1 (.op .add (.var 1) (.lst (.cons (.isx (tabOf cls ["SizeError"]) (.var 0)) (.cons (.isx (tabOf cls ["ValueError"]) (.var 0)) (.cons (.isx (tabOf cls ["RuntimeError"]) (.var 0)) .nil)))))) (.cons (.ret (.op .add (.var 1) (.lst (.cons (.isx (tabOf cls ["LookupError"]) (.var 0)) (.cons (.isx (tabOf cls ["OverflowError"]) (.var 0)) .nil))))) .nil)))
def F_law_bases : Fn := runF 2 1 b_law_bases.ms
def b_law_kept : Ss := (.cons (.asg 2 (.lst (.cons (.att "value" (okFor cls "value") (.mk "InvalidKey" ["value"] (.cons (.var 0) .nil))) (.cons (.att "value" (okFor cls "value") (.mk "InvalidValue" ["value"] (.cons (.var 0) .nil))) (.cons (.att "value" (okFor cls "value") (.mk "InvalidView" ["value"] (.cons (.var 0) .nil))) (.cons (.att "value" (okFor cls "value") (.mk "InvalidLoss" ["value"] (.cons (.var 0) .nil))) .nil)))))) (.cons (.asg 2 (.op .add (.var 2) (.lst (.cons (.att "value" (okFor cls "value") (.mk "InvalidPages" ["value"] (.cons (.var 0) .nil))) (.cons (.att "index" (okFor cls "index") (.mk "InvalidRow" ["index"] (.cons (.var 0) .nil))) (.cons (.att "line" (okFor cls "line") (.mk "InvalidText" ["line", "word"] (.cons (.var 0) (.cons (.var 1) .nil)))) (.cons (.att "bar" (okFor cls "bar") (.mk "Barred" ["bar"] (.cons (.var 0) .nil))) .nil))))))) (.cons (.asg 2 (.op .add (.var 2) (.lst (.cons (.att "index" (okFor cls "index") (.mk "Unplayed" ["index"] (.cons (.var 0) .nil))) (.cons (.att "index" (okFor cls "index") (.mk "InvalidAccounts" ["index"] (.cons (.var 0) .nil))) (.cons (.att "account" (okFor cls "account") (.mk "Unfit" ["account", "run"] (.cons (.var 0) (.cons (.var 1) .nil)))) (.cons (.att "value" (okFor cls "value") (.mk "InvalidQuestion" ["value"] (.cons (.var 0) .nil))) .nil))))))) (.cons (.asg 2 (.op .add (.var 2) (.lst (.cons (.att "moment" (okFor cls "moment") (.mk "InvalidMoment" ["moment"] (.cons (.var 0) .nil))) (.cons (.att "most" (okFor cls "most") (.mk "InvalidMost" ["most"] (.cons (.var 0) .nil))) (.cons (.att "lie" (okFor cls "lie") (.mk "Lied" ["lie"] (.cons (.var 0) .nil))) (.cons (.att "account" (okFor cls "account") (.mk "Unasked" ["account", "run", "note"] (.cons (.var 0) (.cons (.var 1) (.cons (.var 0) .nil))))) .nil))))))) (.cons (.asg 2 (.op .add (.var 2) (.lst (.cons (.att "account" (okFor cls "account") (.mk "NoRun" ["account", "run"] (.cons (.var 0) (.cons (.var 1) .nil)))) (.cons (.att "name" (okFor cls "name") (.mk "NoAccount" ["name"] (.cons (.var 0) .nil))) (.cons (.att "name" (okFor cls "name") (.mk "NameTaken" ["name"] (.cons (.var 0) .nil))) (.cons (.att "number" (okFor cls "number") (.mk "Busy" ["number"] (.cons (.var 0) .nil))) .nil))))))) (.cons (.asg 2 (.op .add (.var 2) (.lst (.cons (.att "number" (okFor cls "number") (.mk "Blocked" ["number"] (.cons (.var 0) .nil))) (.cons (.att "key" (okFor cls "key") (.mk "Taken" ["key"] (.cons (.var 0) .nil))) (.cons (.att "key" (okFor cls "key") (.mk "NoKey" ["key"] (.cons (.var 0) .nil))) .nil)))))) (.cons (.asg 2 (.op .add (.var 2) (.lst (.cons (.att "page" (okFor cls "page") (.mk "NoPage" ["page"] (.cons (.var 0) .nil))) (.cons (.att "slot" (okFor cls "slot") (.mk "NoSlot" ["slot"] (.cons (.var 0) .nil))) (.cons (.att "slot" (okFor cls "slot") (.mk "NotDead" ["slot"] (.cons (.var 0) .nil))) (.cons (.att "number" (okFor cls "number") (.mk "NotPrepared" ["number"] (.cons (.var 0) .nil))) .nil))))))) (.cons (.asg 2 (.op .add (.var 2) (.lst (.cons (.att "row" (okFor cls "row") (.mk "NotSpan" ["row"] (.cons (.var 0) .nil))) (.cons (.att "row" (okFor cls "row") (.mk "NotCleaning" ["row"] (.cons (.var 0) .nil))) (.cons (.att "number" (okFor cls "number") (.mk "NoNumber" ["number"] (.cons (.var 0) .nil))) (.cons (.att "number" (okFor cls "number") (.mk "NoTransaction" ["number"] (.cons (.var 0) .nil))) .nil))))))) (.cons (.asg 2 (.op .add (.var 2) (.lst (.cons (.att "limit" (okFor cls "limit") (.mk "TooDeep" ["limit"] (.cons (.var 0) .nil))) (.cons (.att "limit" (okFor cls "limit") (.mk "TooLong" ["limit"] (.cons (.var 0) .nil))) .nil))))) (.cons (.asg 3 (.lst (.cons (.att "word" (okFor cls "word") (.mk "InvalidText" ["line", "word"] (.cons (.var 0) (.cons (.var 1) .nil)))) (.cons (.att "run" (okFor cls "run") (.mk "Unfit" ["account", "run"] (.cons (.var 0) (.cons (.var 1) .nil)))) (.cons (.att "run" (okFor cls "run") (.mk "Unasked" ["account", "run", "note"] (.cons (.var 0) (.cons (.var 1) (.cons (.var 0) .nil))))) (.cons (.att "note" (okFor cls "note") (.mk "Unasked" ["account", "run", "note"] (.cons (.var 0) (.cons (.var 0) (.cons (.var 1) .nil))))) .nil)))))) (.cons (.expr (.app 3 (.att "run" (okFor cls "run") (.mk "NoRun" ["account", "run"] (.cons (.var 0) (.cons (.var 1) .nil)))))) (.cons (.ret (.and (.cmp .eq (.bi .repr (.cons (.var 2) .nil)) (.bi .repr (.cons (.op .mul (.lst (.cons (.var 0) .nil)) (.con (.int 33))) .nil))) (.cmp .eq (.bi .repr (.cons (.var 3) .nil)) (.bi .repr (.cons (.op .mul (.lst (.cons (.var 1) .nil)) (.con (.int 5))) .nil))))) .nil))))))))))))
def F_law_kept : Fn := runF 4 2 b_law_kept.ms
def b_law_kept_by_name : Ss := (.cons (.asg 2 (.mkP "InvalidText" ["line", "word"] (.cons (.var 1) (.cons (.var 0) .nil)) [1, 0])) (.cons (.asg 3 (.lst (.cons (.att "value" (okFor cls "value") (.mkP "InvalidKey" ["value"] (.cons (.var 0) .nil) [0])) (.cons (.att "value" (okFor cls "value") (.mkP "InvalidValue" ["value"] (.cons (.var 0) .nil) [0])) (.cons (.att "value" (okFor cls "value") (.mkP "InvalidView" ["value"] (.cons (.var 0) .nil) [0])) (.cons (.att "line" (okFor cls "line") (.var 2)) .nil)))))) (.cons (.asg 3 (.op .add (.var 3) (.lst (.cons (.att "value" (okFor cls "value") (.mkP "InvalidLoss" ["value"] (.cons (.var 0) .nil) [0])) (.cons (.att "value" (okFor cls "value") (.mkP "InvalidPages" ["value"] (.cons (.var 0) .nil) [0])) (.cons (.att "index" (okFor cls "index") (.mkP "InvalidRow" ["index"] (.cons (.var 0) .nil) [0])) .nil)))))) (.cons (.asg 3 (.op .add (.var 3) (.lst (.cons (.att "bar" (okFor cls "bar") (.mkP "Barred" ["bar"] (.cons (.var 0) .nil) [0])) (.cons (.att "index" (okFor cls "index") (.mkP "Unplayed" ["index"] (.cons (.var 0) .nil) [0])) (.cons (.att "index" (okFor cls "index") (.mkP "InvalidAccounts" ["index"] (.cons (.var 0) .nil) [0])) (.cons (.att "name" (okFor cls "name") (.mkP "NameTaken" ["name"] (.cons (.var 0) .nil) [0])) .nil))))))) (.cons (.asg 3 (.op .add (.var 3) (.lst (.cons (.att "value" (okFor cls "value") (.mkP "InvalidQuestion" ["value"] (.cons (.var 0) .nil) [0])) (.cons (.att "moment" (okFor cls "moment") (.mkP "InvalidMoment" ["moment"] (.cons (.var 0) .nil) [0])) (.cons (.att "most" (okFor cls "most") (.mkP "InvalidMost" ["most"] (.cons (.var 0) .nil) [0])) .nil)))))) (.cons (.asg 3 (.op .add (.var 3) (.lst (.cons (.att "lie" (okFor cls "lie") (.mkP "Lied" ["lie"] (.cons (.var 0) .nil) [0])) (.cons (.att "account" (okFor cls "account") (.mkP "Unfit" ["account", "run"] (.cons (.var 1) (.cons (.var 0) .nil)) [1, 0])) (.cons (.att "account" (okFor cls "account") (.mkP "NoRun" ["account", "run"] (.cons (.var 1) (.cons (.var 0) .nil)) [1, 0])) .nil)))))) (.cons (.asg 3 (.op .add (.var 3) (.lst (.cons (.att "account" (okFor cls "account") (.mkP "Unasked" ["account", "run", "note"] (.cons (.var 1) (.cons (.var 1) (.cons (.var 0) .nil))) [2, 1, 0])) (.cons (.att "name" (okFor cls "name") (.mkP "NoAccount" ["name"] (.cons (.var 0) .nil) [0])) .nil))))) (.cons (.asg 3 (.op .add (.var 3) (.lst (.cons (.att "number" (okFor cls "number") (.mkP "Busy" ["number"] (.cons (.var 0) .nil) [0])) (.cons (.att "number" (okFor cls "number") (.mkP "Blocked" ["number"] (.cons (.var 0) .nil) [0])) (.cons (.att "key" (okFor cls "key") (.mkP "Taken" ["key"] (.cons (.var 0) .nil) [0])) .nil)))))) (.cons (.asg 3 (.op .add (.var 3) (.lst (.cons (.att "key" (okFor cls "key") (.mkP "NoKey" ["key"] (.cons (.var 0) .nil) [0])) (.cons (.att "page" (okFor cls "page") (.mkP "NoPage" ["page"] (.cons (.var 0) .nil) [0])) .nil))))) (.cons (.asg 3 (.op .add (.var 3) (.lst (.cons (.att "slot" (okFor cls "slot") (.mkP "NoSlot" ["slot"] (.cons (.var 0) .nil) [0])) (.cons (.att "slot" (okFor cls "slot") (.mkP "NotDead" ["slot"] (.cons (.var 0) .nil) [0])) (.cons (.att "row" (okFor cls "row") (.mkP "NotSpan" ["row"] (.cons (.var 0) .nil) [0])) .nil)))))) (.cons (.asg 3 (.op .add (.var 3) (.lst (.cons (.att "number" (okFor cls "number") (.mkP "NotPrepared" ["number"] (.cons (.var 0) .nil) [0])) (.cons (.att "row" (okFor cls "row") (.mkP "NotCleaning" ["row"] (.cons (.var 0) .nil) [0])) (.cons (.att "number" (okFor cls "number") (.mkP "NoNumber" ["number"] (.cons (.var 0) .nil) [0])) .nil)))))) (.cons (.asg 3 (.op .add (.var 3) (.lst (.cons (.att "number" (okFor cls "number") (.mkP "NoTransaction" ["number"] (.cons (.var 0) .nil) [0])) (.cons (.att "limit" (okFor cls "limit") (.mkP "TooDeep" ["limit"] (.cons (.var 0) .nil) [0])) (.cons (.att "limit" (okFor cls "limit") (.mkP "TooLong" ["limit"] (.cons (.var 0) .nil) [0])) .nil)))))) (.cons (.asg 4 (.lst (.cons (.att "word" (okFor cls "word") (.var 2)) (.cons (.att "run" (okFor cls "run") (.mkP "Unfit" ["account", "run"] (.cons (.var 1) (.cons (.var 0) .nil)) [1, 0])) (.cons (.att "run" (okFor cls "run") (.mkP "NoRun" ["account", "run"] (.cons (.var 1) (.cons (.var 0) .nil)) [1, 0])) .nil))))) (.cons (.asg 4 (.op .add (.var 4) (.lst (.cons (.att "run" (okFor cls "run") (.mkP "Unasked" ["account", "run", "note"] (.cons (.var 0) (.cons (.var 1) (.cons (.var 0) .nil))) [2, 1, 0])) (.cons (.att "note" (okFor cls "note") (.mkP "Unasked" ["account", "run", "note"] (.cons (.var 1) (.cons (.var 0) (.cons (.var 0) .nil))) [2, 1, 0])) .nil))))) (.cons (.ret (.and (.cmp .eq (.bi .repr (.cons (.var 3) .nil)) (.bi .repr (.cons (.op .mul (.lst (.cons (.var 0) .nil)) (.con (.int 33))) .nil))) (.cmp .eq (.bi .repr (.cons (.var 4) .nil)) (.bi .repr (.cons (.op .mul (.lst (.cons (.var 1) .nil)) (.con (.int 5))) .nil))))) .nil)))))))))))))))
def F_law_kept_by_name : Fn := runF 5 2 b_law_kept_by_name.ms
def b_law : Ss := (.cons (.asg 1 (.call F_law_pen (.cons (.var 0) .nil) .nil)) (.cons (.for (.rng1 (.cons (.con (.int 4)) .nil)) (.nm 2) (.cons (.par [3, 4] (.cons (.call F_law_odd (.cons (.var 1) .nil) .nil) (.cons (.call F_law_odd (.cons (.var 1) .nil) .nil) .nil))) (.cons (.asg 5 (.call F_law_made (.cons (.var 3) (.cons (.var 4) (.cons (.call F_law_odd (.cons (.var 1) .nil) .nil) .nil))) .nil)) (.cons (.for (.rng1 (.cons (.con (.int 38)) .nil)) (.nm 6) (.cons (.ite (.cmp .ne (.call F_law_marks (.cons (.idx (.var 5) (.var 6)) .nil) .nil) (.lc (.rng1 (.cons (.con (.int 38)) .nil)) (.nm 7) [7] .no (.cmp .eq (.var 6) (.var 7)))) (.cons (.ret (.con (.bl false))) .nil) .nil) (.cons (.asg 8 (.lst (.cons (.cmp .lt (.var 6) (.con (.int 17))) (.cons (.chain .le .lt (.con (.int 17)) (.var 6) (.con (.int 24))) (.cons (.chain .le .lt (.con (.int 24)) (.var 6) (.con (.int 35))) (.cons (.cmp .gt (.var 6) (.con (.int 34))) .nil)))))) (.cons (.ite (.cmp .ne (.call F_law_bases (.cons (.idx (.var 5) (.var 6)) .nil) .nil) (.op .add (.var 8) (.var 8))) (.cons (.ret (.con (.bl false))) .nil) .nil) .nil)))) (.cons (.ite (.or (.not (.call F_law_kept (.cons (.var 3) (.cons (.var 4) .nil)) .nil)) (.not (.call F_law_kept_by_name (.cons (.var 3) (.cons (.var 4) .nil)) .nil))) (.cons (.ret (.con (.bl false))) .nil) .nil) .nil))))) (.cons (.ret (.con (.bl true))) .nil)))
def F_law : Fn := runF 9 1 b_law.ms
end Lwk01
set_option Elab.async false
set_option linter.all false
set_option maxRecDepth 100000
set_option maxHeartbeats 2000000
namespace Lwk01
open PySem L2 Mi

def isInt : D → Bool
  | .int _ => true
  | _ => false

mutual
def tame : D → Bool
  | .frz _ => false
  | .ref _ => false
  | .exc _ _ => false
  | .str s => decide (s.length ≤ 1000)
  | .lst ds => decide (ds.length ≤ 1000) && tames ds
  | .tup ds => decide (ds.length ≤ 1000) && tames ds
  | _ => true
def tames : List D → Bool
  | [] => true
  | d :: ds => tame d && tames ds
end
theorem tames_iff : ∀ {ds : List D}, tames ds = true ↔ ∀ d ∈ ds, tame d = true
  | [] => by simp [tames]
  | d :: ds => by simp [tames, tames_iff]
@[simp] theorem tame_n : tame .non = true := by simp [tame]
@[simp] theorem tame_b {b : Bool} : tame (.bl b) = true := by simp [tame]
@[simp] theorem tame_i {b : Int} : tame (.int b) = true := by simp [tame]
@[simp] theorem tame_d {b : List (D × D)} : tame (.dct b) = true := by simp [tame]
theorem tame_s {s : List Nat} (h : s.length ≤ 1000) : tame (.str s) = true := by simp [tame, h]
theorem tame_l {b : List D} : tame (.lst b) = (decide (b.length ≤ 1000) && tames b) := by simp [tame]
theorem tame_t {b : List D} : tame (.tup b) = (decide (b.length ≤ 1000) && tames b) := by simp [tame]
@[simp] theorem tames_n : tames [] = true := by simp [tames]
@[simp] theorem tames_c {d : D} {ds : List D} : tames (d :: ds) = (tame d && tames ds) := by simp [tames]
theorem tames_app : ∀ {as bs : List D}, tames (as ++ bs) = (tames as && tames bs)
  | [], bs => by simp
  | a :: as, bs => by simp [tames_app (as := as), Bool.and_assoc]
theorem str_le {s : List Nat} (h : tame (.str s) = true) : s.length ≤ 1000000 := by
  simp [tame] at h
  omega
theorem tup_le {s : List D} (h : tame (.tup s) = true) : s.length ≤ 1000000 := by
  simp [tame] at h
  omega
theorem tup_in {s : List D} {d : D} (h : tame (.tup s) = true) (hd : d ∈ s) : tame d = true := by
  simp [tame] at h
  exact tames_iff.mp h.2 d hd
def lim : Nat := 1000000
/-- the state of the draws -/
structure PenOk (n : Nat) (pen : List D) : Prop where
  ex : ∃ (cs : List Int) (at_ z : Int), pen = [.lst (cs.map .int), .int at_, .int z] ∧ 0 ≤ at_ ∧ at_ ≤ n ∧ 0 ≤ z ∧ cs.length ≤ 63
theorem PenOk.mono {n m : Nat} {pen : List D} (h : PenOk n pen) (hm : n ≤ m) : PenOk m pen := by
  obtain ⟨cs, a, z, h1, h2, h3, h4⟩ := h
  exact ⟨cs, a, z, h1, h2, by omega, h4⟩
theorem fmod_in {a b : Int} (h : 0 < b) : 0 ≤ a.fmod b ∧ a.fmod b < b := ⟨Int.fmod_nonneg_of_pos a h, Int.fmod_lt_of_pos a h⟩
theorem fdiv_nn {a b : Int} (ha : 0 ≤ a) (h : 0 < b) : 0 ≤ a.fdiv b := Int.fdiv_nonneg ha (by omega)
theorem at_cell {cs : List Int} {i : Int} (h0 : 0 ≤ i) (h1 : i < cs.length) : ∃ c, atI (cs.map D.int) i = some (.int c) := by
  have hi : i.toNat < cs.length := by omega
  refine ⟨cs[i.toNat], ?_⟩
  simp only [atI, ixN, List.length_map]
  rw [if_pos h0, if_pos (by omega)]
  simp [hi]
theorem mixed_in {a b : Int} (n : Int) (hb : 0 < b) (h : b ≤ 2147483648) : 0 ≤ n.fmod b ∧ n.fmod b < 2147483648 := by
  obtain ⟨h1, h2⟩ := fmod_in (a := n) hb
  exact ⟨h1, by omega⟩
theorem prod_in {x y : Int} (h1 : 0 ≤ x) (h2 : x < 2147483648) (h3 : 0 ≤ y) (h4 : y < 4294967296) : 0 ≤ x * y ∧ x * y ≤ 2147483648 * y := by
  refine ⟨Int.mul_nonneg h1 h3, Int.mul_le_mul_of_nonneg_right (by omega) h3⟩
theorem sq_in {x : Int} (h1 : 0 ≤ x) (h2 : x ≤ 1000000) : 0 ≤ 70223 * x * x ∧ 70223 * x * x ≤ 70223000000 * x := by
  refine ⟨Int.mul_nonneg (by omega) h1, Int.mul_le_mul_of_nonneg_right (by omega) h1⟩
section
variable {α : Type} {a b c : α}
@[simp] theorem at3_0 : atI [a, b, c] 0 = some a := rfl
@[simp] theorem at3_1 : atI [a, b, c] 1 = some b := rfl
@[simp] theorem at3_2 : atI [a, b, c] 2 = some c := rfl
@[simp] theorem ix3_0 : ixN 3 0 = some 0 := rfl
@[simp] theorem ix3_1 : ixN 3 1 = some 1 := rfl
@[simp] theorem ix3_2 : ixN 3 2 = some 2 := rfl
end
theorem t_draw {n : Nat} {pen : List D} {m : Int} {p : Fr → List Sl → Prop} (hp : PenOk n pen) (hn : n + 1 ≤ lim) (h1 : 1 ≤ m) (h2 : m < 1073741824) (k : ∀ pen' r, PenOk (n + 1) pen' → 0 ≤ r → r < m → p (.dat (.int r)) [.own true (.lst pen'), .v (.int m)]) :
    Fok F_law_draw [.own true (.lst pen), .v (.int m)] p := by
  obtain ⟨cs, at_, z, rfl, ha, han, hz, hc⟩ := hp
  have hm0 : m ≠ 0 := by omega
  have hmn : m.natAbs < 1073741824 := by omega
  have hm1 : 0 < m := by omega
  unfold lim at hn
  refine fok_run rfl rfl ?_
  by_cases hz0 : 0 < z
  · simp [b_law_draw, hz0, mod_ii hm0, fdiv_ii hm0 hmn]
    obtain ⟨f1, f2⟩ := fmod_in (a := z) hm1
    exact k _ _ ⟨cs, at_, _, rfl, ha, by omega, fdiv_nn hz hm1, hc⟩ f1 f2
  · have b1 : -(2 ^ 64) < 70223 * at_ ∧ 70223 * at_ < 2 ^ 64 := by omega
    obtain ⟨s1, s2⟩ := sq_in ha (by omega)
    have mm : ∀ c : Int, 0 ≤ (c.fmod 2147483647) ∧ c.fmod 2147483647 < 2147483648 := fun c => mixed_in (a := 0) c (by omega) (by omega)
    have m0 : ∀ c : Int, 0 ≤ (c.fmod 2147483579) ∧ c.fmod 2147483579 < 2147483648 := fun c => mixed_in (a := 0) c (by omega) (by omega)
    have b2 : ∀ c : Int, -(2 ^ 64) < (c.fmod 2147483647) ∧ (c.fmod 2147483647) < 2 ^ 64 := fun c => by
      have := mm c
      omega
    have b3 : ∀ c : Int, (c.fmod 2147483579 + 51407 * at_ + 61).natAbs < 2 ^ 64 := fun c => by
      have := m0 c
      omega
    have b4 : ∀ c : Int, (c.fmod 2147483647 * (2 * at_ + 19) + 70223 * at_ * at_ + 7).natAbs < 2 ^ 64 := fun c => by
      have := mm c
      obtain ⟨q1, q2⟩ := prod_in this.1 this.2 (y := 2 * at_ + 19) (by omega) (by omega)
      omega
    have fin : ∀ (z' r : Int), 0 ≤ z' → p (.dat (.int (r.fmod m))) [.own true (.lst [.lst (cs.map .int), .int (at_ + 1), .int z']), .v (.int m)] := fun z' r hz' => by
      obtain ⟨f1, f2⟩ := fmod_in (a := r) hm1
      exact k _ _ ⟨cs, at_ + 1, z', rfl, by omega, by omega, hz', hc⟩ f1 f2
    have e1 : ∀ c x : Int, mulD2 (.int (c.fmod 2147483647)) (.int x) = some (.int (c.fmod 2147483647 * x)) := fun c x => mul_ii (b2 c)
    have e2 : mulD2 (.int (70223 * at_)) (.int at_) = some (.int (70223 * at_ * at_)) := mul_ii b1
    have e3 : ∀ c : Int, powD (.int (c.fmod 2147483579 + 51407 * at_ + 61)) (.int 5) = some (.int ((c.fmod 2147483579 + 51407 * at_ + 61) ^ 5)) := fun c => pow_ii (by omega) (by omega) (b3 c)
    have e4 : ∀ c : Int, powD (.int (c.fmod 2147483647 * (2 * at_ + 19) + 70223 * at_ * at_ + 7)) (.int 3) = some (.int ((c.fmod 2147483647 * (2 * at_ + 19) + 70223 * at_ * at_ + 7) ^ 3)) := fun c => pow_ii (by omega) (by omega) (b4 c)
    have e5 : powD (.int 10) (.int 18) = some (.int (10 ^ 18)) := pow_ii (by omega) (by omega) (by omega)
    have l1 : ∀ x : Int, mulD2 (.int 91193) (.int x) = some (.int (91193 * x)) := fun x => mul_ii (by omega)
    have l2 : ∀ x : Int, mulD2 (.int 51407) (.int x) = some (.int (51407 * x)) := fun x => mul_ii (by omega)
    have l3 : ∀ x : Int, mulD2 (.int 70223) (.int x) = some (.int (70223 * x)) := fun x => mul_ii (by omega)
    have l4 : ∀ x : Int, mulD2 (.int 2) (.int x) = some (.int (2 * x)) := fun x => mul_ii (by omega)
    have d1 : ∀ x : Int, modD (.int x) (.int 2147483579) = some (.int (x.fmod 2147483579)) := fun x => mod_ii (by omega)
    have d2 : ∀ x : Int, modD (.int x) (.int 2147483647) = some (.int (x.fmod 2147483647)) := fun x => mod_ii (by omega)
    have d3 : ∀ x : Int, modD (.int x) (.int 2147483629) = some (.int (x.fmod 2147483629)) := fun x => mod_ii (by omega)
    have d4 : ∀ x : Int, fdivD (.int x) (.int 32) = some (.int (x.fdiv 32)) := fun x => fdiv_ii (by omega) (by omega)
    have d5 : ∀ x : Int, modD (.int x) (.int m) = some (.int (x.fmod m)) := fun x => mod_ii hm0
    have d6 : ∀ x : Int, fdivD (.int x) (.int m) = some (.int (x.fdiv m)) := fun x => fdiv_ii hm0 hmn
    by_cases hcs : cs = []
    · subst hcs
      have ha' : ¬ at_ < 0 := by omega
      simp [b_law_draw, hz0, e1, e2, e3, e4, e5, l1, l2, l3, l4, d1, d2, d3, d4, d5, d6, ha']
      simpa using fin _ _ hz
    · have hl : 0 < (cs.length : Int) := by
        have := List.length_pos_iff.mpr hcs
        omega
      have hl0 : (cs.length : Int) ≠ 0 := by omega
      have hce : cs.isEmpty = false := by cases cs <;> simp_all
      obtain ⟨q1, q2⟩ := fmod_in (a := at_) hl
      obtain ⟨c, hcell⟩ := at_cell q1 q2
      have d7 : ∀ x : Int, modD (.int x) (.int cs.length) = some (.int (x.fmod cs.length)) := fun x => mod_ii hl0
      by_cases hal : at_ < cs.length
      · by_cases hbig : (1000000000000000000 : Int) ≤ (if c < 0 then -c else c)
        · simp [b_law_draw, hz0, e1, e2, e3, e4, e5, l1, l2, l3, l4, d1, d2, d3, d4, d5, d6, d7, hce, hal, hcell, hbig]
          have hg : (0 : Int) ≤ 2 * ((if c < 0 then -c else c) - 1000000000000000000) + (if c < 0 then 1 else 0) := by
            split <;> omega
          exact fin _ _ (fdiv_nn hg hm1)
        · simp [b_law_draw, hz0, e1, e2, e3, e4, e5, l1, l2, l3, l4, d1, d2, d3, d4, d5, d6, d7, hce, hal, hcell, hbig]
          exact fin _ _ hz
      · simp [b_law_draw, hz0, e1, e2, e3, e4, e5, l1, l2, l3, l4, d1, d2, d3, d4, d5, d6, d7, hce, hal, hcell]
        exact fin _ _ hz
end Lwk01
set_option Elab.async false
set_option linter.all false
set_option maxRecDepth 100000
set_option maxHeartbeats 4000000
namespace Lwk01
open PySem L2 Mi
def odds : List D := [.non, .bl true, .bl false, .int 0, .int 1, .int (-1), .int 7, .int 8, .int 999999, .int 1000000, .int (100000000000000000000000000000000000000000000000000000000000), .int (-100000000000000000000000000000000000000000000000000000000000), .str [], .str [97], .str [97, 98, 99, 100, 101, 102, 103, 104], .str [97, 98, 99, 100, 101, 102, 103, 104, 105], .str [65], .str [97, 49], .str [49], .str [97, 32, 98], .str [98, 10], .str [45], .tup [], .tup [.int 0, .int 0], .tup [.int 7, .int 7], .tup [.int 0, .int 8], .tup [.int (-1), .int 0], .lst [.int 0, .int 0], .tup [.bl true, .int 0], .tup [.int 0, .int 0, .int 0], .lst [], .dct [], .tup [.str [48], .int 0], .tup [.int 0], .lst [.non], .dct [(.str [97], .int 1)], .tup [.str [102, 97, 108, 108]], .str [102, 97, 108, 108], .lst [.tup [.str [102, 97, 108, 108]]], .tup [.str [115, 119, 101, 101, 112], .non]]
theorem t_pick_l {n : Nat} {pen ds : List D} {p : Fr → List Sl → Prop} (hp : PenOk n pen) (hn : n + 1 ≤ lim) (h1 : 1 ≤ ds.length) (h2 : ds.length ≤ 100000) (k : ∀ pen' d, PenOk (n + 1) pen' → d ∈ ds → p (.dat d) [.own true (.lst pen'), .v (.lst ds)]) :
    Fok F_law_pick [.own true (.lst pen), .v (.lst ds)] p := by
  refine fok_run rfl rfl ?_
  simp [b_law_pick]
  refine t_draw hp hn (by omega) (by omega) fun pen' r hp' r0 r1 => ?_
  obtain ⟨x, hx, hm⟩ := atI_some r0 r1
  simp [hx]
  exact k _ _ hp' hm
theorem t_odd {n : Nat} {pen : List D} {p : Fr → List Sl → Prop} (hp : PenOk n pen) (hn : n + 1 ≤ lim) (k : ∀ pen' d, PenOk (n + 1) pen' → d ∈ odds → p (.dat d) [.own true (.lst pen')]) :
    Fok F_law_odd [.own true (.lst pen)] p := by
  refine fok_run rfl rfl ?_
  have e1 : powD (.int 10) (.int 59) = some (.int (10 ^ 59)) := pow_ii (by omega) (by omega) (by omega)
  have a1 : ∀ xs ys : List D, xs.length + ys.length ≤ 1000000 → addD (.lst xs) (.lst ys) = some (.lst (xs ++ ys)) := fun xs ys h => add_ll h
  have e2 : dctB [D.str s2, .int 1] = some [(.str s2, .int 1)] := rfl
  simp [b_law_odd, e1, e2, a1]
  refine t_pick_l hp hn (by simp) (by simp) fun pen' d hp' hd => ?_
  simp
  exact k _ _ hp' hd
end Lwk01
set_option Elab.async false
set_option linter.all false
set_option maxRecDepth 100000
set_option maxHeartbeats 4000000
namespace Lwk01
open PySem L2 Mi
def names : List Str := [("InvalidKey" : Str), ("InvalidValue" : Str), ("InvalidView" : Str), ("InvalidLoss" : Str), ("InvalidPages" : Str), ("InvalidRow" : Str), ("InvalidText" : Str), ("Barred" : Str), ("Unplayed" : Str), ("InvalidAccounts" : Str), ("Unfit" : Str), ("InvalidQuestion" : Str), ("InvalidMoment" : Str), ("InvalidMost" : Str), ("Lied" : Str), ("UnknownCommand" : Str), ("NameTaken" : Str), ("Ended" : Str), ("NotOuter" : Str), ("Busy" : Str), ("Blocked" : Str), ("Taken" : Str), ("Unasked" : Str), ("Occupied" : Str), ("NoKey" : Str), ("NoPage" : Str), ("NoSlot" : Str), ("NotDead" : Str), ("NotPrepared" : Str), ("NotSpan" : Str), ("NotCleaning" : Str), ("NoNumber" : Str), ("NoTransaction" : Str), ("NoRun" : Str), ("NoAccount" : Str), ("Full" : Str), ("TooDeep" : Str), ("TooLong" : Str)]
def bases : List Str := [("HoldError" : Str), ("TurnError" : Str), ("AbsentError" : Str), ("SizeError" : Str), ("ValueError" : Str), ("RuntimeError" : Str), ("LookupError" : Str), ("OverflowError" : Str)]
def made (one two three : D) : List D := [.exc "InvalidKey" [("value", one)], .exc "InvalidValue" [("value", one)], .exc "InvalidView" [("value", one)], .exc "InvalidLoss" [("value", one)], .exc "InvalidPages" [("value", one)], .exc "InvalidRow" [("index", one)], .exc "InvalidText" [("word", two), ("line", one)], .exc "Barred" [("bar", one)], .exc "Unplayed" [("index", one)], .exc "InvalidAccounts" [("index", one)], .exc "Unfit" [("run", two), ("account", one)], .exc "InvalidQuestion" [("value", one)], .exc "InvalidMoment" [("moment", one)], .exc "InvalidMost" [("most", one)], .exc "Lied" [("lie", one)], .exc "UnknownCommand" [], .exc "NameTaken" [("name", one)], .exc "Ended" [], .exc "NotOuter" [], .exc "Busy" [("number", one)], .exc "Blocked" [("number", one)], .exc "Taken" [("key", one)], .exc "Unasked" [("note", three), ("run", two), ("account", one)], .exc "Occupied" [], .exc "NoKey" [("key", one)], .exc "NoPage" [("page", one)], .exc "NoSlot" [("slot", one)], .exc "NotDead" [("slot", one)], .exc "NotPrepared" [("number", one)], .exc "NotSpan" [("row", one)], .exc "NotCleaning" [("row", one)], .exc "NoNumber" [("number", one)], .exc "NoTransaction" [("number", one)], .exc "NoRun" [("run", two), ("account", one)], .exc "NoAccount" [("name", one)], .exc "Full" [], .exc "TooDeep" [("limit", one)], .exc "TooLong" [("limit", one)]]
@[simp] theorem k_made {one two three : D} {p : Fr → List Sl → Prop} : Fok F_law_made [.v one, .v two, .v three] p ↔ p (.new (.lst (made one two three))) [.v one, .v two, .v three] := by
  refine fok_eq (eq_fok (fok_run rfl rfl ?_))
  have a1 : ∀ xs ys : List D, xs.length + ys.length ≤ 1000000 → addD (.lst xs) (.lst ys) = some (.lst (xs ++ ys)) := fun xs ys h => add_ll h
  simp [b_law_made, a1]
  rfl
theorem k_marks {c : Str} {fs : List (Str × D)} {g : Str → Bool} {p : Fr → List Sl → Prop} (h : ∀ t ∈ names, (tabOf cls [t]).lookup c = some (g t)) : Fok F_law_marks [.v (.exc c fs)] p ↔ p (.new (.lst (names.map fun t => .bl (g t)))) [.v (.exc c fs)] := by
  refine fok_eq (eq_fok (fok_run rfl rfl ?_))
  have a1 : ∀ xs ys : List D, xs.length + ys.length ≤ 1000000 → addD (.lst xs) (.lst ys) = some (.lst (xs ++ ys)) := fun xs ys h => add_ll h
  have h0 : isxD (tabOf cls ["InvalidKey"]) (.exc c fs) = some (g "InvalidKey") := h "InvalidKey" (List.mem_of_getElem? (i := 0) rfl)
  have h1 : isxD (tabOf cls ["InvalidValue"]) (.exc c fs) = some (g "InvalidValue") := h "InvalidValue" (List.mem_of_getElem? (i := 1) rfl)
  have h2 : isxD (tabOf cls ["InvalidView"]) (.exc c fs) = some (g "InvalidView") := h "InvalidView" (List.mem_of_getElem? (i := 2) rfl)
  have h3 : isxD (tabOf cls ["InvalidLoss"]) (.exc c fs) = some (g "InvalidLoss") := h "InvalidLoss" (List.mem_of_getElem? (i := 3) rfl)
  have h4 : isxD (tabOf cls ["InvalidPages"]) (.exc c fs) = some (g "InvalidPages") := h "InvalidPages" (List.mem_of_getElem? (i := 4) rfl)
  have h5 : isxD (tabOf cls ["InvalidRow"]) (.exc c fs) = some (g "InvalidRow") := h "InvalidRow" (List.mem_of_getElem? (i := 5) rfl)
  have h6 : isxD (tabOf cls ["InvalidText"]) (.exc c fs) = some (g "InvalidText") := h "InvalidText" (List.mem_of_getElem? (i := 6) rfl)
  have h7 : isxD (tabOf cls ["Barred"]) (.exc c fs) = some (g "Barred") := h "Barred" (List.mem_of_getElem? (i := 7) rfl)
  have h8 : isxD (tabOf cls ["Unplayed"]) (.exc c fs) = some (g "Unplayed") := h "Unplayed" (List.mem_of_getElem? (i := 8) rfl)
  have h9 : isxD (tabOf cls ["InvalidAccounts"]) (.exc c fs) = some (g "InvalidAccounts") := h "InvalidAccounts" (List.mem_of_getElem? (i := 9) rfl)
  have h10 : isxD (tabOf cls ["Unfit"]) (.exc c fs) = some (g "Unfit") := h "Unfit" (List.mem_of_getElem? (i := 10) rfl)
  have h11 : isxD (tabOf cls ["InvalidQuestion"]) (.exc c fs) = some (g "InvalidQuestion") := h "InvalidQuestion" (List.mem_of_getElem? (i := 11) rfl)
  have h12 : isxD (tabOf cls ["InvalidMoment"]) (.exc c fs) = some (g "InvalidMoment") := h "InvalidMoment" (List.mem_of_getElem? (i := 12) rfl)
  have h13 : isxD (tabOf cls ["InvalidMost"]) (.exc c fs) = some (g "InvalidMost") := h "InvalidMost" (List.mem_of_getElem? (i := 13) rfl)
  have h14 : isxD (tabOf cls ["Lied"]) (.exc c fs) = some (g "Lied") := h "Lied" (List.mem_of_getElem? (i := 14) rfl)
  have h15 : isxD (tabOf cls ["UnknownCommand"]) (.exc c fs) = some (g "UnknownCommand") := h "UnknownCommand" (List.mem_of_getElem? (i := 15) rfl)
  have h16 : isxD (tabOf cls ["NameTaken"]) (.exc c fs) = some (g "NameTaken") := h "NameTaken" (List.mem_of_getElem? (i := 16) rfl)
  have h17 : isxD (tabOf cls ["Ended"]) (.exc c fs) = some (g "Ended") := h "Ended" (List.mem_of_getElem? (i := 17) rfl)
  have h18 : isxD (tabOf cls ["NotOuter"]) (.exc c fs) = some (g "NotOuter") := h "NotOuter" (List.mem_of_getElem? (i := 18) rfl)
  have h19 : isxD (tabOf cls ["Busy"]) (.exc c fs) = some (g "Busy") := h "Busy" (List.mem_of_getElem? (i := 19) rfl)
  have h20 : isxD (tabOf cls ["Blocked"]) (.exc c fs) = some (g "Blocked") := h "Blocked" (List.mem_of_getElem? (i := 20) rfl)
  have h21 : isxD (tabOf cls ["Taken"]) (.exc c fs) = some (g "Taken") := h "Taken" (List.mem_of_getElem? (i := 21) rfl)
  have h22 : isxD (tabOf cls ["Unasked"]) (.exc c fs) = some (g "Unasked") := h "Unasked" (List.mem_of_getElem? (i := 22) rfl)
  have h23 : isxD (tabOf cls ["Occupied"]) (.exc c fs) = some (g "Occupied") := h "Occupied" (List.mem_of_getElem? (i := 23) rfl)
  have h24 : isxD (tabOf cls ["NoKey"]) (.exc c fs) = some (g "NoKey") := h "NoKey" (List.mem_of_getElem? (i := 24) rfl)
  have h25 : isxD (tabOf cls ["NoPage"]) (.exc c fs) = some (g "NoPage") := h "NoPage" (List.mem_of_getElem? (i := 25) rfl)
  have h26 : isxD (tabOf cls ["NoSlot"]) (.exc c fs) = some (g "NoSlot") := h "NoSlot" (List.mem_of_getElem? (i := 26) rfl)
  have h27 : isxD (tabOf cls ["NotDead"]) (.exc c fs) = some (g "NotDead") := h "NotDead" (List.mem_of_getElem? (i := 27) rfl)
  have h28 : isxD (tabOf cls ["NotPrepared"]) (.exc c fs) = some (g "NotPrepared") := h "NotPrepared" (List.mem_of_getElem? (i := 28) rfl)
  have h29 : isxD (tabOf cls ["NotSpan"]) (.exc c fs) = some (g "NotSpan") := h "NotSpan" (List.mem_of_getElem? (i := 29) rfl)
  have h30 : isxD (tabOf cls ["NotCleaning"]) (.exc c fs) = some (g "NotCleaning") := h "NotCleaning" (List.mem_of_getElem? (i := 30) rfl)
  have h31 : isxD (tabOf cls ["NoNumber"]) (.exc c fs) = some (g "NoNumber") := h "NoNumber" (List.mem_of_getElem? (i := 31) rfl)
  have h32 : isxD (tabOf cls ["NoTransaction"]) (.exc c fs) = some (g "NoTransaction") := h "NoTransaction" (List.mem_of_getElem? (i := 32) rfl)
  have h33 : isxD (tabOf cls ["NoRun"]) (.exc c fs) = some (g "NoRun") := h "NoRun" (List.mem_of_getElem? (i := 33) rfl)
  have h34 : isxD (tabOf cls ["NoAccount"]) (.exc c fs) = some (g "NoAccount") := h "NoAccount" (List.mem_of_getElem? (i := 34) rfl)
  have h35 : isxD (tabOf cls ["Full"]) (.exc c fs) = some (g "Full") := h "Full" (List.mem_of_getElem? (i := 35) rfl)
  have h36 : isxD (tabOf cls ["TooDeep"]) (.exc c fs) = some (g "TooDeep") := h "TooDeep" (List.mem_of_getElem? (i := 36) rfl)
  have h37 : isxD (tabOf cls ["TooLong"]) (.exc c fs) = some (g "TooLong") := h "TooLong" (List.mem_of_getElem? (i := 37) rfl)
  simp [b_law_marks, a1, h0, h1, h2, h3, h4, h5, h6, h7, h8, h9, h10, h11, h12, h13, h14, h15, h16, h17, h18, h19, h20, h21, h22, h23, h24, h25, h26, h27, h28, h29, h30, h31, h32, h33, h34, h35, h36, h37]
  rfl
theorem k_bases {c : Str} {fs : List (Str × D)} {g : Str → Bool} {p : Fr → List Sl → Prop} (h : ∀ t ∈ bases, (tabOf cls [t]).lookup c = some (g t)) : Fok F_law_bases [.v (.exc c fs)] p ↔ p (.new (.lst (bases.map fun t => .bl (g t)))) [.v (.exc c fs)] := by
  refine fok_eq (eq_fok (fok_run rfl rfl ?_))
  have a1 : ∀ xs ys : List D, xs.length + ys.length ≤ 1000000 → addD (.lst xs) (.lst ys) = some (.lst (xs ++ ys)) := fun xs ys h => add_ll h
  have h0 : isxD (tabOf cls ["HoldError"]) (.exc c fs) = some (g "HoldError") := h "HoldError" (List.mem_of_getElem? (i := 0) rfl)
  have h1 : isxD (tabOf cls ["TurnError"]) (.exc c fs) = some (g "TurnError") := h "TurnError" (List.mem_of_getElem? (i := 1) rfl)
  have h2 : isxD (tabOf cls ["AbsentError"]) (.exc c fs) = some (g "AbsentError") := h "AbsentError" (List.mem_of_getElem? (i := 2) rfl)
  have h3 : isxD (tabOf cls ["SizeError"]) (.exc c fs) = some (g "SizeError") := h "SizeError" (List.mem_of_getElem? (i := 3) rfl)
  have h4 : isxD (tabOf cls ["ValueError"]) (.exc c fs) = some (g "ValueError") := h "ValueError" (List.mem_of_getElem? (i := 4) rfl)
  have h5 : isxD (tabOf cls ["RuntimeError"]) (.exc c fs) = some (g "RuntimeError") := h "RuntimeError" (List.mem_of_getElem? (i := 5) rfl)
  have h6 : isxD (tabOf cls ["LookupError"]) (.exc c fs) = some (g "LookupError") := h "LookupError" (List.mem_of_getElem? (i := 6) rfl)
  have h7 : isxD (tabOf cls ["OverflowError"]) (.exc c fs) = some (g "OverflowError") := h "OverflowError" (List.mem_of_getElem? (i := 7) rfl)
  simp [b_law_bases, a1, h0, h1, h2, h3, h4, h5, h6, h7]
  rfl
end Lwk01
set_option Elab.async false
set_option linter.all false
set_option maxRecDepth 100000
set_option maxHeartbeats 4000000
namespace Lwk01
open PySem L2 Mi
theorem at0 {x_value : D} : attD "value" (okFor cls "value") (.exc "InvalidKey" [("value", x_value)]) = some x_value := rfl
theorem at1 {x_value : D} : attD "value" (okFor cls "value") (.exc "InvalidValue" [("value", x_value)]) = some x_value := rfl
theorem at2 {x_value : D} : attD "value" (okFor cls "value") (.exc "InvalidView" [("value", x_value)]) = some x_value := rfl
theorem at3 {x_value : D} : attD "value" (okFor cls "value") (.exc "InvalidLoss" [("value", x_value)]) = some x_value := rfl
theorem at4 {x_value : D} : attD "value" (okFor cls "value") (.exc "InvalidPages" [("value", x_value)]) = some x_value := rfl
theorem at5 {x_index : D} : attD "index" (okFor cls "index") (.exc "InvalidRow" [("index", x_index)]) = some x_index := rfl
theorem at6 {x_line x_word : D} : attD "line" (okFor cls "line") (.exc "InvalidText" [("word", x_word), ("line", x_line)]) = some x_line := rfl
theorem at7 {x_line x_word : D} : attD "word" (okFor cls "word") (.exc "InvalidText" [("word", x_word), ("line", x_line)]) = some x_word := rfl
theorem at8 {x_bar : D} : attD "bar" (okFor cls "bar") (.exc "Barred" [("bar", x_bar)]) = some x_bar := rfl
theorem at9 {x_index : D} : attD "index" (okFor cls "index") (.exc "Unplayed" [("index", x_index)]) = some x_index := rfl
theorem at10 {x_index : D} : attD "index" (okFor cls "index") (.exc "InvalidAccounts" [("index", x_index)]) = some x_index := rfl
theorem at11 {x_account x_run : D} : attD "account" (okFor cls "account") (.exc "Unfit" [("run", x_run), ("account", x_account)]) = some x_account := rfl
theorem at12 {x_account x_run : D} : attD "run" (okFor cls "run") (.exc "Unfit" [("run", x_run), ("account", x_account)]) = some x_run := rfl
theorem at13 {x_value : D} : attD "value" (okFor cls "value") (.exc "InvalidQuestion" [("value", x_value)]) = some x_value := rfl
theorem at14 {x_moment : D} : attD "moment" (okFor cls "moment") (.exc "InvalidMoment" [("moment", x_moment)]) = some x_moment := rfl
theorem at15 {x_most : D} : attD "most" (okFor cls "most") (.exc "InvalidMost" [("most", x_most)]) = some x_most := rfl
theorem at16 {x_lie : D} : attD "lie" (okFor cls "lie") (.exc "Lied" [("lie", x_lie)]) = some x_lie := rfl
theorem at17 {x_name : D} : attD "name" (okFor cls "name") (.exc "NameTaken" [("name", x_name)]) = some x_name := rfl
theorem at18 {x_account x_run x_note : D} : attD "account" (okFor cls "account") (.exc "Unasked" [("note", x_note), ("run", x_run), ("account", x_account)]) = some x_account := rfl
theorem at19 {x_account x_run x_note : D} : attD "run" (okFor cls "run") (.exc "Unasked" [("note", x_note), ("run", x_run), ("account", x_account)]) = some x_run := rfl
theorem at20 {x_account x_run x_note : D} : attD "note" (okFor cls "note") (.exc "Unasked" [("note", x_note), ("run", x_run), ("account", x_account)]) = some x_note := rfl
theorem at21 {x_number : D} : attD "number" (okFor cls "number") (.exc "Busy" [("number", x_number)]) = some x_number := rfl
theorem at22 {x_number : D} : attD "number" (okFor cls "number") (.exc "Blocked" [("number", x_number)]) = some x_number := rfl
theorem at23 {x_key : D} : attD "key" (okFor cls "key") (.exc "Taken" [("key", x_key)]) = some x_key := rfl
theorem at24 {x_key : D} : attD "key" (okFor cls "key") (.exc "NoKey" [("key", x_key)]) = some x_key := rfl
theorem at25 {x_page : D} : attD "page" (okFor cls "page") (.exc "NoPage" [("page", x_page)]) = some x_page := rfl
theorem at26 {x_slot : D} : attD "slot" (okFor cls "slot") (.exc "NoSlot" [("slot", x_slot)]) = some x_slot := rfl
theorem at27 {x_slot : D} : attD "slot" (okFor cls "slot") (.exc "NotDead" [("slot", x_slot)]) = some x_slot := rfl
theorem at28 {x_number : D} : attD "number" (okFor cls "number") (.exc "NotPrepared" [("number", x_number)]) = some x_number := rfl
theorem at29 {x_row : D} : attD "row" (okFor cls "row") (.exc "NotSpan" [("row", x_row)]) = some x_row := rfl
theorem at30 {x_row : D} : attD "row" (okFor cls "row") (.exc "NotCleaning" [("row", x_row)]) = some x_row := rfl
theorem at31 {x_number : D} : attD "number" (okFor cls "number") (.exc "NoNumber" [("number", x_number)]) = some x_number := rfl
theorem at32 {x_number : D} : attD "number" (okFor cls "number") (.exc "NoTransaction" [("number", x_number)]) = some x_number := rfl
theorem at33 {x_account x_run : D} : attD "account" (okFor cls "account") (.exc "NoRun" [("run", x_run), ("account", x_account)]) = some x_account := rfl
theorem at34 {x_account x_run : D} : attD "run" (okFor cls "run") (.exc "NoRun" [("run", x_run), ("account", x_account)]) = some x_run := rfl
theorem at35 {x_name : D} : attD "name" (okFor cls "name") (.exc "NoAccount" [("name", x_name)]) = some x_name := rfl
theorem at36 {x_limit : D} : attD "limit" (okFor cls "limit") (.exc "TooDeep" [("limit", x_limit)]) = some x_limit := rfl
theorem at37 {x_limit : D} : attD "limit" (okFor cls "limit") (.exc "TooLong" [("limit", x_limit)]) = some x_limit := rfl
theorem t_kept {one two : D} {s t : List Nat} {p : Fr → List Sl → Prop} (h1 : reprB2 [.lst (List.replicate 33 one)] = some (.str s)) (h2 : reprB2 [.lst (List.replicate 5 two)] = some (.str t)) : Fok F_law_kept [.v one, .v two] p ↔ p (.dat (.bl true)) [.v one, .v two] := by
  refine fok_eq (eq_fok (fok_run rfl rfl ?_))
  have a1 : ∀ xs ys : List D, xs.length + ys.length ≤ 1000000 → addD (.lst xs) (.lst ys) = some (.lst (xs ++ ys)) := fun xs ys h => add_ll h
  have r1 : mulD2 (.lst [one]) (.int 33) = some (.lst (List.replicate 33 one)) := mul_rep (k := 33) (by omega)
  have r2 : mulD2 (.lst [two]) (.int 5) = some (.lst (List.replicate 5 two)) := mul_rep (k := 5) (by omega)
  have z4 : (4 : Nat) < sizeLine := line_lt (by omega)
  have g1 : reprB2 [.lst (one :: one :: one :: one :: one :: one :: one :: one :: one :: one :: one :: one :: one :: one :: one :: one :: one :: one :: one :: one :: one :: one :: one :: one :: one :: one :: one :: one :: one :: one :: one :: one :: one :: [])] = some (.str s) := h1
  have g2 : reprB2 [.lst (two :: two :: two :: two :: two :: [])] = some (.str t) := h2
  have q1 : ∀ a : Hd, permL 0 [0] [a] = [a] := fun a => rfl
  have q2 : ∀ a b : Hd, permL 0 [1, 0] [a, b] = [b, a] := fun a b => rfl
  have q3 : ∀ a b c : Hd, permL 0 [2, 1, 0] [a, b, c] = [c, b, a] := fun a b c => rfl
  simp [b_law_kept, a1, r1, r2, z4, q1, q2, q3, g1, g2, h1, h2, at0, at1, at2, at3, at4, at5, at6, at7, at8, at9, at10, at11, at12, at13, at14, at15, at16, at17, at18, at19, at20, at21, at22, at23, at24, at25, at26, at27, at28, at29, at30, at31, at32, at33, at34, at35, at36, at37]
theorem t_kept_by_name {one two : D} {s t : List Nat} {p : Fr → List Sl → Prop} (h1 : reprB2 [.lst (List.replicate 33 one)] = some (.str s)) (h2 : reprB2 [.lst (List.replicate 5 two)] = some (.str t)) : Fok F_law_kept_by_name [.v one, .v two] p ↔ p (.dat (.bl true)) [.v one, .v two] := by
  refine fok_eq (eq_fok (fok_run rfl rfl ?_))
  have a1 : ∀ xs ys : List D, xs.length + ys.length ≤ 1000000 → addD (.lst xs) (.lst ys) = some (.lst (xs ++ ys)) := fun xs ys h => add_ll h
  have r1 : mulD2 (.lst [one]) (.int 33) = some (.lst (List.replicate 33 one)) := mul_rep (k := 33) (by omega)
  have r2 : mulD2 (.lst [two]) (.int 5) = some (.lst (List.replicate 5 two)) := mul_rep (k := 5) (by omega)
  have z4 : (4 : Nat) < sizeLine := line_lt (by omega)
  have g1 : reprB2 [.lst (one :: one :: one :: one :: one :: one :: one :: one :: one :: one :: one :: one :: one :: one :: one :: one :: one :: one :: one :: one :: one :: one :: one :: one :: one :: one :: one :: one :: one :: one :: one :: one :: one :: [])] = some (.str s) := h1
  have g2 : reprB2 [.lst (two :: two :: two :: two :: two :: [])] = some (.str t) := h2
  have q1 : ∀ a : Hd, permL 0 [0] [a] = [a] := fun a => rfl
  have q2 : ∀ a b : Hd, permL 0 [1, 0] [a, b] = [b, a] := fun a b => rfl
  have q3 : ∀ a b c : Hd, permL 0 [2, 1, 0] [a, b, c] = [c, b, a] := fun a b c => rfl
  simp [b_law_kept_by_name, a1, r1, r2, z4, q1, q2, q3, g1, g2, h1, h2, at0, at1, at2, at3, at4, at5, at6, at7, at8, at9, at10, at11, at12, at13, at14, at15, at16, at17, at18, at19, at20, at21, at22, at23, at24, at25, at26, at27, at28, at29, at30, at31, at32, at33, at34, at35, at36, at37]
end Lwk01
set_option Elab.async false
set_option linter.all false
set_option maxRecDepth 100000
set_option maxHeartbeats 4000000
namespace Lwk01
open PySem L2 Mi
def nmL : List Str := [("HoldError" : Str), ("TurnError" : Str), ("AbsentError" : Str), ("SizeError" : Str), ("InvalidKey" : Str), ("InvalidValue" : Str), ("InvalidView" : Str), ("InvalidLoss" : Str), ("InvalidPages" : Str), ("InvalidRow" : Str), ("InvalidText" : Str), ("Barred" : Str), ("Unplayed" : Str), ("InvalidAccounts" : Str), ("Unfit" : Str), ("InvalidQuestion" : Str), ("InvalidMoment" : Str), ("InvalidMost" : Str), ("Lied" : Str), ("UnknownCommand" : Str), ("NameTaken" : Str), ("Ended" : Str), ("NotOuter" : Str), ("Unasked" : Str), ("Occupied" : Str), ("Busy" : Str), ("Blocked" : Str), ("Taken" : Str), ("NoKey" : Str), ("NoPage" : Str), ("NoSlot" : Str), ("NotDead" : Str), ("NotPrepared" : Str), ("NotSpan" : Str), ("NotCleaning" : Str), ("NoNumber" : Str), ("NoTransaction" : Str), ("NoRun" : Str), ("NoAccount" : Str), ("Full" : Str), ("TooDeep" : Str), ("TooLong" : Str), ("OverflowError" : Str), ("LookupError" : Str), ("RuntimeError" : Str), ("ValueError" : Str)]
def mroN : List (List Nat) := [[0, 45], [1, 44], [2, 43], [3, 42], [4, 0, 45], [5, 0, 45], [6, 0, 45], [7, 0, 45], [8, 0, 45], [9, 0, 45], [10, 0, 45], [11, 0, 45], [12, 0, 45], [13, 0, 45], [14, 0, 45], [15, 0, 45], [16, 0, 45], [17, 0, 45], [18, 0, 45], [19, 0, 45], [20, 0, 45], [21, 1, 44], [22, 1, 44], [23, 1, 44], [24, 1, 44], [25, 1, 44], [26, 1, 44], [27, 1, 44], [28, 2, 43], [29, 2, 43], [30, 2, 43], [31, 2, 43], [32, 2, 43], [33, 2, 43], [34, 2, 43], [35, 2, 43], [36, 2, 43], [37, 2, 43], [38, 2, 43], [39, 3, 42], [40, 3, 42], [41, 3, 42]]
def bsN : List Nat := [0, 1, 2, 3, 45, 44, 43, 42]
def nsN : List Nat := [4, 5, 6, 7, 8, 9, 10, 11, 12, 13, 14, 15, 16, 17, 18, 19, 20, 21, 22, 25, 26, 27, 23, 24, 28, 29, 30, 31, 32, 33, 34, 35, 36, 37, 38, 39, 40, 41]
def nmOf (i : Nat) : Str := nmL.getD i ""
def tabN (j : Nat) : List (Nat × Bool) := (List.range 42).map fun i => (i, (mroN.getD i []).contains j)
theorem nm_nd : ((List.range 46).all fun i => (List.range 46).all fun j => decide (i = j) || !(nmOf i == nmOf j)) = true := by decide +kernel
theorem tab_n : ((List.range 46).all fun j => tabOf cls [nmOf j] == (tabN j).map fun p => (nmOf p.1, p.2)) = true := by decide +kernel
theorem nm_inj {i j : Nat} (hi : i < 46) (hj : j < 46) (h : nmOf i = nmOf j) : i = j := by
  have h1 := List.all_eq_true.mp (List.all_eq_true.mp nm_nd i (List.mem_range.mpr hi)) j (List.mem_range.mpr hj)
  rw [h] at h1
  simpa using h1
theorem look_map {g : Nat → Bool} {i : Nat} (hi : i < 46) : ∀ {is : List Nat}, i ∈ is → (∀ a ∈ is, a < 46) → (is.map fun a => (nmOf a, g a)).lookup (nmOf i) = some (g i)
  | [], h, _ => by cases h
  | a :: is, h, hl => by
    rw [List.map_cons, List.lookup_cons]
    by_cases e : i = a
    · subst e
      simp
    · have ne : (nmOf i == nmOf a) = false := by
        simp only [beq_eq_false_iff_ne, ne_eq]
        exact fun z => e (nm_inj hi (hl a (List.mem_cons_self ..)) z)
      rw [ne]
      have hm : i ∈ is := by
        rcases List.mem_cons.mp h with z | z
        · exact absurd z e
        · exact z
      exact look_map hi hm fun b hb => hl b (List.mem_cons_of_mem _ hb)
theorem look_n {i j : Nat} (hi : i < 42) (hj : j < 46) : (tabOf cls [nmOf j]).lookup (nmOf i) = some ((mroN.getD i []).contains j) := by
  have e : tabOf cls [nmOf j] = (tabN j).map fun p => (nmOf p.1, p.2) := by
    have := List.all_eq_true.mp tab_n j (List.mem_range.mpr hj)
    simpa only [beq_iff_eq] using this
  rw [e]
  unfold tabN
  rw [List.map_map]
  exact look_map (g := fun a => (mroN.getD a []).contains j) (by omega) (List.mem_range.mpr hi) fun a ha => by
    have := List.mem_range.mp ha
    omega
theorem names_eq : names = nsN.map nmOf := rfl
def ci (k : Nat) : Nat := nsN.getD k 0
theorem ci_lt : ∀ k, k < 38 → ci k < 42 := by decide +kernel
theorem nsN_lt : ∀ j ∈ nsN, j < 46 := by decide
theorem bases_eq : bases = bsN.map nmOf := rfl
def gk (k : Nat) (t : Str) : Bool := ((tabOf cls [t]).lookup (nmOf (ci k))).getD false
theorem gk_n {k j : Nat} (hk : k < 38) (hj : j < 46) : (tabOf cls [nmOf j]).lookup (nmOf (ci k)) = some (gk k (nmOf j)) ∧ gk k (nmOf j) = (mroN.getD (ci k) []).contains j := by
  have := look_n (i := ci k) (j := j) (ci_lt k hk) hj
  unfold gk
  rw [this]
  exact ⟨rfl, rfl⟩
theorem names_t {k : Nat} (h : k < 38) : ∀ t ∈ names, (tabOf cls [t]).lookup (nmOf (ci k)) = some (gk k t) := fun t ht => by
  rw [names_eq] at ht
  obtain ⟨j, hj, rfl⟩ := List.mem_map.mp ht
  exact (gk_n h (nsN_lt j hj)).1
theorem bsN_lt : ∀ j ∈ bsN, j < 46 := by decide
theorem bases_t {k : Nat} (h : k < 38) : ∀ t ∈ bases, (tabOf cls [t]).lookup (nmOf (ci k)) = some (gk k t) := fun t ht => by
  rw [bases_eq] at ht
  obtain ⟨j, hj, rfl⟩ := List.mem_map.mp ht
  exact (gk_n h (bsN_lt j hj)).1
def fam (k : Nat) : List Bool := [decide (k < 17), decide (17 ≤ k ∧ k < 24), decide (24 ≤ k ∧ k < 35), decide (34 < k)]
theorem own_n : ((List.range 38).all fun k => ((nsN.map fun j => (mroN.getD (ci k) []).contains j) == (List.range 38).map fun j => k == j) && ((bsN.map fun j => (mroN.getD (ci k) []).contains j) == fam k ++ fam k)) = true := by decide +kernel
theorem marks_e {k : Nat} (h : k < 38) : (names.map fun t => D.bl (gk k t)) = (List.range 38).map fun j => D.bl (k == j) := by
  have h1 := List.all_eq_true.mp own_n k (List.mem_range.mpr h)
  simp only [Bool.and_eq_true, beq_iff_eq] at h1
  have h2 := congrArg (List.map D.bl) h1.1
  rw [List.map_map, List.map_map] at h2
  rw [names_eq, List.map_map]
  refine Eq.trans (List.map_congr_left fun j hj => ?_) h2
  show D.bl (gk k (nmOf j)) = _
  rw [(gk_n h (nsN_lt j hj)).2]
  rfl
theorem fams_e {k : Nat} (h : k < 38) : (bases.map fun t => D.bl (gk k t)) = (fam k).map D.bl ++ (fam k).map D.bl := by
  have h1 := List.all_eq_true.mp own_n k (List.mem_range.mpr h)
  simp only [Bool.and_eq_true, beq_iff_eq] at h1
  have h2 := congrArg (List.map D.bl) h1.2
  rw [List.map_map, List.map_append] at h2
  rw [bases_eq, List.map_map, ← h2]
  refine List.map_congr_left fun j hj => ?_
  show D.bl (gk k (nmOf j)) = _
  rw [(gk_n h (bsN_lt j hj)).2]
  rfl
/-! ### what repr shows -/
def pyB (d : D) : Bool := match toPy2 d with
  | some p => p.showable && p.leavesShort 64 && decide (p.weight ≤ 1000) && decide (p.depth ≤ 5)
  | none => false
theorem odd_py : odds.all pyB = true := by decide +kernel
theorem rep_list {p : PyData} : ∀ n : Nat, (p.showable = true → PyData.showableAll (List.replicate n p) = true) ∧ (p.leavesShort 64 = true → PyData.leavesShortAll 64 (List.replicate n p) = true) ∧ PyData.weightAll (List.replicate n p) ≤ n * (p.weight + 1) ∧ PyData.depthAll (List.replicate n p) ≤ p.depth
  | 0 => ⟨fun _ => by simp [PyData.showableAll], fun _ => by simp [PyData.leavesShortAll], by simp [PyData.weightAll], by simp [PyData.depthAll]⟩
  | n + 1 => by
    obtain ⟨h1, h2, h3, h4⟩ := rep_list (p := p) n
    rw [List.replicate_succ]
    refine ⟨fun h => by simp [PyData.showableAll, h, h1 h], fun h => by simp [PyData.leavesShortAll, h, h2 h], ?_, ?_⟩
    · simp only [PyData.weightAll]
      rw [Nat.succ_mul]
      omega
    · simp only [PyData.depthAll]
      omega
theorem rep_py {d : D} {p : PyData} (h : toPy2 d = some p) : ∀ n : Nat, toPys2 (List.replicate n d) = some (List.replicate n p)
  | 0 => by simp [toPys2]
  | n + 1 => by
    rw [List.replicate_succ, List.replicate_succ]
    simp [toPys2, h, rep_py h n]
theorem odd_r {d : D} (h : d ∈ odds) {n : Nat} (hn : n ≤ 33) : ∃ s, reprB2 [.lst (List.replicate n d)] = some (.str s) := by
  have h1 := List.all_eq_true.mp odd_py d h
  unfold pyB at h1
  cases e : toPy2 d with
  | none => simp [e] at h1
  | some p =>
    simp only [e, Bool.and_eq_true, decide_eq_true_eq] at h1
    obtain ⟨⟨⟨g1, g2⟩, g3⟩, g4⟩ := h1
    obtain ⟨l1, l2, l3, l4⟩ := rep_list (p := p) n
    have ep : toPy2 (.lst (List.replicate n d)) = some (.list (List.replicate n p)) := by simp [toPy2, rep_py e]
    have hs : (PyData.list (List.replicate n p)).showable = true := by simpa [PyData.showable] using l1 g1
    have hl : (PyData.list (List.replicate n p)).leavesShort 64 = true := by simpa [PyData.leavesShort] using l2 g2
    have hw : (PyData.list (List.replicate n p)).weight ≤ 33033 := by
      have : n * (p.weight + 1) ≤ 33 * 1001 := Nat.mul_le_mul hn (by omega)
      simp only [PyData.weight]
      omega
    have hd : (PyData.list (List.replicate n p)).depth ≤ 60 := by
      simp only [PyData.depth]
      omega
    have hz := PyData.shown_le 64 (by omega) _ hl
    have hz2 : (PyData.list (List.replicate n p)).shown.length ≤ sizeLine := by
      rw [sizeLine_eq]
      omega
    exact ⟨_, by simp [reprB2, ep, shw2, hs, hd, hz2]; rfl⟩
theorem made_at {one two three : D} : ∀ k, k < 38 → ∃ fs, (made one two three)[k]? = some (.exc (nmOf (ci k)) fs)
  | 0, _ => ⟨_, rfl⟩
  | 1, _ => ⟨_, rfl⟩
  | 2, _ => ⟨_, rfl⟩
  | 3, _ => ⟨_, rfl⟩
  | 4, _ => ⟨_, rfl⟩
  | 5, _ => ⟨_, rfl⟩
  | 6, _ => ⟨_, rfl⟩
  | 7, _ => ⟨_, rfl⟩
  | 8, _ => ⟨_, rfl⟩
  | 9, _ => ⟨_, rfl⟩
  | 10, _ => ⟨_, rfl⟩
  | 11, _ => ⟨_, rfl⟩
  | 12, _ => ⟨_, rfl⟩
  | 13, _ => ⟨_, rfl⟩
  | 14, _ => ⟨_, rfl⟩
  | 15, _ => ⟨_, rfl⟩
  | 16, _ => ⟨_, rfl⟩
  | 17, _ => ⟨_, rfl⟩
  | 18, _ => ⟨_, rfl⟩
  | 19, _ => ⟨_, rfl⟩
  | 20, _ => ⟨_, rfl⟩
  | 21, _ => ⟨_, rfl⟩
  | 22, _ => ⟨_, rfl⟩
  | 23, _ => ⟨_, rfl⟩
  | 24, _ => ⟨_, rfl⟩
  | 25, _ => ⟨_, rfl⟩
  | 26, _ => ⟨_, rfl⟩
  | 27, _ => ⟨_, rfl⟩
  | 28, _ => ⟨_, rfl⟩
  | 29, _ => ⟨_, rfl⟩
  | 30, _ => ⟨_, rfl⟩
  | 31, _ => ⟨_, rfl⟩
  | 32, _ => ⟨_, rfl⟩
  | 33, _ => ⟨_, rfl⟩
  | 34, _ => ⟨_, rfl⟩
  | 35, _ => ⟨_, rfl⟩
  | 36, _ => ⟨_, rfl⟩
  | 37, _ => ⟨_, rfl⟩
  | n + 38, h => absurd h (by omega)
end Lwk01
set_option Elab.async false
set_option linter.all false
set_option maxRecDepth 100000
set_option maxHeartbeats 4000000
namespace Lwk01
open PySem L2 Mi
theorem rng_map {n : Nat} : rngD 0 n = (List.range n).map fun j => D.int (j : Nat) := by
  unfold rngD
  refine List.map_congr_left fun j _ => ?_
  rw [Int.zero_add]
def bl38 (k : Nat) : List D := (List.range 38).map fun j => D.bl (k == j)
theorem bl38_eq : ∀ k, k < 38 → eqF 60 (.lst (bl38 k)) (.lst (bl38 k)) = some true := by decide +kernel
theorem fam_eq : ∀ k, k < 38 → eqF 60 (.lst ((fam k).map D.bl ++ (fam k).map D.bl)) (.lst ((fam k).map D.bl ++ (fam k).map D.bl)) = some true := by decide +kernel
theorem at_n {one two three : D} {k : Nat} (h : k < 38) : ∃ fs, atI (made one two three) (k : Int) = some (.exc (nmOf (ci k)) fs) := by
  obtain ⟨fs, e⟩ := made_at (one := one) (two := two) (three := three) k h
  refine ⟨fs, ?_⟩
  have hl : (made one two three).length = 38 := rfl
  simp only [atI, ixN, hl]
  rw [if_pos (by omega), if_pos (by omega)]
  simpa using e
abbrev mb : Ss := .cons (.ite (.cmp .ne (.call F_law_marks (.cons (.idx (.var 5) (.var 6)) .nil) .nil) (.lc (.rng1 (.cons (.con (.int 38)) .nil)) (.nm 7) [7] .no (.cmp .eq (.var 6) (.var 7)))) (.cons (.ret (.con (.bl false))) .nil) .nil)
  (.cons (.asg 8 (.lst (.cons (.cmp .lt (.var 6) (.con (.int 17))) (.cons (.chain .le .lt (.con (.int 17)) (.var 6) (.con (.int 24))) (.cons (.chain .le .lt (.con (.int 24)) (.var 6) (.con (.int 35))) (.cons (.cmp .gt (.var 6) (.con (.int 34))) .nil))))))
    (.cons (.ite (.cmp .ne (.call F_law_bases (.cons (.idx (.var 5) (.var 6)) .nil) .nil) (.op .add (.var 8) (.var 8))) (.cons (.ret (.con (.bl false))) .nil) .nil) .nil))
theorem m_loop {a0 a1 a2 a3 a4 : Sl} {one two three : D} {pF : Fl → En → Prop} : ∀ {ds : List Nat} {x6 x8 : Sl}, (∀ m ∈ ds, m < 38) → (∀ x6 x8, pF .nx [a0, a1, a2, a3, a4, .own false (.lst (made one two three)), x6, .no, x8]) →
    Okv (forL (.nm 6) mb.ms (ds.map fun m => D.int (m : Nat))) [a0, a1, a2, a3, a4, .own false (.lst (made one two three)), x6, .no, x8] pF
  | [], x6, x8, hd, h => for_nil.mpr (h _ _)
  | m :: ds, x6, x8, hd, h => by
    rw [List.map_cons]
    refine for_cons ?_
    have hm : m < 38 := hd m (List.mem_cons_self ..)
    obtain ⟨fs, e⟩ := at_n (one := one) (two := two) (three := three) hm
    have r1 : rngK1 [.int 38] = some (rngD 0 38) := rngK1_n (n := 38) (by omega)
    simp [e]
    refine (k_marks (names_t hm)).mpr ?_
    simp [r1]
    refine lc_map (fun d => match d with
      | .int j => .bl ((m : Int) == j)
      | _ => .non) (by simp) (by simp [rngD]) (fun d hd => ?_) ?_
    · rw [rng_map] at hd
      obtain ⟨j, hj, rfl⟩ := List.mem_map.mp hd
      simp
    · have e2 : ((rngD 0 38).map fun d => match d with
        | .int j => D.bl ((m : Int) == j)
        | _ => .non) = bl38 m := by
        rw [rng_map, List.map_map]
        refine List.map_congr_left fun j _ => ?_
        show D.bl ((m : Int) == (j : Int)) = D.bl (m == j)
        congr 1
        rw [Bool.eq_iff_iff]
        simp; omega
      rw [e2, marks_e hm]
      have e3 := bl38_eq m hm
      unfold bl38 at e3
      have ea : ∀ b1 b2 b3 b4 : Bool, addD (.lst [.bl b1, .bl b2, .bl b3, .bl b4]) (.lst [.bl b1, .bl b2, .bl b3, .bl b4]) = some (.lst [.bl b1, .bl b2, .bl b3, .bl b4, .bl b1, .bl b2, .bl b3, .bl b4]) := fun b1 b2 b3 b4 => add_ll (by simp)
      have eb : ∀ b1 b2 b3 b4 : Bool, [b1, b2, b3, b4] = fam m → (bases.map fun t => D.bl (gk m t)) = [.bl b1, .bl b2, .bl b3, .bl b4, .bl b1, .bl b2, .bl b3, .bl b4] := fun b1 b2 b3 b4 hf => by
        rw [fams_e hm, ← hf]
        rfl
      have ec : ∀ b1 b2 b3 b4 : Bool, eqF 60 (.lst [.bl b1, .bl b2, .bl b3, .bl b4, .bl b1, .bl b2, .bl b3, .bl b4]) (.lst [.bl b1, .bl b2, .bl b3, .bl b4, .bl b1, .bl b2, .bl b3, .bl b4]) = some true := fun b1 b2 b3 b4 => by
        cases b1 <;> cases b2 <;> cases b3 <;> cases b4 <;> rfl
      have next : ∀ x6 x8, Okv (forL (.nm 6) mb.ms (ds.map fun m => D.int (m : Nat))) [a0, a1, a2, a3, a4, .own false (.lst (made one two three)), x6, .no, x8] pF := fun x6 x8 => m_loop (fun k hk => hd k (List.mem_cons_of_mem _ hk)) h
      rcases (by omega : (m < 17) ∨ (17 ≤ m ∧ m < 24) ∨ (24 ≤ m ∧ m < 35) ∨ 35 ≤ m) with c | c | c | c
      · have g := eb true false false false (by simp [fam]; omega)
        have z1 : ((m : Int) < 17) := by omega
        have z2 : ¬ ((17 : Int) ≤ m) := by omega
        have z3 : ¬ ((24 : Int) ≤ m) := by omega
        have z4 : ¬ ((34 : Int) < m) := by omega
        simp [bl38, e3, z1, z2, z3, z4, e]
        refine (k_bases (bases_t hm)).mpr ?_
        rw [g]
        simp [ea, ec]
        exact next _ _
      · have g := eb false true false false (by simp [fam]; omega)
        have z1 : ¬ ((m : Int) < 17) := by omega
        have z2 : ((17 : Int) ≤ m) := by omega
        have z5 : ((m : Int) < 24) := by omega
        have z3 : ¬ ((24 : Int) ≤ m) := by omega
        have z4 : ¬ ((34 : Int) < m) := by omega
        simp [bl38, e3, z1, z2, z3, z4, z5, e]
        refine (k_bases (bases_t hm)).mpr ?_
        rw [g]
        simp [ea, ec]
        exact next _ _
      · have g := eb false false true false (by simp [fam]; omega)
        have z1 : ¬ ((m : Int) < 17) := by omega
        have z2 : ((17 : Int) ≤ m) := by omega
        have z5 : ¬ ((m : Int) < 24) := by omega
        have z3 : ((24 : Int) ≤ m) := by omega
        have z6 : ((m : Int) < 35) := by omega
        have z4 : ¬ ((34 : Int) < m) := by omega
        simp [bl38, e3, z1, z2, z3, z4, z5, z6, e]
        refine (k_bases (bases_t hm)).mpr ?_
        rw [g]
        simp [ea, ec]
        exact next _ _
      · have g := eb false false false true (by simp [fam]; omega)
        have z1 : ¬ ((m : Int) < 17) := by omega
        have z2 : ((17 : Int) ≤ m) := by omega
        have z5 : ¬ ((m : Int) < 24) := by omega
        have z3 : ((24 : Int) ≤ m) := by omega
        have z6 : ¬ ((m : Int) < 35) := by omega
        have z4 : ((34 : Int) < m) := by omega
        simp [bl38, e3, z1, z2, z3, z4, z5, z6, e]
        refine (k_bases (bases_t hm)).mpr ?_
        rw [g]
        simp [ea, ec]
        exact next _ _
end Lwk01
set_option Elab.async false
set_option linter.all false
set_option maxRecDepth 100000
set_option maxHeartbeats 4000000
namespace Lwk01
open PySem L2 Mi
theorem t_pen {ns : List Int} {p : Fr → List Sl → Prop} (hn : ns.length ≤ 63) (k : PenOk 0 [.lst (ns.map .int), .int 0, .int 0] → p (.new (.lst [.lst (ns.map .int), .int 0, .int 0])) [.v (.frz (ns.map .int))]) :
    Fok F_law_pen [.v (.frz (ns.map .int))] p := by
  refine fok_run rfl rfl ?_
  have e : (ns.map D.int).take 63 = ns.map D.int := List.take_of_length_le (by rw [List.length_map]; omega)
  have c : sliD (.frz (ns.map D.int)) none (some 63) = some (.lst (ns.map D.int)) := by
    simp only [sliD]
    rw [cut_t63, e]
  simp [b_law_pen, c]
  exact k ⟨⟨ns, 0, 0, rfl, by omega, by omega, by omega, hn⟩⟩
abbrev lb : Ss := .cons (.par [3, 4] (.cons (.call F_law_odd (.cons (.var 1) .nil) .nil) (.cons (.call F_law_odd (.cons (.var 1) .nil) .nil) .nil)))
  (.cons (.asg 5 (.call F_law_made (.cons (.var 3) (.cons (.var 4) (.cons (.call F_law_odd (.cons (.var 1) .nil) .nil) .nil))) .nil))
  (.cons (.for (.rng1 (.cons (.con (.int 38)) .nil)) (.nm 6) mb)
  (.cons (.ite (.or (.not (.call F_law_kept (.cons (.var 3) (.cons (.var 4) .nil)) .nil)) (.not (.call F_law_kept_by_name (.cons (.var 3) (.cons (.var 4) .nil)) .nil))) (.cons (.ret (.con (.bl false))) .nil) .nil) .nil)))
theorem law_loop {a0 : Sl} {pF : Fl → En → Prop} : ∀ {ds : List D} {n : Nat} {pen : List D} {x2 x3 x4 x5 x6 x8 : Sl}, PenOk n pen → n + 3 * ds.length ≤ lim →
    (∀ pen' x2 x3 x4 x5 x6 x8, pF .nx [a0, .own false (.lst pen'), x2, x3, x4, x5, x6, .no, x8]) →
    Okv (forL (.nm 2) lb.ms ds) [a0, .own false (.lst pen), x2, x3, x4, x5, x6, .no, x8] pF
  | [], n, pen, x2, x3, x4, x5, x6, x8, hp, hn, h => for_nil.mpr (h _ _ _ _ _ _ _)
  | m :: ds, n, pen, x2, x3, x4, x5, x6, x8, hp, hn, h => by
    rw [List.length_cons] at hn
    refine for_cons ?_
    simp
    refine t_odd hp (by omega) fun pen1 one hp1 h1 => ?_
    simp
    refine t_odd hp1 (by omega) fun pen2 two hp2 h2 => ?_
    simp
    refine t_odd hp2 (by omega) fun pen3 three hp3 h3 => ?_
    have r1 : rngK1 [.int 38] = some (rngD 0 38) := rngK1_n (n := 38) (by omega)
    simp [r1]
    rw [rng_map]
    refine m_loop (fun m hm => List.mem_range.mp hm) fun x6 x8 => ?_
    obtain ⟨s, hs⟩ := odd_r h1 (n := 33) (by omega)
    obtain ⟨t, ht⟩ := odd_r h2 (n := 5) (by omega)
    simp
    refine (t_kept hs ht).mpr ?_
    simp
    refine (t_kept_by_name hs ht).mpr ?_
    simp
    exact law_loop hp3 (by omega) h
theorem t_law {ns : List Int} (hn : ns.length ≤ 63) : Fok F_law [.v (.frz (ns.map .int))] fun fr _ => fr = .dat (.bl true) := by
  refine fok_run rfl rfl ?_
  have r1 : rngK1 [.int 4] = some (rngD 0 4) := rngK1_n (n := 4) (by omega)
  simp [b_law]
  refine t_pen hn fun hp => ?_
  simp [r1]
  refine law_loop hp (by simp [rngD]; unfold lim; omega) fun pen' x2 x3 x4 x5 x6 x8 => ?_
  simp
theorem law_true : saysTrue F_law 63 := fun ns hn => by
  obtain ⟨fr, sl, h, rfl⟩ := t_law hn
  exact ⟨sl, h⟩
end Lwk01
set_option Elab.async false
set_option linter.all false
set_option maxRecDepth 100000
set_option maxHeartbeats 0
namespace Lwk01
open PySem PySem.Spec L2 Mi
open PyProof.Rows hiding St
abbrev L0 : List (Str × Ent) := []
abbrev L1 : List (Str × Ent) := ("_law_pen", .fn 1 ["script"] F_law_pen []) :: L0
abbrev L2 : List (Str × Ent) := ("_law_draw", .fn 1 ["pen", "bound"] F_law_draw []) :: L1
abbrev L3 : List (Str × Ent) := ("_law_pick", .fn 2 ["pen", "some"] F_law_pick []) :: L2
abbrev L4 : List (Str × Ent) := ("_law_odd", .fn 3 ["pen"] F_law_odd []) :: L3
abbrev L5 : List (Str × Ent) := ("_law_made", .fn 3 ["one", "two", "three"] F_law_made []) :: L4
abbrev L6 : List (Str × Ent) := ("_law_marks", .fn 1 ["error"] F_law_marks []) :: L5
abbrev L7 : List (Str × Ent) := ("_law_bases", .fn 1 ["error"] F_law_bases []) :: L6
abbrev L8 : List (Str × Ent) := ("_law_kept", .fn 3 ["one", "two"] F_law_kept []) :: L7
abbrev L9 : List (Str × Ent) := ("_law_kept_by_name", .fn 3 ["one", "two"] F_law_kept_by_name []) :: L8
abbrev L10 : List (Str × Ent) := ("law", .fn 4 ["script"] F_law []) :: L9
section
variable {w : World} {K : PySem.W.Frag} {mg : Str → Option Value} {base h : Heap}
theorem t0 (X : K.In h) (G : h.Ns mainGlobals mg) (c : SaysX file fcs dfs cds K) : LibOk prg w K mg base (fun x => L0.lookup x) := by
  refine lib_nil fun x hx => ?_
  simp only [bnames, List.mem_cons, List.not_mem_nil, or_false] at hx
  rcases hx with rfl | rfl | rfl | rfl | rfl | rfl | rfl | rfl | rfl | rfl | rfl | rfl | rfl | rfl | rfl | rfl | rfl | rfl | rfl | rfl
  · exact He.free_ok X G (c.d.fact 10 (f := .free "len") rfl)
  · exact He.free_ok X G (c.d.fact 11 (f := .free "abs") rfl)
  · exact He.free_ok X G (c.d.fact 12 (f := .free "int") rfl)
  · exact He.free_ok X G (c.d.fact 13 (f := .free "sum") rfl)
  · exact He.free_ok X G (c.d.fact 14 (f := .free "all") rfl)
  · exact He.free_ok X G (c.d.fact 15 (f := .free "any") rfl)
  · exact He.free_ok X G (c.d.fact 16 (f := .free "max") rfl)
  · exact He.free_ok X G (c.d.fact 17 (f := .free "min") rfl)
  · exact He.free_ok X G (c.d.fact 18 (f := .free "str") rfl)
  · exact He.free_ok X G (c.d.fact 19 (f := .free "repr") rfl)
  · exact He.free_ok X G (c.d.fact 20 (f := .free "list") rfl)
  · exact He.free_ok X G (c.d.fact 21 (f := .free "tuple") rfl)
  · exact He.free_ok X G (c.d.fact 22 (f := .free "isinstance") rfl)
  · exact He.free_ok X G (c.d.fact 23 (f := .free "range") rfl)
  · exact He.free_ok X G (c.d.fact 24 (f := .free "enumerate") rfl)
  · exact He.free_ok X G (c.d.fact 25 (f := .free "zip") rfl)
  · exact He.free_ok X G (c.d.fact 26 (f := .free "bool") rfl)
  · exact He.free_ok X G (c.d.fact 27 (f := .free "dict") rfl)
  · exact He.free_ok X G (c.d.fact 28 (f := .free "sorted") rfl)
  · exact He.free_ok X G (c.d.fact 29 (f := .free "set") rfl)
theorem hb_InvalidKey (cc : Addr) (kV doc pm ct : Value) (an : Option Addr) (cdv : Value) : Xb.BndF k_InvalidKey.kos (PySem.W.fnX "__init__" k_InvalidKey.qual k_InvalidKey.params k_InvalidKey.body k_InvalidKey.scope [("__class__", cc)] .none kV doc pm an cdv ct) k_InvalidKey.fs := by
  refine ⟨fun us hl => match us, hl with | [_, _], _ => rfl, ?_⟩
  intro q hq
  simp only [k_InvalidKey, List.mem_cons, List.not_mem_nil, or_false] at hq
  rcases hq with rfl
  · exact fun self ws hl => match ws, hl with | [_], _ => rfl
theorem hb_InvalidValue (cc : Addr) (kV doc pm ct : Value) (an : Option Addr) (cdv : Value) : Xb.BndF k_InvalidValue.kos (PySem.W.fnX "__init__" k_InvalidValue.qual k_InvalidValue.params k_InvalidValue.body k_InvalidValue.scope [("__class__", cc)] .none kV doc pm an cdv ct) k_InvalidValue.fs := by
  refine ⟨fun us hl => match us, hl with | [_, _], _ => rfl, ?_⟩
  intro q hq
  simp only [k_InvalidValue, List.mem_cons, List.not_mem_nil, or_false] at hq
  rcases hq with rfl
  · exact fun self ws hl => match ws, hl with | [_], _ => rfl
theorem hb_InvalidView (cc : Addr) (kV doc pm ct : Value) (an : Option Addr) (cdv : Value) : Xb.BndF k_InvalidView.kos (PySem.W.fnX "__init__" k_InvalidView.qual k_InvalidView.params k_InvalidView.body k_InvalidView.scope [("__class__", cc)] .none kV doc pm an cdv ct) k_InvalidView.fs := by
  refine ⟨fun us hl => match us, hl with | [_, _], _ => rfl, ?_⟩
  intro q hq
  simp only [k_InvalidView, List.mem_cons, List.not_mem_nil, or_false] at hq
  rcases hq with rfl
  · exact fun self ws hl => match ws, hl with | [_], _ => rfl
theorem hb_InvalidLoss (cc : Addr) (kV doc pm ct : Value) (an : Option Addr) (cdv : Value) : Xb.BndF k_InvalidLoss.kos (PySem.W.fnX "__init__" k_InvalidLoss.qual k_InvalidLoss.params k_InvalidLoss.body k_InvalidLoss.scope [("__class__", cc)] .none kV doc pm an cdv ct) k_InvalidLoss.fs := by
  refine ⟨fun us hl => match us, hl with | [_, _], _ => rfl, ?_⟩
  intro q hq
  simp only [k_InvalidLoss, List.mem_cons, List.not_mem_nil, or_false] at hq
  rcases hq with rfl
  · exact fun self ws hl => match ws, hl with | [_], _ => rfl
theorem hb_InvalidPages (cc : Addr) (kV doc pm ct : Value) (an : Option Addr) (cdv : Value) : Xb.BndF k_InvalidPages.kos (PySem.W.fnX "__init__" k_InvalidPages.qual k_InvalidPages.params k_InvalidPages.body k_InvalidPages.scope [("__class__", cc)] .none kV doc pm an cdv ct) k_InvalidPages.fs := by
  refine ⟨fun us hl => match us, hl with | [_, _], _ => rfl, ?_⟩
  intro q hq
  simp only [k_InvalidPages, List.mem_cons, List.not_mem_nil, or_false] at hq
  rcases hq with rfl
  · exact fun self ws hl => match ws, hl with | [_], _ => rfl
theorem hb_InvalidRow (cc : Addr) (kV doc pm ct : Value) (an : Option Addr) (cdv : Value) : Xb.BndF k_InvalidRow.kos (PySem.W.fnX "__init__" k_InvalidRow.qual k_InvalidRow.params k_InvalidRow.body k_InvalidRow.scope [("__class__", cc)] .none kV doc pm an cdv ct) k_InvalidRow.fs := by
  refine ⟨fun us hl => match us, hl with | [_, _], _ => rfl, ?_⟩
  intro q hq
  simp only [k_InvalidRow, List.mem_cons, List.not_mem_nil, or_false] at hq
  rcases hq with rfl
  · exact fun self ws hl => match ws, hl with | [_], _ => rfl
theorem hb_InvalidText (cc : Addr) (kV doc pm ct : Value) (an : Option Addr) (cdv : Value) : Xb.BndF k_InvalidText.kos (PySem.W.fnX "__init__" k_InvalidText.qual k_InvalidText.params k_InvalidText.body k_InvalidText.scope [("__class__", cc)] .none kV doc pm an cdv ct) k_InvalidText.fs := by
  refine ⟨fun us hl => match us, hl with | [_, _, _], _ => rfl, ?_⟩
  intro q hq
  simp only [k_InvalidText, List.mem_cons, List.not_mem_nil, or_false] at hq
  rcases hq with rfl
  · exact fun self ws hl => match ws, hl with | [_, _], _ => rfl
theorem hb_Barred (cc : Addr) (kV doc pm ct : Value) (an : Option Addr) (cdv : Value) : Xb.BndF k_Barred.kos (PySem.W.fnX "__init__" k_Barred.qual k_Barred.params k_Barred.body k_Barred.scope [("__class__", cc)] .none kV doc pm an cdv ct) k_Barred.fs := by
  refine ⟨fun us hl => match us, hl with | [_, _], _ => rfl, ?_⟩
  intro q hq
  simp only [k_Barred, List.mem_cons, List.not_mem_nil, or_false] at hq
  rcases hq with rfl
  · exact fun self ws hl => match ws, hl with | [_], _ => rfl
theorem hb_Unplayed (cc : Addr) (kV doc pm ct : Value) (an : Option Addr) (cdv : Value) : Xb.BndF k_Unplayed.kos (PySem.W.fnX "__init__" k_Unplayed.qual k_Unplayed.params k_Unplayed.body k_Unplayed.scope [("__class__", cc)] .none kV doc pm an cdv ct) k_Unplayed.fs := by
  refine ⟨fun us hl => match us, hl with | [_, _], _ => rfl, ?_⟩
  intro q hq
  simp only [k_Unplayed, List.mem_cons, List.not_mem_nil, or_false] at hq
  rcases hq with rfl
  · exact fun self ws hl => match ws, hl with | [_], _ => rfl
theorem hb_InvalidAccounts (cc : Addr) (kV doc pm ct : Value) (an : Option Addr) (cdv : Value) : Xb.BndF k_InvalidAccounts.kos (PySem.W.fnX "__init__" k_InvalidAccounts.qual k_InvalidAccounts.params k_InvalidAccounts.body k_InvalidAccounts.scope [("__class__", cc)] .none kV doc pm an cdv ct) k_InvalidAccounts.fs := by
  refine ⟨fun us hl => match us, hl with | [_, _], _ => rfl, ?_⟩
  intro q hq
  simp only [k_InvalidAccounts, List.mem_cons, List.not_mem_nil, or_false] at hq
  rcases hq with rfl
  · exact fun self ws hl => match ws, hl with | [_], _ => rfl
theorem hb_Unfit (cc : Addr) (kV doc pm ct : Value) (an : Option Addr) (cdv : Value) : Xb.BndF k_Unfit.kos (PySem.W.fnX "__init__" k_Unfit.qual k_Unfit.params k_Unfit.body k_Unfit.scope [("__class__", cc)] .none kV doc pm an cdv ct) k_Unfit.fs := by
  refine ⟨fun us hl => match us, hl with | [_, _, _], _ => rfl, ?_⟩
  intro q hq
  simp only [k_Unfit, List.mem_cons, List.not_mem_nil, or_false] at hq
  rcases hq with rfl
  · exact fun self ws hl => match ws, hl with | [_, _], _ => rfl
theorem hb_InvalidQuestion (cc : Addr) (kV doc pm ct : Value) (an : Option Addr) (cdv : Value) : Xb.BndF k_InvalidQuestion.kos (PySem.W.fnX "__init__" k_InvalidQuestion.qual k_InvalidQuestion.params k_InvalidQuestion.body k_InvalidQuestion.scope [("__class__", cc)] .none kV doc pm an cdv ct) k_InvalidQuestion.fs := by
  refine ⟨fun us hl => match us, hl with | [_, _], _ => rfl, ?_⟩
  intro q hq
  simp only [k_InvalidQuestion, List.mem_cons, List.not_mem_nil, or_false] at hq
  rcases hq with rfl
  · exact fun self ws hl => match ws, hl with | [_], _ => rfl
theorem hb_InvalidMoment (cc : Addr) (kV doc pm ct : Value) (an : Option Addr) (cdv : Value) : Xb.BndF k_InvalidMoment.kos (PySem.W.fnX "__init__" k_InvalidMoment.qual k_InvalidMoment.params k_InvalidMoment.body k_InvalidMoment.scope [("__class__", cc)] .none kV doc pm an cdv ct) k_InvalidMoment.fs := by
  refine ⟨fun us hl => match us, hl with | [_, _], _ => rfl, ?_⟩
  intro q hq
  simp only [k_InvalidMoment, List.mem_cons, List.not_mem_nil, or_false] at hq
  rcases hq with rfl
  · exact fun self ws hl => match ws, hl with | [_], _ => rfl
theorem hb_InvalidMost (cc : Addr) (kV doc pm ct : Value) (an : Option Addr) (cdv : Value) : Xb.BndF k_InvalidMost.kos (PySem.W.fnX "__init__" k_InvalidMost.qual k_InvalidMost.params k_InvalidMost.body k_InvalidMost.scope [("__class__", cc)] .none kV doc pm an cdv ct) k_InvalidMost.fs := by
  refine ⟨fun us hl => match us, hl with | [_, _], _ => rfl, ?_⟩
  intro q hq
  simp only [k_InvalidMost, List.mem_cons, List.not_mem_nil, or_false] at hq
  rcases hq with rfl
  · exact fun self ws hl => match ws, hl with | [_], _ => rfl
theorem hb_Lied (cc : Addr) (kV doc pm ct : Value) (an : Option Addr) (cdv : Value) : Xb.BndF k_Lied.kos (PySem.W.fnX "__init__" k_Lied.qual k_Lied.params k_Lied.body k_Lied.scope [("__class__", cc)] .none kV doc pm an cdv ct) k_Lied.fs := by
  refine ⟨fun us hl => match us, hl with | [_, _], _ => rfl, ?_⟩
  intro q hq
  simp only [k_Lied, List.mem_cons, List.not_mem_nil, or_false] at hq
  rcases hq with rfl
  · exact fun self ws hl => match ws, hl with | [_], _ => rfl
theorem hb_UnknownCommand (cc : Addr) (kV doc pm ct : Value) (an : Option Addr) (cdv : Value) : Xb.BndF k_UnknownCommand.kos (PySem.W.fnX "__init__" k_UnknownCommand.qual k_UnknownCommand.params k_UnknownCommand.body k_UnknownCommand.scope [("__class__", cc)] .none kV doc pm an cdv ct) k_UnknownCommand.fs := by
  refine ⟨fun us hl => match us, hl with | [_], _ => rfl, ?_⟩
  exact fun _ h => nomatch h
theorem hb_NameTaken (cc : Addr) (kV doc pm ct : Value) (an : Option Addr) (cdv : Value) : Xb.BndF k_NameTaken.kos (PySem.W.fnX "__init__" k_NameTaken.qual k_NameTaken.params k_NameTaken.body k_NameTaken.scope [("__class__", cc)] .none kV doc pm an cdv ct) k_NameTaken.fs := by
  refine ⟨fun us hl => match us, hl with | [_, _], _ => rfl, ?_⟩
  intro q hq
  simp only [k_NameTaken, List.mem_cons, List.not_mem_nil, or_false] at hq
  rcases hq with rfl
  · exact fun self ws hl => match ws, hl with | [_], _ => rfl
theorem hb_Ended (cc : Addr) (kV doc pm ct : Value) (an : Option Addr) (cdv : Value) : Xb.BndF k_Ended.kos (PySem.W.fnX "__init__" k_Ended.qual k_Ended.params k_Ended.body k_Ended.scope [("__class__", cc)] .none kV doc pm an cdv ct) k_Ended.fs := by
  refine ⟨fun us hl => match us, hl with | [_], _ => rfl, ?_⟩
  exact fun _ h => nomatch h
theorem hb_NotOuter (cc : Addr) (kV doc pm ct : Value) (an : Option Addr) (cdv : Value) : Xb.BndF k_NotOuter.kos (PySem.W.fnX "__init__" k_NotOuter.qual k_NotOuter.params k_NotOuter.body k_NotOuter.scope [("__class__", cc)] .none kV doc pm an cdv ct) k_NotOuter.fs := by
  refine ⟨fun us hl => match us, hl with | [_], _ => rfl, ?_⟩
  exact fun _ h => nomatch h
theorem hb_Unasked (cc : Addr) (kV doc pm ct : Value) (an : Option Addr) (cdv : Value) : Xb.BndF k_Unasked.kos (PySem.W.fnX "__init__" k_Unasked.qual k_Unasked.params k_Unasked.body k_Unasked.scope [("__class__", cc)] .none kV doc pm an cdv ct) k_Unasked.fs := by
  refine ⟨fun us hl => match us, hl with | [_, _, _, _], _ => rfl, ?_⟩
  intro q hq
  simp only [k_Unasked, List.mem_cons, List.not_mem_nil, or_false] at hq
  rcases hq with rfl
  · exact fun self ws hl => match ws, hl with | [_, _, _], _ => rfl
theorem hb_Occupied (cc : Addr) (kV doc pm ct : Value) (an : Option Addr) (cdv : Value) : Xb.BndF k_Occupied.kos (PySem.W.fnX "__init__" k_Occupied.qual k_Occupied.params k_Occupied.body k_Occupied.scope [("__class__", cc)] .none kV doc pm an cdv ct) k_Occupied.fs := by
  refine ⟨fun us hl => match us, hl with | [_], _ => rfl, ?_⟩
  exact fun _ h => nomatch h
theorem hb_Busy (cc : Addr) (kV doc pm ct : Value) (an : Option Addr) (cdv : Value) : Xb.BndF k_Busy.kos (PySem.W.fnX "__init__" k_Busy.qual k_Busy.params k_Busy.body k_Busy.scope [("__class__", cc)] .none kV doc pm an cdv ct) k_Busy.fs := by
  refine ⟨fun us hl => match us, hl with | [_, _], _ => rfl, ?_⟩
  intro q hq
  simp only [k_Busy, List.mem_cons, List.not_mem_nil, or_false] at hq
  rcases hq with rfl
  · exact fun self ws hl => match ws, hl with | [_], _ => rfl
theorem hb_Blocked (cc : Addr) (kV doc pm ct : Value) (an : Option Addr) (cdv : Value) : Xb.BndF k_Blocked.kos (PySem.W.fnX "__init__" k_Blocked.qual k_Blocked.params k_Blocked.body k_Blocked.scope [("__class__", cc)] .none kV doc pm an cdv ct) k_Blocked.fs := by
  refine ⟨fun us hl => match us, hl with | [_, _], _ => rfl, ?_⟩
  intro q hq
  simp only [k_Blocked, List.mem_cons, List.not_mem_nil, or_false] at hq
  rcases hq with rfl
  · exact fun self ws hl => match ws, hl with | [_], _ => rfl
theorem hb_Taken (cc : Addr) (kV doc pm ct : Value) (an : Option Addr) (cdv : Value) : Xb.BndF k_Taken.kos (PySem.W.fnX "__init__" k_Taken.qual k_Taken.params k_Taken.body k_Taken.scope [("__class__", cc)] .none kV doc pm an cdv ct) k_Taken.fs := by
  refine ⟨fun us hl => match us, hl with | [_, _], _ => rfl, ?_⟩
  intro q hq
  simp only [k_Taken, List.mem_cons, List.not_mem_nil, or_false] at hq
  rcases hq with rfl
  · exact fun self ws hl => match ws, hl with | [_], _ => rfl
theorem hb_NoKey (cc : Addr) (kV doc pm ct : Value) (an : Option Addr) (cdv : Value) : Xb.BndF k_NoKey.kos (PySem.W.fnX "__init__" k_NoKey.qual k_NoKey.params k_NoKey.body k_NoKey.scope [("__class__", cc)] .none kV doc pm an cdv ct) k_NoKey.fs := by
  refine ⟨fun us hl => match us, hl with | [_, _], _ => rfl, ?_⟩
  intro q hq
  simp only [k_NoKey, List.mem_cons, List.not_mem_nil, or_false] at hq
  rcases hq with rfl
  · exact fun self ws hl => match ws, hl with | [_], _ => rfl
theorem hb_NoPage (cc : Addr) (kV doc pm ct : Value) (an : Option Addr) (cdv : Value) : Xb.BndF k_NoPage.kos (PySem.W.fnX "__init__" k_NoPage.qual k_NoPage.params k_NoPage.body k_NoPage.scope [("__class__", cc)] .none kV doc pm an cdv ct) k_NoPage.fs := by
  refine ⟨fun us hl => match us, hl with | [_, _], _ => rfl, ?_⟩
  intro q hq
  simp only [k_NoPage, List.mem_cons, List.not_mem_nil, or_false] at hq
  rcases hq with rfl
  · exact fun self ws hl => match ws, hl with | [_], _ => rfl
theorem hb_NoSlot (cc : Addr) (kV doc pm ct : Value) (an : Option Addr) (cdv : Value) : Xb.BndF k_NoSlot.kos (PySem.W.fnX "__init__" k_NoSlot.qual k_NoSlot.params k_NoSlot.body k_NoSlot.scope [("__class__", cc)] .none kV doc pm an cdv ct) k_NoSlot.fs := by
  refine ⟨fun us hl => match us, hl with | [_, _], _ => rfl, ?_⟩
  intro q hq
  simp only [k_NoSlot, List.mem_cons, List.not_mem_nil, or_false] at hq
  rcases hq with rfl
  · exact fun self ws hl => match ws, hl with | [_], _ => rfl
theorem hb_NotDead (cc : Addr) (kV doc pm ct : Value) (an : Option Addr) (cdv : Value) : Xb.BndF k_NotDead.kos (PySem.W.fnX "__init__" k_NotDead.qual k_NotDead.params k_NotDead.body k_NotDead.scope [("__class__", cc)] .none kV doc pm an cdv ct) k_NotDead.fs := by
  refine ⟨fun us hl => match us, hl with | [_, _], _ => rfl, ?_⟩
  intro q hq
  simp only [k_NotDead, List.mem_cons, List.not_mem_nil, or_false] at hq
  rcases hq with rfl
  · exact fun self ws hl => match ws, hl with | [_], _ => rfl
theorem hb_NotPrepared (cc : Addr) (kV doc pm ct : Value) (an : Option Addr) (cdv : Value) : Xb.BndF k_NotPrepared.kos (PySem.W.fnX "__init__" k_NotPrepared.qual k_NotPrepared.params k_NotPrepared.body k_NotPrepared.scope [("__class__", cc)] .none kV doc pm an cdv ct) k_NotPrepared.fs := by
  refine ⟨fun us hl => match us, hl with | [_, _], _ => rfl, ?_⟩
  intro q hq
  simp only [k_NotPrepared, List.mem_cons, List.not_mem_nil, or_false] at hq
  rcases hq with rfl
  · exact fun self ws hl => match ws, hl with | [_], _ => rfl
theorem hb_NotSpan (cc : Addr) (kV doc pm ct : Value) (an : Option Addr) (cdv : Value) : Xb.BndF k_NotSpan.kos (PySem.W.fnX "__init__" k_NotSpan.qual k_NotSpan.params k_NotSpan.body k_NotSpan.scope [("__class__", cc)] .none kV doc pm an cdv ct) k_NotSpan.fs := by
  refine ⟨fun us hl => match us, hl with | [_, _], _ => rfl, ?_⟩
  intro q hq
  simp only [k_NotSpan, List.mem_cons, List.not_mem_nil, or_false] at hq
  rcases hq with rfl
  · exact fun self ws hl => match ws, hl with | [_], _ => rfl
theorem hb_NotCleaning (cc : Addr) (kV doc pm ct : Value) (an : Option Addr) (cdv : Value) : Xb.BndF k_NotCleaning.kos (PySem.W.fnX "__init__" k_NotCleaning.qual k_NotCleaning.params k_NotCleaning.body k_NotCleaning.scope [("__class__", cc)] .none kV doc pm an cdv ct) k_NotCleaning.fs := by
  refine ⟨fun us hl => match us, hl with | [_, _], _ => rfl, ?_⟩
  intro q hq
  simp only [k_NotCleaning, List.mem_cons, List.not_mem_nil, or_false] at hq
  rcases hq with rfl
  · exact fun self ws hl => match ws, hl with | [_], _ => rfl
theorem hb_NoNumber (cc : Addr) (kV doc pm ct : Value) (an : Option Addr) (cdv : Value) : Xb.BndF k_NoNumber.kos (PySem.W.fnX "__init__" k_NoNumber.qual k_NoNumber.params k_NoNumber.body k_NoNumber.scope [("__class__", cc)] .none kV doc pm an cdv ct) k_NoNumber.fs := by
  refine ⟨fun us hl => match us, hl with | [_, _], _ => rfl, ?_⟩
  intro q hq
  simp only [k_NoNumber, List.mem_cons, List.not_mem_nil, or_false] at hq
  rcases hq with rfl
  · exact fun self ws hl => match ws, hl with | [_], _ => rfl
theorem hb_NoTransaction (cc : Addr) (kV doc pm ct : Value) (an : Option Addr) (cdv : Value) : Xb.BndF k_NoTransaction.kos (PySem.W.fnX "__init__" k_NoTransaction.qual k_NoTransaction.params k_NoTransaction.body k_NoTransaction.scope [("__class__", cc)] .none kV doc pm an cdv ct) k_NoTransaction.fs := by
  refine ⟨fun us hl => match us, hl with | [_, _], _ => rfl, ?_⟩
  intro q hq
  simp only [k_NoTransaction, List.mem_cons, List.not_mem_nil, or_false] at hq
  rcases hq with rfl
  · exact fun self ws hl => match ws, hl with | [_], _ => rfl
theorem hb_NoRun (cc : Addr) (kV doc pm ct : Value) (an : Option Addr) (cdv : Value) : Xb.BndF k_NoRun.kos (PySem.W.fnX "__init__" k_NoRun.qual k_NoRun.params k_NoRun.body k_NoRun.scope [("__class__", cc)] .none kV doc pm an cdv ct) k_NoRun.fs := by
  refine ⟨fun us hl => match us, hl with | [_, _, _], _ => rfl, ?_⟩
  intro q hq
  simp only [k_NoRun, List.mem_cons, List.not_mem_nil, or_false] at hq
  rcases hq with rfl
  · exact fun self ws hl => match ws, hl with | [_, _], _ => rfl
theorem hb_NoAccount (cc : Addr) (kV doc pm ct : Value) (an : Option Addr) (cdv : Value) : Xb.BndF k_NoAccount.kos (PySem.W.fnX "__init__" k_NoAccount.qual k_NoAccount.params k_NoAccount.body k_NoAccount.scope [("__class__", cc)] .none kV doc pm an cdv ct) k_NoAccount.fs := by
  refine ⟨fun us hl => match us, hl with | [_, _], _ => rfl, ?_⟩
  intro q hq
  simp only [k_NoAccount, List.mem_cons, List.not_mem_nil, or_false] at hq
  rcases hq with rfl
  · exact fun self ws hl => match ws, hl with | [_], _ => rfl
theorem hb_Full (cc : Addr) (kV doc pm ct : Value) (an : Option Addr) (cdv : Value) : Xb.BndF k_Full.kos (PySem.W.fnX "__init__" k_Full.qual k_Full.params k_Full.body k_Full.scope [("__class__", cc)] .none kV doc pm an cdv ct) k_Full.fs := by
  refine ⟨fun us hl => match us, hl with | [_], _ => rfl, ?_⟩
  exact fun _ h => nomatch h
theorem hb_TooDeep (cc : Addr) (kV doc pm ct : Value) (an : Option Addr) (cdv : Value) : Xb.BndF k_TooDeep.kos (PySem.W.fnX "__init__" k_TooDeep.qual k_TooDeep.params k_TooDeep.body k_TooDeep.scope [("__class__", cc)] .none kV doc pm an cdv ct) k_TooDeep.fs := by
  refine ⟨fun us hl => match us, hl with | [_, _], _ => rfl, ?_⟩
  intro q hq
  simp only [k_TooDeep, List.mem_cons, List.not_mem_nil, or_false] at hq
  rcases hq with rfl
  · exact fun self ws hl => match ws, hl with | [_], _ => rfl
theorem hb_TooLong (cc : Addr) (kV doc pm ct : Value) (an : Option Addr) (cdv : Value) : Xb.BndF k_TooLong.kos (PySem.W.fnX "__init__" k_TooLong.qual k_TooLong.params k_TooLong.body k_TooLong.scope [("__class__", cc)] .none kV doc pm an cdv ct) k_TooLong.fs := by
  refine ⟨fun us hl => match us, hl with | [_, _], _ => rfl, ?_⟩
  intro q hq
  simp only [k_TooLong, List.mem_cons, List.not_mem_nil, or_false] at hq
  rcases hq with rfl
  · exact fun self ws hl => match ws, hl with | [_], _ => rfl
theorem owns : ownsOf cds = [k_InvalidKey, k_InvalidValue, k_InvalidView, k_InvalidLoss, k_InvalidPages, k_InvalidRow, k_InvalidText, k_Barred, k_Unplayed, k_InvalidAccounts, k_Unfit, k_InvalidQuestion, k_InvalidMoment, k_InvalidMost, k_Lied, k_UnknownCommand, k_NameTaken, k_Ended, k_NotOuter, k_Unasked, k_Occupied, k_Busy, k_Blocked, k_Taken, k_NoKey, k_NoPage, k_NoSlot, k_NotDead, k_NotPrepared, k_NotSpan, k_NotCleaning, k_NoNumber, k_NoTransaction, k_NoRun, k_NoAccount, k_Full, k_TooDeep, k_TooLong] := by kernel_rfl
theorem co (X : K.In h) (G : h.Ns mainGlobals mg) (c : SaysX file fcs dfs cds K) : ClsOk prg K mg cls := by
  refine SaysX.cls (P := prg) c X G (by kernel_rfl) (by rw [owns]; decide +kernel) fun d hd => ?_
  rw [owns] at hd
  simp only [List.mem_cons, List.not_mem_nil, or_false] at hd
  rcases hd with rfl | rfl | rfl | rfl | rfl | rfl | rfl | rfl | rfl | rfl | rfl | rfl | rfl | rfl | rfl | rfl | rfl | rfl | rfl | rfl | rfl | rfl | rfl | rfl | rfl | rfl | rfl | rfl | rfl | rfl | rfl | rfl | rfl | rfl | rfl | rfl | rfl | rfl
  · exact hb_InvalidKey
  · exact hb_InvalidValue
  · exact hb_InvalidView
  · exact hb_InvalidLoss
  · exact hb_InvalidPages
  · exact hb_InvalidRow
  · exact hb_InvalidText
  · exact hb_Barred
  · exact hb_Unplayed
  · exact hb_InvalidAccounts
  · exact hb_Unfit
  · exact hb_InvalidQuestion
  · exact hb_InvalidMoment
  · exact hb_InvalidMost
  · exact hb_Lied
  · exact hb_UnknownCommand
  · exact hb_NameTaken
  · exact hb_Ended
  · exact hb_NotOuter
  · exact hb_Unasked
  · exact hb_Occupied
  · exact hb_Busy
  · exact hb_Blocked
  · exact hb_Taken
  · exact hb_NoKey
  · exact hb_NoPage
  · exact hb_NoSlot
  · exact hb_NotDead
  · exact hb_NotPrepared
  · exact hb_NotSpan
  · exact hb_NotCleaning
  · exact hb_NoNumber
  · exact hb_NoTransaction
  · exact hb_NoRun
  · exact hb_NoAccount
  · exact hb_Full
  · exact hb_TooDeep
  · exact hb_TooLong
theorem c_law_pen : cDef 60 ["script"] (defScope (top 44)) 0 (fun x => L0.lookup x) cls (defBody (top 44)) = some b_law_pen := by kernel_rfl
theorem z_law_pen : C8.scC ["script"] ["script"] (defScope (top 44)) = true := by decide +kernel
theorem t1 (X : K.In h) (G : h.Ns mainGlobals mg) (c : SaysX file fcs dfs cds K) : LibOk prg w K mg base (fun x => L1.lookup x) := by
  obtain ⟨fd, F⟩ := c.d.def_ 0 (d := d_law_pen) rfl
  exact def_in (t0 X G c) (co X G c) F (He.glo_ok X G (c.d.fact 0 (f := .glo "_law_pen") rfl)) z_law_pen c_law_pen (fun _ _ _ _ _ _ us ws hl => (match us, ws, hl with | [], [_], _ => rfl | [_], [], _ => rfl)) (fun _ h => nomatch h)
theorem c_law_draw : cDef 60 ["pen", "bound", "digit", "at", "cell", "great", "mixed"] (defScope (top 45)) 0 (fun x => L1.lookup x) cls (defBody (top 45)) = some b_law_draw := by kernel_rfl
theorem z_law_draw : C8.scC ["pen", "bound", "digit", "at", "cell", "great", "mixed"] ["pen", "bound"] (defScope (top 45)) = true := by decide +kernel
theorem t2 (X : K.In h) (G : h.Ns mainGlobals mg) (c : SaysX file fcs dfs cds K) : LibOk prg w K mg base (fun x => L2.lookup x) := by
  obtain ⟨fd, F⟩ := c.d.def_ 1 (d := d_law_draw) rfl
  exact def_in (t1 X G c) (co X G c) F (He.glo_ok X G (c.d.fact 1 (f := .glo "_law_draw") rfl)) z_law_draw c_law_draw (fun _ _ _ _ _ _ us ws hl => (match us, ws, hl with | [], [_, _], _ => rfl | [_], [_], _ => rfl | [_, _], [], _ => rfl)) (fun _ h => nomatch h)
theorem c_law_pick : cDef 60 ["pen", "some"] (defScope (top 46)) 1 (fun x => L2.lookup x) cls (defBody (top 46)) = some b_law_pick := by kernel_rfl
theorem z_law_pick : C8.scC ["pen", "some"] ["pen", "some"] (defScope (top 46)) = true := by decide +kernel
theorem t3 (X : K.In h) (G : h.Ns mainGlobals mg) (c : SaysX file fcs dfs cds K) : LibOk prg w K mg base (fun x => L3.lookup x) := by
  obtain ⟨fd, F⟩ := c.d.def_ 2 (d := d_law_pick) rfl
  exact def_in (t2 X G c) (co X G c) F (He.glo_ok X G (c.d.fact 2 (f := .glo "_law_pick") rfl)) z_law_pick c_law_pick (fun _ _ _ _ _ _ us ws hl => (match us, ws, hl with | [], [_, _], _ => rfl | [_], [_], _ => rfl | [_, _], [], _ => rfl)) (fun _ h => nomatch h)
theorem c_law_odd : cDef 60 ["pen", "some"] (defScope (top 47)) 2 (fun x => L3.lookup x) cls (defBody (top 47)) = some b_law_odd := by kernel_rfl
theorem z_law_odd : C8.scC ["pen", "some"] ["pen"] (defScope (top 47)) = true := by decide +kernel
theorem t4 (X : K.In h) (G : h.Ns mainGlobals mg) (c : SaysX file fcs dfs cds K) : LibOk prg w K mg base (fun x => L4.lookup x) := by
  obtain ⟨fd, F⟩ := c.d.def_ 3 (d := d_law_odd) rfl
  exact def_in (t3 X G c) (co X G c) F (He.glo_ok X G (c.d.fact 3 (f := .glo "_law_odd") rfl)) z_law_odd c_law_odd (fun _ _ _ _ _ _ us ws hl => (match us, ws, hl with | [], [_], _ => rfl | [_], [], _ => rfl)) (fun _ h => nomatch h)
theorem c_law_made : cDef 60 ["one", "two", "three", "found"] (defScope (top 48)) 2 (fun x => L4.lookup x) cls (defBody (top 48)) = some b_law_made := by kernel_rfl
theorem z_law_made : C8.scC ["one", "two", "three", "found"] ["one", "two", "three"] (defScope (top 48)) = true := by decide +kernel
theorem t5 (X : K.In h) (G : h.Ns mainGlobals mg) (c : SaysX file fcs dfs cds K) : LibOk prg w K mg base (fun x => L5.lookup x) := by
  obtain ⟨fd, F⟩ := c.d.def_ 4 (d := d_law_made) rfl
  exact def_in (t4 X G c) (co X G c) F (He.glo_ok X G (c.d.fact 4 (f := .glo "_law_made") rfl)) z_law_made c_law_made (fun _ _ _ _ _ _ us ws hl => (match us, ws, hl with | [], [_, _, _], _ => rfl | [_], [_, _], _ => rfl | [_, _], [_], _ => rfl | [_, _, _], [], _ => rfl)) (fun _ h => nomatch h)
theorem c_law_marks : cDef 60 ["error", "found"] (defScope (top 49)) 0 (fun x => L5.lookup x) cls (defBody (top 49)) = some b_law_marks := by kernel_rfl
theorem z_law_marks : C8.scC ["error", "found"] ["error"] (defScope (top 49)) = true := by decide +kernel
theorem t6 (X : K.In h) (G : h.Ns mainGlobals mg) (c : SaysX file fcs dfs cds K) : LibOk prg w K mg base (fun x => L6.lookup x) := by
  obtain ⟨fd, F⟩ := c.d.def_ 5 (d := d_law_marks) rfl
  exact def_in (t5 X G c) (co X G c) F (He.glo_ok X G (c.d.fact 5 (f := .glo "_law_marks") rfl)) z_law_marks c_law_marks (fun _ _ _ _ _ _ us ws hl => (match us, ws, hl with | [], [_], _ => rfl | [_], [], _ => rfl)) (fun _ h => nomatch h)
theorem c_law_bases : cDef 60 ["error", "found"] (defScope (top 50)) 0 (fun x => L6.lookup x) cls (defBody (top 50)) = some b_law_bases := by kernel_rfl
theorem z_law_bases : C8.scC ["error", "found"] ["error"] (defScope (top 50)) = true := by decide +kernel
theorem t7 (X : K.In h) (G : h.Ns mainGlobals mg) (c : SaysX file fcs dfs cds K) : LibOk prg w K mg base (fun x => L7.lookup x) := by
  obtain ⟨fd, F⟩ := c.d.def_ 6 (d := d_law_bases) rfl
  exact def_in (t6 X G c) (co X G c) F (He.glo_ok X G (c.d.fact 6 (f := .glo "_law_bases") rfl)) z_law_bases c_law_bases (fun _ _ _ _ _ _ us ws hl => (match us, ws, hl with | [], [_], _ => rfl | [_], [], _ => rfl)) (fun _ h => nomatch h)
theorem c_law_kept : cDef 60 ["one", "two", "told", "others"] (defScope (top 51)) 2 (fun x => L7.lookup x) cls (defBody (top 51)) = some b_law_kept := by kernel_rfl
theorem z_law_kept : C8.scC ["one", "two", "told", "others"] ["one", "two"] (defScope (top 51)) = true := by decide +kernel
theorem t8 (X : K.In h) (G : h.Ns mainGlobals mg) (c : SaysX file fcs dfs cds K) : LibOk prg w K mg base (fun x => L8.lookup x) := by
  obtain ⟨fd, F⟩ := c.d.def_ 7 (d := d_law_kept) rfl
  exact def_in (t7 X G c) (co X G c) F (He.glo_ok X G (c.d.fact 7 (f := .glo "_law_kept") rfl)) z_law_kept c_law_kept (fun _ _ _ _ _ _ us ws hl => (match us, ws, hl with | [], [_, _], _ => rfl | [_], [_], _ => rfl | [_, _], [], _ => rfl)) (fun _ h => nomatch h)
theorem c_law_kept_by_name : cDef 60 ["one", "two", "text", "told", "others"] (defScope (top 52)) 2 (fun x => L8.lookup x) cls (defBody (top 52)) = some b_law_kept_by_name := by kernel_rfl
theorem z_law_kept_by_name : C8.scC ["one", "two", "text", "told", "others"] ["one", "two"] (defScope (top 52)) = true := by decide +kernel
theorem t9 (X : K.In h) (G : h.Ns mainGlobals mg) (c : SaysX file fcs dfs cds K) : LibOk prg w K mg base (fun x => L9.lookup x) := by
  obtain ⟨fd, F⟩ := c.d.def_ 8 (d := d_law_kept_by_name) rfl
  exact def_in (t8 X G c) (co X G c) F (He.glo_ok X G (c.d.fact 8 (f := .glo "_law_kept_by_name") rfl)) z_law_kept_by_name c_law_kept_by_name (fun _ _ _ _ _ _ us ws hl => (match us, ws, hl with | [], [_, _], _ => rfl | [_], [_], _ => rfl | [_, _], [], _ => rfl)) (fun _ h => nomatch h)
theorem c_law : cDef 60 ["script", "pen", "turn", "one", "two", "errors", "k", "j", "family"] (defScope (top 53)) 3 (fun x => L9.lookup x) cls (defBody (top 53)) = some b_law := by kernel_rfl
theorem z_law : C8.scC ["script", "pen", "turn", "one", "two", "errors", "k", "j", "family"] ["script"] (defScope (top 53)) = true := by decide +kernel
theorem t10 (X : K.In h) (G : h.Ns mainGlobals mg) (c : SaysX file fcs dfs cds K) : LibOk prg w K mg base (fun x => L10.lookup x) := by
  obtain ⟨fd, F⟩ := c.d.def_ 9 (d := d_law) rfl
  exact def_in (t9 X G c) (co X G c) F (He.glo_ok X G (c.d.fact 9 (f := .glo "law") rfl)) z_law c_law (fun _ _ _ _ _ _ us ws hl => (match us, ws, hl with | [], [_], _ => rfl | [_], [], _ => rfl)) (fun _ h => nomatch h)
end
end Lwk01
set_option Elab.async false
set_option linter.all false
set_option maxRecDepth 100000
set_option maxHeartbeats 0
namespace Lwk01
open PySem PySem.Spec L2 Mi
open PyProof.Rows hiding St
theorem law_in {w : World} {K : PySem.W.Frag} {mg : Str → Option Value} {base h : Heap} {fa : Addr} (X : K.In h) (G : h.Ns mainGlobals mg) (c : SaysX file fcs dfs cds K) (hm : mg ("law" : Str) = some (.ref fa)) : ∃ fd, Bd K fd ["script"] ∧ FnG prg w K mg base 4 fa fd ["script"] F_law := by
  obtain ⟨f, fd, m1, _, m3, m4, _⟩ := (t10 (w := w) (base := base) X G c).fn "law" 4 ["script"] F_law [] rfl
  cases hm.symm.trans m1
  exact ⟨fd, m3, m4⟩
end Lwk01
open PySem PySem.W PySem.Calls PyProof.Rows
theorem holds_of (hF : Mi.saysTrue Lwk01.F_law 63) : PySem.Challenge.rw_noteskept_k01_errors.Holds := by
  w_on; o_law
  refine HandSHeadRun.head_any (r := OpenLaw.row PySem.Challenge.rw_noteskept_k01_errors) (q := view (OpenLaw.row PySem.Challenge.rw_noteskept_k01_errors).prog [53]) (H := Lwk01.hok) (ob := Lwk01.obs) (M := 60000) (loose := Lwk01.lse) (d := HandSHeadRun.topDef (OpenLaw.row PySem.Challenge.rw_noteskept_k01_errors).prog 53) (kwd := []) Lwk01.obs_eq
    (by kernel_rfl) (fun s => by kernel_rfl) Lwk01.run (by kernel_rfl) (by kernel_rfl) (by kernel_rfl) (by rfl) (by first | assumption | decide +kernel) (by decide +kernel) ⟨rfl, rfl, rfl, rfl, rfl, by decide +kernel⟩ ?hw ?hc
  case hw => w_witness2
  case hc =>
    refine Mi.walkG (l := PySem.Challenge.rw_noteskept_k01_errors) (n := 63) (k := 4) (x := "script") rfl (by decide) (by kernel_rfl) ⟨rfl, by decide, by decide⟩ hF ?_
    intro w mg fa h Y G hmg0
    obtain ⟨K, KX, c, tb⟩ := Y
    have hmg : mg ("law" : PySem.Str) = some (.ref fa) := by
      have e : (HandSHeadRun.topDef (OpenLaw.row PySem.Challenge.rw_noteskept_k01_errors).prog 53).name = ("law" : PySem.Str) := by kernel_rfl
      rw [← e]
      exact hmg0
    exact ⟨K, Mi.csOf K, KX, fun b => Mi.tabsAt KX tb b, fun base _ _ _ => Lwk01.law_in KX G c hmg⟩
theorem PySem.Challenge.cw_noteskept_k01_errors_holds : PySem.Challenge.rw_noteskept_k01_errors.Holds :=
  holds_of Lwk01.law_true

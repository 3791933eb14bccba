import PyProof.Rows.All
import Wide.All
import OpenK.AllK
import Wide.FinOn
import PySem.Challenge.RW_grantlines_k01_errors_each_of_its_own
import KE.KStateDown
import KE.KExcSuper
import HandS.Words
import HandS.ExcField
import HandS.IsInst
import HandS.Head0
import HandS.Head1
import HandS.Head2
import HandS.HeadHook1
import HandS.HeadHook2
import PySem.Str
import PySem.PyData
import PySem.Syntax
import PyProof.P3Statements
import KE.SortData
import PyProof.StrBlockL
import HandS.ForMost
import HandS.Nested
import HandS.Exc
import HandS.ExcInit
import HandS.TupAny
import HandS.Deep
import HandS.Steps
import HandS.CallSlots
import HandS.Property
import HandS.Defaults
import HandS.Small
import HandS.Style
import HandS.Iter
import HandS.Zip
import KE.GoesEnum
import KE.LtData
import HandS.DictComp
import HandS.TupLen
import HandS.WordsDict
import HandS.Conv
import HandS.More
import HandS.Strs
import HandS.Text
import HandS.ExcIs
import KE.KExcIs
import PyProof.FactsLen
import HandS.Comp
import HandS.MakeKwOnly
import HandS.ExcSuper
import HandS.ExcValue
import HandS.ExcOwn
import HandS.Lambda
import HandS.Ends
import HandS.HeadEnd
set_option Elab.async false
set_option linter.all false
set_option autoImplicit false
set_option maxRecDepth 100000
namespace Mp
open PySem PySem.Spec PyProof.Rows L2 He
abbrev XiW : Type := Option (Str × Str × Arguments × FuncBody × Scope × Addr × List Str × Addr)
def xiW (K : PySem.W.Frag) (x : Str) : XiW := match K.lookup (He.ma K (He.ga K x) "__init__") with
  | some ⟨_, _, .func fd, _⟩ => some (fd.name, fd.qualname, fd.params, fd.body, fd.scope, fd.globals, fd.closure.map (·.1), fd.builtins)
  | _ => none
abbrev AlM : Type := Bool × List FnW × List XiW
def obsM (chk : PySem.W.Frag → Bool) (fn : List (Str × Option Str)) (xs : List Str) (K : PySem.W.Frag) : AlM := (chk K, fn.map (fnW K), xs.map (xiW K))
def fnAs (g : Addr → Option Obj) (f : Addr) : List Addr := match g f with
  | some ⟨_, _, .func fd, _⟩ => f :: (He.refV fd.code ++ (He.refV fd.defaults ++ fd.closure.map (·.2)))
  | _ => [f]
def clAs (g : Addr → Option Obj) (C ns : Addr) : List Addr := C :: ns :: (match g ns with
  | some ⟨_, _, .dict es _, _⟩ => es.toList.flatMap fun e => (match e.val with
    | .ref a => fnAs g a
    | _ => [])
  | _ => [])
def asM (g : Addr → Option Obj) : List Addr := mainGlobals :: cStatics :: (match g mainGlobals with
  | some ⟨_, _, .dict es _, _⟩ => es.toList.flatMap fun e => (match e.val with
    | .ref a => (match g a with
      | some ⟨_, _, .cls cd, _⟩ => clAs g a cd.ns
      | some ⟨_, _, .func _, _⟩ => fnAs g a
      | some ⟨.type "tuple", _, _, _⟩ => [a]
      | _ => [])
    | _ => [])
  | _ => [])
def hookM (chk : PySem.W.Frag → Bool) (fn : List (Str × Option Str)) (xs : List Str) (vf : List FnW) (vx : List XiW) : PySem.W.Hook where
  α := AlM
  obs := fun s => obsM chk fn xs (frG s.heap.get? (asM s.heap.get?))
  val := fun _ => (true, vf, vx)
  says := fun _ h => ∃ K : PySem.W.Frag, K.In h ∧ obsM chk fn xs K = (true, vf, vx)
  of := fun _ _ e => ⟨_, frG_in, e⟩
  keeps := fun _ _ _ ⟨K, hK, c⟩ k => ⟨K, hK.keeps k, c⟩
theorem obsM_eq {chk : PySem.W.Frag → Bool} {fn : List (Str × Option Str)} {xs : List Str} {vf : List FnW} {vx : List XiW} {g : Addr → Option Obj} {s : Shared} (h : ∀ a, g a = s.heap.get? a) : obsM chk fn xs (frG g (asM g)) = (hookM chk fn xs vf vx).obs s := by
  rw [show g = s.heap.get? from funext h] <;> rfl
def frK {α : Type} : PySem.W.Frag → (PySem.W.Frag → α) → α
  | [], k => k []
  | (a, o) :: r, k => HandSHeadRun.frNat a fun a => frK r fun r => k ((a, o) :: r)
theorem frK_eq {α : Type} : ∀ (l : PySem.W.Frag) (k : PySem.W.Frag → α), frK l k = k l
  | [], k => rfl
  | (a, o) :: r, k => by
    show HandSHeadRun.frNat a (fun a => frK r fun r => k ((a, o) :: r)) = _
    rw [HandSHeadRun.frNat_eq, frK_eq r]
def frL {α : Type} : List Addr → (List Addr → α) → α
  | [], k => k []
  | a :: r, k => HandSHeadRun.frNat a fun a => frL r fun r => k (a :: r)
theorem frL_eq {α : Type} : ∀ (l : List Addr) (k : List Addr → α), frL l k = k l
  | [], k => rfl
  | a :: r, k => by
    show HandSHeadRun.frNat a (fun a => frL r fun r => k (a :: r)) = _
    rw [HandSHeadRun.frNat_eq, frL_eq r]
def oxB (K : PySem.W.Frag) (C : Addr) : Bool := match K.lookup C with
  | some ⟨.type "type", _, .cls cd, sl⟩ => (match cd.mro, sl.toList with
    | .ref C' :: bm, [_, _, _, _, some (.builtin n), _] => C' == C && n == "ValueError.__new__" && !cd.hasDel && cd.hasDict && PySem.HandSPX.refsVE bm && decide (PySem.W.alongIn K "__init__" bm = some (some (.builtin "ValueError.__init__")))
    | _, _ => false)
  | _ => false
def xclB (K : PySem.W.Frag) (C : Addr) : Bool := oxB K C && (decide (PySem.W.findIn K (.ref C) "__setattr__" = some (some (.builtin "object.__setattr__"))) && (decide (PySem.W.typeIn K (.ref C) = some (.type "type")) && (PySem.W.keepIn K (.ref C) && (xfB K C &&
  (decide (PySem.W.findIn K (.ref C) "__class__" = some (some (.builtin "object.__class__"))) && (decide (PySem.W.specialIn K (.builtin "object.__class__") "__get__" = some (some (.builtin "getset_descriptor.__get__"))) && (decide (PySem.W.takesIn K (.builtin "object.__class__") = some true) && decide (PySem.W.mroIn K C (.type "object") = some true))))))))
def noneV : Value → Bool
  | .none => true
  | _ => false
def xiB (K : PySem.W.Frag) (file : Str) (C fI : Addr) : Bool := match K.lookup fI with
  | some ⟨_, _, .func fd, _⟩ => (match fd.closure, fd.code with
    | [(_, cc)], .ref cda => PySem.W.codeIn K (.ref cda) fd.qualname && (match K.lookup cda with
      | some ⟨_, _, .fields vs, _⟩ => (match (vs[2]? : Option Value) with
        | some (Value.str fl _) => file == fl
        | _ => false)
      | _ => false) && (match K.lookup cc with
      | some ⟨_, _, .cell (some (.ref C')), _⟩ => C' == C
      | _ => false) && noneV fd.defaults
    | _, _ => false)
  | _ => false
def xi2B (K : PySem.W.Frag) (C fI : Addr) (f : Str) : Bool := decide (PySem.W.subIn K (.ref C) (.type "ValueError") = some true) && (decide (PySem.W.mroIn K C (.ref C) = some true) && (decide (PySem.W.findIn K (.ref C) f = some none) && (decide (PySem.W.nsIn K cStatics "thirdparty.any" = some none) &&
  (decide (PySem.W.findIn K (.ref C) "__init__" = some (some (.ref fI))) && decide (PySem.W.typeIn K (.ref fI) = some (.type "function"))))))
def shA (f : Str) : Arguments → Bool
  | ⟨[], [⟨a, _, _⟩, ⟨b, _, _⟩], none, [], [], none, []⟩ => a == "self" && b == f
  | _ => false
def shB (f : Str) : List Stmt → Bool
  | [.Expr (.Call (.Attribute (.Call (.Name n1 _) [] [] _) n2 p2) [] [] p3) _, .Assign [.Attribute (.Name n3 _) n4 _] (.Name n5 _) _] => n1 == "super" && n2 == "__init__" && n3 == "self" && n4 == f && n5 == f && (p2.endLine == p3.line)
  | _ => false
def shS (f : Str) (sc : Scope) : Bool := decide (sc.names.lookup ("super" : Str) = some .globalImplicit) && decide (sc.names.lookup ("__class__" : Str) = some .free) && decide (sc.names.lookup ("self" : Str) = some .local) && decide (sc.names.lookup f = some .local) &&
  decide (sc.kind = .function) && !sc.isCoroutine && !sc.isGenerator && sc.names.all (fun y => !decide (y.2 = .cell))
def topS (p : Program) (i : Nat) : Stmt := p.main.body.getD i (.Pass ⟨0, 0, 0, 0⟩)
def defAt (p : Program) (x : Str) (i : Nat) : DefD := ⟨(x, none), x, x, defArgs (topS p i), defBody (topS p i), defScope (topS p i), [], []⟩
def iniOf : Stmt → Stmt
  | .ClassDef _ _ _ (s :: _) _ _ _ _ _ _ _ => s
  | s => s
def xiVal (p : Program) (x : Str) (i : Nat) : XiW := some ("__init__", x ++ ".__init__", defArgs (iniOf (topS p i)), .stmts (defBody (iniOf (topS p i))), defScope (iniOf (topS p i)), mainGlobals, ["__class__"], builtinsNs)
def seven : List String := ["NoneType", "bool", "int", "str", "tuple", "list", "dict"]
def kitBs (K : PySem.W.Frag) (as : List Addr) (u : Value) (cs : List Nat) : Bool := (as.zipIdx.all fun p => decide (PySem.W.kitOne K (.ref p.1) u = some (decide (p.2 ∈ cs)))) && seven.all fun n => decide (PySem.W.kitOne K (.type n) u = some false)
def gix (f : Str) : Bool := f == "given" || f == "index"
end Mp
namespace Mp.K01
open Mp PySem
abbrev xc_GrantError : List Nat := ([0, 1, 2, 3, 4, 5, 6, 7, 8, 9, 10, 11, 12, 13, 14, 15, 16, 17, 18, 19, 20, 21, 22, 23, 24, 25, 26, 27, 28, 29] : List Nat) ++ ([30, 31, 32, 33, 34, 35, 36, 37, 38] : List Nat)
abbrev xc_InvalidNumber : List Nat := ([0] : List Nat)
abbrev xc_InvalidKind : List Nat := ([1] : List Nat)
abbrev xc_InvalidName : List Nat := ([2] : List Nat)
abbrev xc_InvalidPurse : List Nat := ([3] : List Nat)
abbrev xc_InvalidBill : List Nat := ([4] : List Nat)
abbrev xc_InvalidPayment : List Nat := ([5] : List Nat)
abbrev xc_InvalidOrder : List Nat := ([6] : List Nat)
abbrev xc_InvalidWord : List Nat := ([7] : List Nat)
abbrev xc_InvalidCommand : List Nat := ([8] : List Nat)
abbrev xc_NotABook : List Nat := ([9] : List Nat)
abbrev xc_NotAProgram : List Nat := ([10] : List Nat)
abbrev xc_NotALedger : List Nat := ([11] : List Nat)
abbrev xc_NotPlain : List Nat := ([12] : List Nat)
abbrev xc_UnknownPot : List Nat := ([13] : List Nat)
abbrev xc_UnknownHouse : List Nat := ([14] : List Nat)
abbrev xc_UnknownNote : List Nat := ([15] : List Nat)
abbrev xc_TooMany : List Nat := ([16] : List Nat)
abbrev xc_OverBounds : List Nat := ([17] : List Nat)
abbrev xc_InvalidPots : List Nat := ([18] : List Nat)
abbrev xc_InvalidMoves : List Nat := ([19] : List Nat)
abbrev xc_InvalidCosts : List Nat := ([20] : List Nat)
abbrev xc_InvalidForecast : List Nat := ([21] : List Nat)
abbrev xc_InvalidIndexes : List Nat := ([22] : List Nat)
abbrev xc_InvalidNames : List Nat := ([23] : List Nat)
abbrev xc_InvalidCells : List Nat := ([24] : List Nat)
abbrev xc_InvalidPrices : List Nat := ([25] : List Nat)
abbrev xc_InvalidOwners : List Nat := ([26] : List Nat)
abbrev xc_InvalidPeople : List Nat := ([27] : List Nat)
abbrev xc_InvalidWorks : List Nat := ([28] : List Nat)
abbrev xc_InvalidPlan : List Nat := ([29] : List Nat)
abbrev xc_InvalidRates : List Nat := ([30] : List Nat)
abbrev xc_InvalidQuotas : List Nat := ([31] : List Nat)
abbrev xc_InvalidInstalments : List Nat := ([32] : List Nat)
abbrev xc_InvalidRanks : List Nat := ([33] : List Nat)
abbrev xc_InvalidYears : List Nat := ([34] : List Nat)
abbrev xc_InvalidCarries : List Nat := ([35] : List Nat)
abbrev xc_InvalidText : List Nat := ([36] : List Nat)
abbrev xc_NoPaying : List Nat := ([37] : List Nat)
abbrev xc_Over : List Nat := ([38] : List Nat)
abbrev xc_ValueError : List Nat := ([0, 1, 2, 3, 4, 5, 6, 7, 8, 9, 10, 11, 12, 13, 14, 15, 16, 17, 18, 19, 20, 21, 22, 23, 24, 25, 26, 27, 28, 29] : List Nat) ++ ([30, 31, 32, 33, 34, 35, 36, 37, 38] : List Nat)
abbrev xc_LookupError : List Nat := ([] : List Nat)
abbrev xc_ArithmeticError : List Nat := ([] : List Nat)
abbrev xc_TypeError : List Nat := ([] : List Nat)
abbrev blt : List Str := (["ArithmeticError", "LookupError", "TypeError", "ValueError", "abs", "all", "bool", "divmod", "int", "isinstance", "len", "max", "min", "range", "str", "tuple"] : List Str)
abbrev defn : List (Str × Nat) := ([("law", 0), ("_law_right", 1), ("_law_bowl", 2), ("_law_of", 3), ("_law_with_given", 4), ("_law_with_index", 5), ("_law_kinds", 6), ("_law_same", 7), ("_law_draw", 8)] : List (Str × Nat))
abbrev dtop : List (Str × Nat) := ([("law", 50), ("_law_right", 49), ("_law_bowl", 42), ("_law_of", 44), ("_law_with_given", 46), ("_law_with_index", 47), ("_law_kinds", 48), ("_law_same", 45), ("_law_draw", 43)] : List (Str × Nat))
abbrev exm : List (Str × (Nat × Nat)) := ([("InvalidNumber", (0, 0)), ("InvalidKind", (1, 0)), ("InvalidName", (2, 0)), ("InvalidPurse", (3, 0)), ("InvalidBill", (4, 0)), ("InvalidPayment", (5, 0)), ("InvalidOrder", (6, 0)), ("InvalidWord", (7, 0)), ("InvalidCommand", (8, 0)), ("NotABook", (9, 0)), ("NotAProgram", (10, 0)), ("NotALedger", (11, 0)), ("NotPlain", (12, 0)), ("UnknownPot", (13, 0)), ("UnknownHouse", (14, 0)), ("UnknownNote", (15, 0)), ("TooMany", (16, 0)), ("OverBounds", (17, 0)), ("InvalidPots", (18, 1)), ("InvalidMoves", (19, 1)), ("InvalidCosts", (20, 1)), ("InvalidForecast", (21, 1)), ("InvalidIndexes", (22, 1)), ("InvalidNames", (23, 1)), ("InvalidCells", (24, 1)), ("InvalidPrices", (25, 1)), ("InvalidOwners", (26, 1)), ("InvalidPeople", (27, 1)), ("InvalidWorks", (28, 1)), ("InvalidPlan", (29, 1))] : List (Str × (Nat × Nat))) ++ ([("InvalidRates", (30, 1)), ("InvalidQuotas", (31, 1)), ("InvalidInstalments", (32, 1)), ("InvalidRanks", (33, 1)), ("InvalidYears", (34, 1)), ("InvalidCarries", (35, 1)), ("InvalidText", (36, 1))] : List (Str × (Nat × Nat)))
abbrev exm0 : List (Str × Nat) := ([("NoPaying", 37), ("Over", 38)] : List (Str × Nat))
abbrev xn : List Str := (["InvalidNumber", "InvalidKind", "InvalidName", "InvalidPurse", "InvalidBill", "InvalidPayment", "InvalidOrder", "InvalidWord", "InvalidCommand", "NotABook", "NotAProgram", "NotALedger", "NotPlain", "UnknownPot", "UnknownHouse", "UnknownNote", "TooMany", "OverBounds", "InvalidPots", "InvalidMoves", "InvalidCosts", "InvalidForecast", "InvalidIndexes", "InvalidNames", "InvalidCells", "InvalidPrices", "InvalidOwners", "InvalidPeople", "InvalidWorks", "InvalidPlan"] : List Str) ++ (["InvalidRates", "InvalidQuotas", "InvalidInstalments", "InvalidRanks", "InvalidYears", "InvalidCarries", "InvalidText", "NoPaying", "Over"] : List Str)
abbrev xall : List (Str × (Nat × Nat × Nat × Str)) := ([("InvalidNumber", (0, 0, 2, "given")), ("InvalidKind", (1, 0, 3, "given")), ("InvalidName", (2, 0, 4, "given")), ("InvalidPurse", (3, 0, 5, "given")), ("InvalidBill", (4, 0, 6, "given")), ("InvalidPayment", (5, 0, 7, "given")), ("InvalidOrder", (6, 0, 8, "given")), ("InvalidWord", (7, 0, 9, "given")), ("InvalidCommand", (8, 0, 10, "given")), ("NotABook", (9, 0, 11, "given")), ("NotAProgram", (10, 0, 12, "given")), ("NotALedger", (11, 0, 13, "given")), ("NotPlain", (12, 0, 14, "given")), ("UnknownPot", (13, 0, 15, "given")), ("UnknownHouse", (14, 0, 16, "given")), ("UnknownNote", (15, 0, 17, "given")), ("TooMany", (16, 0, 18, "given")), ("OverBounds", (17, 0, 19, "given")), ("InvalidPots", (18, 1, 20, "index")), ("InvalidMoves", (19, 1, 21, "index")), ("InvalidCosts", (20, 1, 22, "index")), ("InvalidForecast", (21, 1, 23, "index")), ("InvalidIndexes", (22, 1, 24, "index")), ("InvalidNames", (23, 1, 25, "index")), ("InvalidCells", (24, 1, 26, "index")), ("InvalidPrices", (25, 1, 27, "index")), ("InvalidOwners", (26, 1, 28, "index")), ("InvalidPeople", (27, 1, 29, "index")), ("InvalidWorks", (28, 1, 30, "index")), ("InvalidPlan", (29, 1, 31, "index"))] : List (Str × (Nat × Nat × Nat × Str))) ++ ([("InvalidRates", (30, 1, 32, "index")), ("InvalidQuotas", (31, 1, 33, "index")), ("InvalidInstalments", (32, 1, 34, "index")), ("InvalidRanks", (33, 1, 35, "index")), ("InvalidYears", (34, 1, 36, "index")), ("InvalidCarries", (35, 1, 37, "index")), ("InvalidText", (36, 1, 38, "index"))] : List (Str × (Nat × Nat × Nat × Str)))
abbrev xty : List (Str × (Bool × List Nat)) := ([("GrantError", (false, xc_GrantError)), ("InvalidNumber", (false, xc_InvalidNumber)), ("InvalidKind", (false, xc_InvalidKind)), ("InvalidName", (false, xc_InvalidName)), ("InvalidPurse", (false, xc_InvalidPurse)), ("InvalidBill", (false, xc_InvalidBill)), ("InvalidPayment", (false, xc_InvalidPayment)), ("InvalidOrder", (false, xc_InvalidOrder)), ("InvalidWord", (false, xc_InvalidWord)), ("InvalidCommand", (false, xc_InvalidCommand)), ("NotABook", (false, xc_NotABook)), ("NotAProgram", (false, xc_NotAProgram)), ("NotALedger", (false, xc_NotALedger)), ("NotPlain", (false, xc_NotPlain)), ("UnknownPot", (false, xc_UnknownPot)), ("UnknownHouse", (false, xc_UnknownHouse)), ("UnknownNote", (false, xc_UnknownNote)), ("TooMany", (false, xc_TooMany)), ("OverBounds", (false, xc_OverBounds)), ("InvalidPots", (false, xc_InvalidPots)), ("InvalidMoves", (false, xc_InvalidMoves)), ("InvalidCosts", (false, xc_InvalidCosts)), ("InvalidForecast", (false, xc_InvalidForecast)), ("InvalidIndexes", (false, xc_InvalidIndexes)), ("InvalidNames", (false, xc_InvalidNames)), ("InvalidCells", (false, xc_InvalidCells)), ("InvalidPrices", (false, xc_InvalidPrices)), ("InvalidOwners", (false, xc_InvalidOwners)), ("InvalidPeople", (false, xc_InvalidPeople)), ("InvalidWorks", (false, xc_InvalidWorks))] : List (Str × (Bool × List Nat))) ++ ([("InvalidPlan", (false, xc_InvalidPlan)), ("InvalidRates", (false, xc_InvalidRates)), ("InvalidQuotas", (false, xc_InvalidQuotas)), ("InvalidInstalments", (false, xc_InvalidInstalments)), ("InvalidRanks", (false, xc_InvalidRanks)), ("InvalidYears", (false, xc_InvalidYears)), ("InvalidCarries", (false, xc_InvalidCarries)), ("InvalidText", (false, xc_InvalidText)), ("NoPaying", (false, xc_NoPaying)), ("Over", (false, xc_Over)), ("ValueError", (true, xc_ValueError)), ("LookupError", (true, xc_LookupError)), ("ArithmeticError", (true, xc_ArithmeticError)), ("TypeError", (true, xc_TypeError))] : List (Str × (Bool × List Nat)))
abbrev fld : List (Nat × Str) := ([(0, "given"), (1, "index")] : List (Nat × Str))
abbrev topN : List Str := (["GrantError", "InvalidNumber", "InvalidKind", "InvalidName", "InvalidPurse", "InvalidBill", "InvalidPayment", "InvalidOrder", "InvalidWord", "InvalidCommand", "NotABook", "NotAProgram", "NotALedger", "NotPlain", "UnknownPot", "UnknownHouse", "UnknownNote", "TooMany", "OverBounds", "InvalidPots", "InvalidMoves", "InvalidCosts", "InvalidForecast", "InvalidIndexes", "InvalidNames", "InvalidCells", "InvalidPrices", "InvalidOwners", "InvalidPeople", "InvalidWorks"] : List Str) ++ (["InvalidPlan", "InvalidRates", "InvalidQuotas", "InvalidInstalments", "InvalidRanks", "InvalidYears", "InvalidCarries", "InvalidText", "NoPaying", "Over", "_law_bowl", "_law_draw", "_law_of", "_law_same", "_law_with_given", "_law_with_index", "_law_kinds", "_law_right"] : List Str)
abbrev btys : List (Str × String) := ([("ValueError", "ValueError"), ("LookupError", "LookupError"), ("ArithmeticError", "ArithmeticError"), ("TypeError", "TypeError")] : List (Str × String))
abbrev xpar : List Str := (["GrantError"] : List Str)
end Mp.K01
set_option maxHeartbeats 0
namespace Mp.K01
open PySem PySem.Spec PyProof.Rows L2 He Mp
abbrev pr : Program := PySem.Challenge.pw_grantlines_k01_errors_each_of_its_own
def fas : List Fa := defn.map (fun p => Fa.glo p.1) ++ (blt.map Fa.free ++ ([Fa.free "super"] ++ (xn.map Fa.glo ++ xpar.map Fa.glo)))
def chk (K : PySem.W.Frag) : Bool := fas.all (·.ok K) && (dtop.all (fun p => (defAt pr p.1 p.2).ok K) && (xn.all (fun x => HandSHeadRun.frNat (He.ga K x) fun C => xclB K C) && (xall.all (fun p => HandSHeadRun.frNat (He.ga K p.1) fun C => HandSHeadRun.frNat (He.ma K C "__init__") fun f => xiB K pr.main.file C f && xi2B K C f p.2.2.2.2) &&
  (exm0.all (fun p => PySem.W.excIn K (He.ga K p.1) veBase "ValueError.__new__") && (frL (xn.map (He.ga K)) fun as => xty.all (fun p => kitBs K as (if p.2.1 then (match btys.lookup p.1 with | some n => .type n | none => .none) else .ref (He.ga K p.1)) p.2.2))))))
abbrev fnL : List (Str × Option Str) := dtop.map fun p => (p.1, none)
abbrev xsL : List Str := xall.map (·.1)
def vf : List FnW := dtop.map fun p => (defAt pr p.1 p.2).val
def vx : List XiW := xall.map fun p => xiVal pr p.1 p.2.2.2.1
abbrev R0 : PySem.W.OpenRow := PySem.W.OpenLaw.row PySem.Challenge.rw_grantlines_k01_errors_each_of_its_own
abbrev hk : PySem.W.Hook := hookM chk fnL xsL vf vx
def ob (s : PySem.W.SharedT) : AlM := frK (frG (HandSHeadRun.getT s) (asM (HandSHeadRun.getT s))) fun K => obsM chk fnL xsL K
theorem ob_eq (s : PySem.W.SharedT) : ob s = hk.obs s.abs := (frK_eq _ _).trans (obsM_eq (HandSHeadRun.getT_eq s))
theorem run (w : World) : HandSHeadRun.RunEq R0 (PySem.W.view R0.prog [50]) hk ob 20000 topN w := by
  intro os
  kernel_rfl
end Mp.K01
namespace Mp
open PySem (Str PyData)
inductive PV where
  | non | bl (b : Bool) | int (i : Int) | str (x : Str)
  | tup (xs : List PV) | lst (xs : List PV)
  | loc (n : Nat)
  | glo (x : Nat)
  | scr (ns : List Int)
  | clo (k : Nat) (caps : List PV)
  | exn (c f : Nat) (vs : List PV)
  deriving Inhabited
mutual
def PV.dec : (a b : PV) → Decidable (a = b)
  | .non, .non => isTrue rfl
  | .bl a, .bl b => if h : a = b then isTrue (by rw [h]) else isFalse (fun e => h (PV.bl.inj e))
  | .int a, .int b => if h : a = b then isTrue (by rw [h]) else isFalse (fun e => h (PV.int.inj e))
  | .str a, .str b => if h : a = b then isTrue (by rw [h]) else isFalse (fun e => h (PV.str.inj e))
  | .tup a, .tup b => match PV.decs a b with
    | isTrue h => isTrue (by rw [h])
    | isFalse h => isFalse (fun e => h (PV.tup.inj e))
  | .lst a, .lst b => match PV.decs a b with
    | isTrue h => isTrue (by rw [h])
    | isFalse h => isFalse (fun e => h (PV.lst.inj e))
  | .loc a, .loc b => if h : a = b then isTrue (by rw [h]) else isFalse (fun e => h (PV.loc.inj e))
  | .glo a, .glo b => if h : a = b then isTrue (by rw [h]) else isFalse (fun e => h (PV.glo.inj e))
  | .scr a, .scr b => if h : a = b then isTrue (by rw [h]) else isFalse (fun e => h (PV.scr.inj e))
  | .exn k i a, .exn j l b => if h : k = j ∧ i = l then (match PV.decs a b with
    | isTrue h2 => isTrue (by rw [h.1, h.2, h2])
    | isFalse h2 => isFalse (fun e => h2 (PV.exn.inj e).2.2)) else isFalse (fun e => h ⟨(PV.exn.inj e).1, (PV.exn.inj e).2.1⟩)
  | .clo k a, .clo j b => if h : k = j then (match PV.decs a b with
    | isTrue h2 => isTrue (by rw [h, h2])
    | isFalse h2 => isFalse (fun e => h2 (PV.clo.inj e).2)) else isFalse (fun e => h (PV.clo.inj e).1)
  | .non, .bl _ | .non, .int _ | .non, .str _ | .non, .tup _ | .non, .lst _ | .non, .loc _ | .non, .glo _ | .non, .scr _ | .non, .clo _ _ | .non, .exn _ _ _ => isFalse (fun e => nomatch e)
  | .bl _, .non | .bl _, .int _ | .bl _, .str _ | .bl _, .tup _ | .bl _, .lst _ | .bl _, .loc _ | .bl _, .glo _ | .bl _, .scr _ | .bl _, .clo _ _ | .bl _, .exn _ _ _ => isFalse (fun e => nomatch e)
  | .int _, .non | .int _, .bl _ | .int _, .str _ | .int _, .tup _ | .int _, .lst _ | .int _, .loc _ | .int _, .glo _ | .int _, .scr _ | .int _, .clo _ _ | .int _, .exn _ _ _ => isFalse (fun e => nomatch e)
  | .str _, .non | .str _, .bl _ | .str _, .int _ | .str _, .tup _ | .str _, .lst _ | .str _, .loc _ | .str _, .glo _ | .str _, .scr _ | .str _, .clo _ _ | .str _, .exn _ _ _ => isFalse (fun e => nomatch e)
  | .tup _, .non | .tup _, .bl _ | .tup _, .int _ | .tup _, .str _ | .tup _, .lst _ | .tup _, .loc _ | .tup _, .glo _ | .tup _, .scr _ | .tup _, .clo _ _ | .tup _, .exn _ _ _ => isFalse (fun e => nomatch e)
  | .lst _, .non | .lst _, .bl _ | .lst _, .int _ | .lst _, .str _ | .lst _, .tup _ | .lst _, .loc _ | .lst _, .glo _ | .lst _, .scr _ | .lst _, .clo _ _ | .lst _, .exn _ _ _ => isFalse (fun e => nomatch e)
  | .loc _, .non | .loc _, .bl _ | .loc _, .int _ | .loc _, .str _ | .loc _, .tup _ | .loc _, .lst _ | .loc _, .glo _ | .loc _, .scr _ | .loc _, .clo _ _ | .loc _, .exn _ _ _ => isFalse (fun e => nomatch e)
  | .glo _, .non | .glo _, .bl _ | .glo _, .int _ | .glo _, .str _ | .glo _, .tup _ | .glo _, .lst _ | .glo _, .loc _ | .glo _, .scr _ | .glo _, .clo _ _ | .glo _, .exn _ _ _ => isFalse (fun e => nomatch e)
  | .scr _, .non | .scr _, .bl _ | .scr _, .int _ | .scr _, .str _ | .scr _, .tup _ | .scr _, .lst _ | .scr _, .loc _ | .scr _, .glo _ | .scr _, .clo _ _ | .scr _, .exn _ _ _ => isFalse (fun e => nomatch e)
  | .clo _ _, .non | .clo _ _, .bl _ | .clo _ _, .int _ | .clo _ _, .str _ | .clo _ _, .tup _ | .clo _ _, .lst _ | .clo _ _, .loc _ | .clo _ _, .glo _ | .clo _ _, .scr _ | .clo _ _, .exn _ _ _ => isFalse (fun e => nomatch e)
  | .exn _ _ _, .non | .exn _ _ _, .bl _ | .exn _ _ _, .int _ | .exn _ _ _, .str _ | .exn _ _ _, .tup _ | .exn _ _ _, .lst _ | .exn _ _ _, .loc _ | .exn _ _ _, .glo _ | .exn _ _ _, .scr _ | .exn _ _ _, .clo _ _ => isFalse (fun e => nomatch e)
def PV.decs : (a b : List PV) → Decidable (a = b)
  | [], [] => isTrue rfl
  | [], _ :: _ => isFalse (fun e => nomatch e)
  | _ :: _, [] => isFalse (fun e => nomatch e)
  | x :: xs, y :: ys => match PV.dec x y with
    | isTrue h => (match PV.decs xs ys with
      | isTrue h2 => isTrue (by rw [h, h2])
      | isFalse h2 => isFalse (fun e => h2 (List.cons.inj e).2))
    | isFalse h => isFalse (fun e => h (List.cons.inj e).1)
end
instance : DecidableEq PV := PV.dec
inductive MO where
  | lst (xs : List PV)
  | dct (kvs : List (PV × PV))
  | ins (c : Nat) (fs : List (Nat × PV))
  deriving Inhabited, DecidableEq
abbrev Sto := List MO
abbrev Env := List (Option PV)
mutual
def PV.toD : PV → Option PyData
  | .non => some .none
  | .bl b => some (.bool b)
  | .int i => some (.int i)
  | .str x => some (.str x)
  | .tup xs => (PV.toDs xs).map .tuple
  | .lst xs => (PV.toDs xs).map .list
  | _ => none
def PV.toDs : List PV → Option (List PyData)
  | [] => some []
  | x :: xs => match PV.toD x, PV.toDs xs with
    | some d, some ds => some (d :: ds)
    | _, _ => none
end
inductive Bop | add | sub | mul | fdiv | mod | pow
  deriving DecidableEq
inductive Cop | eq | ne | lt | le | gt | ge | is | isnot | in_ | notin
  deriving DecidableEq
inductive Bf | len | abs | int | divmod | min2 | max2 | sum | all | any | minL | maxL | sorted | list | tuple | str
  deriving DecidableEq
inductive Ty | int | bool | str | tup | lst | dct | own (c : Nat) | xc (cs : List Nat)
  deriving DecidableEq
inductive Bm | append | pop | popAt | extend | split | get1 | get2 | setdefault | items | values
  deriving DecidableEq
mutual
inductive E where
  | var (i : Nat)
  | cst (c : PV)
  | glo (x : Nat)
  | bin (o : Bop) (m : Bool) (a b : E)
  | neg (a : E)
  | cmp (o : Cop) (a b : E)
  | chn (o o' : Cop) (a b c : E)
  | and (a b : E) | or (a b : E) | not (a : E)
  | ite (c : T) (a b : E)
  | tup (es : Es)
  | lst (m : Bool) (es : Es)
  | dct (ks vs : Es)
  | ix (a i : E)
  | dget (a i : E)
  | eqO (neg : Bool) (a b : E)
  | slc (m : Bool) (a : E) (lo hi : OE)
  | atr (a : E) (f : Nat)
  | call (k : Nat) (es : As) (dv : List PV)
  | callK (k : Nat) (es : Es) (kw : Es) (ord : List Nat)
  | mk (c : Nat) (es : Es)
  | mkK (c : Nat) (es : Es) (kw : Es) (ord : List Nat)
  | exm (c f : Nat) (es : Es)
  | bf (f : Bf) (m : Bool) (es : Es)
  | isi (a : E) (t : Ty)
  | callV (i : Nat) (es : Es)
  | meth (o : E) (f : Nat) (es : Es) (dv : List PV)
  | bm (f : Bm) (m : Bool) (o : E) (es : Es)
  | callI (k : Nat) (es : Es) (e : E)
  | lc (m : Bool) (own : List Nat) (g : Tg) (it : It) (c : OT) (e : E)
inductive Es where
  | nil
  | cons (a : E) (r : Es)
inductive As where
  | nil
  | cons (a : E) (r : As)
  | lam (k : Nat) (r : As)
  | fvar (i : Nat) (r : As)
inductive T where
  | of (a : E)
  | cmp (o : Cop) (a b : E)
  | chn (o o' : Cop) (a b c : E)
  | and (a b : T) | or (a b : T) | not (a : T)
inductive OT where
  | non
  | som (c : T)
inductive OE where
  | non
  | som (a : E)
inductive Tg where
  | name (i : Nat)
  | tup (gs : Tgs)
  | sub (o i : E)
  | fld (o : E) (f : Nat)
inductive Tgs where
  | nil
  | cons (g : Tg) (r : Tgs)
inductive It where
  | of (a : E)
  | rng (a : E)
  | rng2 (a b : E)
  | enu (a : E)
  | zip (a b : E)
  | items (a : E)
end
mutual
inductive S where
  | expr (e : E)
  | asg (g : Tg) (e : E)
  | ret (e : E)
  | retN
  | cond (c : T) (a b : Ss)
  | for_ (g : Tg) (it : It) (b : Ss)
  | whl (c : T) (b : Ss)
  | pass | brk | cont
  | raise (c : Nat) (es : Es)
  | never
inductive Ss where
  | nil
  | cons (a : S) (r : Ss)
end
structure Def where
  np : Nat
  nl : Nat
  body : Ss
structure Lam where
  np : Nat
  caps : List Nat
  nl : Nat
  body : E
structure Prog where
  defs : List (Nat × Def)
  lams : List (Nat × Lam)
  globs : List (Nat × PV)
  cts : List PV
  cls : List (Nat × Nat)
  flds : List (Nat × List Nat)
  mets : List ((Nat × Nat) × Nat)
  props : List ((Nat × Nat) × Nat)
  eqs : List (Nat × Nat)
inductive Out (α : Type) where
  | ok (a : α) (s : Sto)
  | exc (c : Nat) (v : List PV) (s : Sto)
  | bad
abbrev M (α : Type) := Sto → Out α
def M.ret {α : Type} (a : α) : M α := fun s => .ok a s
def M.bad {α : Type} : M α := fun _ => .bad
def M.bnd {α β : Type} (m : M α) (f : α → M β) : M β := fun s => match m s with
  | .ok a s' => f a s'
  | .exc c v s' => .exc c v s'
  | .bad => .bad
def M.opt {α : Type} (o : Option α) : M α := match o with
  | some a => M.ret a
  | none => M.bad
def M.grd {α : Type} (b : Bool) (m : M α) : M α := if b then m else M.bad
def M.nox {α : Type} (m : M α) : M α := fun s => match m s with
  | .exc _ _ _ => .bad
  | o => o
abbrev SZ : Nat := 16777216
def newL (m : Bool) (xs : List PV) : M PV := fun s => if xs.length ≤ SZ then (if m then .ok (.loc s.length) (s ++ [.lst xs]) else .ok (.lst xs) s) else .bad
def newT (xs : List PV) : M PV := M.grd (decide (xs.length ≤ SZ)) (M.ret (.tup xs))
def asL (x : PV) : M (List PV) := fun s => match x with
  | .lst xs => .ok xs s
  | .loc n => (match s[n]? with
    | some (.lst xs) => .ok xs s
    | _ => .bad)
  | _ => .bad
def asS (x : PV) : M (List PV) := fun s => match x with
  | .tup xs => .ok xs s
  | .scr ns => .ok (ns.map .int) s
  | .lst xs => .ok xs s
  | .loc n => (match s[n]? with
    | some (.lst xs) => .ok xs s
    | _ => .bad)
  | _ => .bad
def asL2 (x : PV) : M (List PV) := match x with
  | .scr ns => M.ret (ns.map .int)
  | x => asL x
def asD (x : PV) : M PyData := fun s => match x with
  | .loc n => (match s[n]? with
    | some (.lst xs) => (match PV.toDs xs with
      | some ds => .ok (.list ds) s
      | none => .bad)
    | _ => .bad)
  | _ => (match x.toD with
    | some d => .ok d s
    | none => .bad)
def truth (x : PV) : M Bool := fun s => match x with
  | .non => .ok false s
  | .bl b => .ok b s
  | .int i => .ok (i != 0) s
  | .str z => .ok ((z.length : Int) != 0) s
  | .tup xs => .ok (!xs.isEmpty) s
  | .lst xs => .ok (!xs.isEmpty) s
  | .loc n => (match s[n]? with
    | some (.lst xs) => .ok (!xs.isEmpty) s
    | _ => .bad)
  | _ => .bad
def in64 (i : Int) : Bool := decide (-(2 ^ 64) < i) && decide (i < 2 ^ 64)
def in63 (i : Int) : Bool := decide (-(2 ^ 63) ≤ i) && decide (i < 2 ^ 63)
def binV (o : Bop) (m : Bool) (x y : PV) : M PV := match o, x, y with
  | .add, .int i, .int j => M.ret (.int (i + j))
  | .sub, .int i, .int j => M.ret (.int (i - j))
  | .mul, .int i, .int j => M.grd (in64 i || in64 j) (M.ret (.int (i * j)))
  | .fdiv, .int i, .int j => M.grd (decide (j ≠ 0) && decide (j.natAbs < 1073741824)) (M.ret (.int (i.fdiv j)))
  | .mod, .int i, .int j => M.grd (decide (j ≠ 0)) (M.ret (.int (i.fmod j)))
  | .pow, .int i, .int j => M.grd (decide (0 ≤ j) && decide (j ≤ 1000000) && in64 i) (M.ret (.int (i ^ j.toNat)))
  | .add, .str a, .str b => M.grd (decide (a.length + b.length ≤ SZ)) (M.ret (.str (a ++ b)))
  | .add, .tup xs, .tup ys => newT (xs ++ ys)
  | .add, a, b => M.bnd (asL a) fun xs => M.bnd (asL b) fun ys => newL m (xs ++ ys)
  | .mul, a, .int k => M.bnd (asL a) fun xs => M.grd (in63 k && decide (xs.length * k.toNat ≤ SZ)) (newL m (List.replicate k.toNat xs).flatten)
  | _, _, _ => M.bad
def lt2 (d e : PyData) : Option Bool := if PySem.W.alike d e && decide (min d.depth e.depth ≤ 60) then (match d with
  | .none => none
  | _ => some (PySem.W.dataLt d e)) else none
def isK : PV → Bool
  | .int _ => true
  | .str _ => true
  | _ => false
def isKT : PV → Bool
  | .tup xs => xs.all isK
  | _ => false
def kOk (cts : List PV) (kvs : List (PV × PV)) (k : PV) : Bool := (isK k && kvs.all fun p => isK p.1) || (isKT k && !cts.contains k && kvs.all fun p => isKT p.1)
def kfind (kvs : List (PV × PV)) (k : PV) : Option PV := (kvs.find? fun p => decide (p.1 = k)).map (·.2)
def kput (kvs : List (PV × PV)) (k v : PV) : List (PV × PV) := if kvs.any (fun p => decide (p.1 = k)) then kvs.map (fun p => if p.1 = k then (p.1, v) else p) else kvs ++ [(k, v)]
def asDct (x : PV) : M (List (PV × PV)) := fun s => match x with
  | .loc n => (match s[n]? with
    | some (.dct kvs) => .ok kvs s
    | _ => .bad)
  | _ => .bad
def chars (z : Str) : List PV := z.cps.toList.map fun c => .str ⟨#[c]⟩
def inD (x y : PV) : M Bool := M.bnd (asD y) fun c => M.bnd (asD x) fun d => M.grd (decide (d.depth ≤ 60)) (match c with
  | .list es => M.ret (es.any fun e => PyData.eqv e d)
  | .tuple es => M.ret (es.any fun e => PyData.eqv e d)
  | _ => M.bad)
def inT (z : Str) : PV → M Bool
  | .str ⟨⟨[c]⟩⟩ => M.ret (decide (c ∈ z.cps.toList))
  | _ => M.bad
def inV (cts : List PV) (x y : PV) : M Bool := match y with
  | .str z => inT z x
  | .loc n => fun s => (match s[n]? with
    | some (.dct kvs) => M.grd (kOk cts kvs x) (M.ret (kfind kvs x).isSome) s
    | _ => inD x (.loc n) s)
  | y => inD x y
def cmpI (o : Cop) (i j : Int) : Option Bool := match o with
  | .lt => some (decide (i < j))
  | .le => some (decide (i ≤ j))
  | .gt => some (decide (j < i))
  | .ge => some (decide (j ≤ i))
  | _ => none
def isNon : PV → Bool
  | .non => true
  | _ => false
def eqV (x y : PV) : M Bool := M.bnd (asD x) fun d => M.bnd (asD y) fun e => M.grd (decide (min d.depth e.depth ≤ 60)) (M.ret (PyData.eqv d e))
def isD0 (s : Sto) : PV → Bool
  | .loc n => (match s[n]? with
    | some (.dct []) => true
    | _ => false)
  | _ => false
def cmpV (cts : List PV) (o : Cop) (x y : PV) : M Bool := match o with
  | .eq => fun s => if isD0 s x && isD0 s y then .ok true s else eqV x y s
  | .ne => M.bnd (asD x) fun d => M.bnd (asD y) fun e => M.grd (decide (min d.depth e.depth ≤ 60)) (M.ret (!PyData.eqv d e))
  | .is => (match y with
    | .non => M.ret (isNon x)
    | _ => M.bad)
  | .isnot => (match y with
    | .non => M.ret (!isNon x)
    | _ => M.bad)
  | .in_ => inV cts x y
  | .notin => M.bnd (inV cts x y) fun b => M.ret (!b)
  | o => (match x, y with
    | .int i, .int j => M.opt (cmpI o i j)
    | _, _ => (match o with
      | .lt => M.bnd (asD x) fun d => M.bnd (asD y) fun e => M.opt (lt2 d e)
      | _ => M.bad))
def ownAns (t : Ty) (c : Nat) : Bool := match t with
  | .own d => decide (c = d)
  | _ => false
def isB (cl : List (Nat × Nat)) (x : PV) (t : Ty) : M Bool := fun s => match x with
  | .non => .ok false s
  | .bl _ => .ok (match t with
    | .bool => true
    | .int => true
    | _ => false) s
  | .int _ => .ok (match t with
    | .int => true
    | _ => false) s
  | .str _ => .ok (match t with
    | .str => true
    | _ => false) s
  | .tup _ => .ok (match t with
    | .tup => true
    | _ => false) s
  | .lst _ => .ok (match t with
    | .lst => true
    | _ => false) s
  | .loc n => (match s[n]? with
    | some (.lst _) => .ok (match t with
      | .lst => true
      | _ => false) s
    | some (.dct _) => .ok (match t with
      | .dct => true
      | _ => false) s
    | some (.ins c _) => M.grd (cl.lookup c).isSome (M.ret (ownAns t c)) s
    | none => .bad)
  | .exn c _ _ => (match t with
    | .xc cs => .ok (decide (c ∈ cs)) s
    | _ => .bad)
  | _ => .bad
def ixN (n : Nat) (i : Int) : Option Nat := if 0 ≤ i then (if i < n then some i.toNat else none) else if -(n : Int) ≤ i then some (i + n).toNat else none
def atI {α : Type} (xs : List α) (i : Int) : Option α := (ixN xs.length i).bind fun j => xs[j]?
def ixV (x i : PV) : M PV := match i with
  | .int k => fun s => (match x with
    | .str z => M.opt ((atI z.cps.toList k).map fun c => PV.str ⟨#[c]⟩) s
    | _ => M.bnd (asS x) (fun xs => M.opt (atI xs k)) s)
  | _ => M.bad
def dgetV (cts : List PV) (x i : PV) : M PV := M.bnd (asDct x) fun kvs => M.grd (kOk cts kvs i) (M.opt (kfind kvs i))
def sIx (n d : Nat) : Option Int → Nat
  | none => d
  | some i => if i < 0 then (i + (n : Int)).toNat else min i.toNat n
def cut {α : Type} (xs : List α) (lo hi : Option Int) : List α := (xs.drop (sIx xs.length 0 lo)).take (sIx xs.length xs.length hi - sIx xs.length 0 lo)
def slcV (m : Bool) (x : PV) (lo hi : Option Int) : M PV := match x with
  | .str z => M.ret (.str ⟨(cut z.cps.toList lo hi).toArray⟩)
  | .tup xs => M.ret (.tup (cut xs lo hi))
  | x => M.bnd (asL2 x) fun xs => newL m (cut xs lo hi)
def asInts : List PV → Option (List Int)
  | [] => some []
  | .int i :: r => (asInts r).map (i :: ·)
  | _ :: _ => none
def asBls : List PV → Option (List Bool)
  | [] => some []
  | .bl i :: r => (asBls r).map (i :: ·)
  | _ :: _ => none
def minI : List Int → Option Int
  | [] => none
  | i :: r => some (r.foldl (fun a b => if b < a then b else a) i)
def maxI : List Int → Option Int
  | [] => none
  | i :: r => some (r.foldl (fun a b => if b > a then b else a) i)
def sortable (ds : List PyData) : Bool := (ds.all fun d => ds.all fun e => PySem.W.alike d e) && (ds.all fun d => decide (d.depth ≤ 60)) &&
  ((ds.all fun d => match d with
    | .tuple (_ :: _) => true
    | _ => false) || (ds.all fun d => match d with
    | .none => false
    | .tuple _ => false
    | _ => true))
def sortPD (l : List (PV × PyData)) : List (PV × PyData) := l.mergeSort (PySem.W.dataLe false (·.2))
def divmodV (i j : Int) : M PV := M.grd (decide (0 < j) && decide (j < 2 ^ 30)) (M.ret (.tup [.int (i.fdiv j), .int (i.fmod j)]))
def lenV (x : PV) : M PV := match x with
  | .str z => M.ret (.int z.length)
  | .loc n => fun s => (match s[n]? with
    | some (.dct kvs) => .ok (.int kvs.length) s
    | _ => M.bnd (asS (.loc n)) (fun ys => M.ret (.int ys.length)) s)
  | x => M.bnd (asS x) (fun ys => M.ret (.int ys.length))
def listV (m : Bool) (x : PV) : M PV := match x with
  | .loc n => fun s => (match s[n]? with
    | some (.dct kvs) => newL m (kvs.map (·.1)) s
    | _ => M.bnd (asS (.loc n)) (newL m) s)
  | x => M.bnd (asS x) (newL m)
def sortedV (m : Bool) (x : PV) : M PV := M.bnd (asL x) fun ys => M.bnd (M.opt (PV.toDs ys)) fun ds => M.grd (sortable ds) (newL m ((sortPD (ys.zip ds)).map (·.1)))
def intV : PV → M PV
  | .int i => M.ret (.int i)
  | .bl b => M.ret (.int (if b then 1 else 0))
  | _ => M.bad
def absV : PV → M PV
  | .int i => M.ret (.int (if i < 0 then -i else i))
  | _ => M.bad
def two (f : Int → Int → M PV) : PV → PV → M PV
  | .int i, .int j => f i j
  | _, _ => M.bad
def bfV (f : Bf) (m : Bool) (xs : List PV) : M PV := match f, xs with
  | .len, [x] => lenV x
  | .abs, [x] => absV x
  | .int, [x] => intV x
  | .divmod, [x, y] => two divmodV x y
  | .min2, [x, y] => two (fun i j => M.ret (.int (if j < i then j else i))) x y
  | .max2, [x, y] => two (fun i j => M.ret (.int (if j > i then j else i))) x y
  | .sum, [x] => M.bnd (asL2 x) fun ys => M.bnd (M.opt (asInts ys)) fun ns => M.ret (.int ns.sum)
  | .all, [x] => M.bnd (asL2 x) fun ys => M.bnd (M.opt (asBls ys)) fun bs => M.ret (.bl (bs.all id))
  | .any, [x] => M.bnd (asL2 x) fun ys => M.bnd (M.opt (asBls ys)) fun bs => M.ret (.bl (bs.any id))
  | .minL, [x] => M.bnd (asL2 x) fun ys => M.bnd (M.opt ((asInts ys).bind minI)) fun i => M.ret (.int i)
  | .maxL, [x] => M.bnd (asL2 x) fun ys => M.bnd (M.opt ((asInts ys).bind maxI)) fun i => M.ret (.int i)
  | .sorted, [x] => sortedV m x
  | .list, [x] => listV m x
  | .tuple, [x] => M.bnd (asS x) fun ys => M.ret (.tup ys)
  | _, _ => M.bad
def okS (x : Str) : Bool := decide (x.length ≤ SZ) && x.cps.all (· < 0x110000)
def idxS (z : Str) : List PV → Option Nat
  | [] => none
  | .str y :: r => if y = z then some 0 else (idxS z r).map (· + 1)
  | _ :: _ => none
def allS : List PV → Bool
  | [] => true
  | .str _ :: r => allS r
  | _ :: _ => false
def idxV (o x : PV) : M PV := match o, x with
  | .tup ys, .str z => M.grd (allS ys) (M.bnd (M.opt (idxS z ys)) fun k => M.ret (.int k))
  | _, _ => M.bad
def bmT (f : Bm) (x : PV) : M Unit := fun s => match f, x with
  | .split, .str _ => .ok () s
  | .append, .loc n => (match s[n]? with
    | some (.lst _) => .ok () s
    | _ => .bad)
  | .extend, .loc n => (match s[n]? with
    | some (.lst _) => .ok () s
    | _ => .bad)
  | .pop, .loc n => (match s[n]? with
    | some (.lst _) => .ok () s
    | _ => .bad)
  | .popAt, .loc n => (match s[n]? with
    | some (.lst _) => .ok () s
    | _ => .bad)
  | .get1, .loc n => (match s[n]? with
    | some (.dct _) => .ok () s
    | _ => .bad)
  | .get2, .loc n => (match s[n]? with
    | some (.dct _) => .ok () s
    | _ => .bad)
  | .setdefault, .loc n => (match s[n]? with
    | some (.dct _) => .ok () s
    | _ => .bad)
  | _, _ => .bad
def lstAt (n : Nat) (f : List PV → M PV) : M PV := fun s => match s[n]? with
  | some (.lst ys) => f ys s
  | _ => .bad
def wrL (n : Nat) (ys : List PV) (r : PV) : M PV := fun s => .ok r (s.set n (.lst ys))
def bmV (cts : List PV) (f : Bm) (m : Bool) (o : PV) (xs : List PV) : M PV := match f, o, xs with
  | .append, .loc n, [y] => lstAt n fun ys => M.grd (decide (ys.length < SZ)) (wrL n (ys ++ [y]) .non)
  | .extend, .loc n, [y] => lstAt n fun ys => M.bnd (asL y) fun zs => M.grd (decide (ys.length + zs.length ≤ SZ)) (wrL n (ys ++ zs) .non)
  | .pop, .loc n, [] => lstAt n fun ys => M.bnd (M.opt ys[ys.length - 1]?) fun y => wrL n ys.dropLast y
  | .popAt, .loc n, [.int i] => lstAt n fun ys => M.bnd (M.opt (ixN ys.length i)) fun k => M.bnd (M.opt ys[k]?) fun y => wrL n (ys.eraseIdx k) y
  | .split, .str z, [.str y] => M.grd (decide (y.length ≠ 0) && decide (z.length + 2 ≤ SZ) && (PySem.Txt.split z y).all okS) (newL m ((PySem.Txt.split z y).map .str))
  | .get1, o, [k] => M.bnd (asDct o) fun kvs => M.grd (kOk cts kvs k) (M.ret ((kfind kvs k).getD .non))
  | .get2, o, [k, v] => M.bnd (asDct o) fun kvs => M.grd (kOk cts kvs k) (M.ret ((kfind kvs k).getD v))
  | .setdefault, .loc n, [k, v] => M.bnd (asDct (.loc n)) fun kvs => M.grd (kOk cts kvs k) fun s => (match kfind kvs k with
    | some u => .ok u s
    | none => if kvs.length < SZ then .ok v (s.set n (.dct (kvs ++ [(k, v)]))) else .bad)
  | _, _, _ => M.bad
def setV (cts : List PV) (o i v : PV) : M Unit := match o with
  | .loc n => fun s => (match s[n]? with
    | some (.lst xs) => (match i with
      | .int k => (match ixN xs.length k with
        | some j => .ok () (s.set n (.lst (xs.set j v)))
        | none => .bad)
      | _ => .bad)
    | some (.dct kvs) => if kOk cts kvs i && decide (kvs.length < SZ) then .ok () (s.set n (.dct (kput kvs i v))) else .bad
    | _ => .bad)
  | _ => M.bad
def fput (f : Nat) (v : PV) : List (Nat × PV) → List (Nat × PV)
  | [] => [(f, v)]
  | (g, u) :: r => if g = f then (g, v) :: r else (g, u) :: fput f v r
def isFld (fl : List (Nat × List Nat)) (c f : Nat) : Bool := match fl.lookup c with
  | some gs => gs.contains f
  | none => false
def fldV (fl : List (Nat × List Nat)) (o : PV) (f : Nat) : M PV := fun s => match o with
  | .loc n => (match s[n]? with
    | some (.ins c fs) => M.grd (isFld fl c f) (M.opt (fs.lookup f)) s
    | _ => .bad)
  | _ => .bad
def setF (fl : List (Nat × List Nat)) (o : PV) (f : Nat) (v : PV) : M Unit := fun s => match o with
  | .loc n => (match s[n]? with
    | some (.ins c fs) => if isFld fl c f && decide (fs.length < 900) then .ok () (s.set n (.ins c (fput f v fs))) else .bad
    | _ => .bad)
  | _ => .bad
def newD (ks vs : List PV) : M PV := match ks, vs with
  | [], [] => fun s => .ok (.loc s.length) (s ++ [.dct []])
  | [k], [v] => M.grd (isK k) fun s => .ok (.loc s.length) (s ++ [.dct [(k, v)]])
  | _, _ => M.bad
structure Call where
  def_ : Nat → List PV → M PV
  make : Nat → List PV → M PV
  low : Nat → List PV → M PV
  clo : Nat → List PV → List PV → M PV
def isClo : PV → Bool
  | .clo _ _ => true
  | _ => false
def getX (ρ : Env) (i : Nat) : M PV := match ρ[i]? with
  | some (some d) => M.ret d
  | _ => M.bad
def getVar (ρ : Env) (i : Nat) : M PV := M.bnd (getX ρ i) fun d => M.grd (!isClo d) (M.ret d)
def caps (ρ : Env) : List Nat → M (List PV)
  | [] => M.ret []
  | i :: r => M.bnd (getX ρ i) fun x => M.bnd (caps ρ r) fun xs => M.ret (x :: xs)
def noClo (ρ : Env) : Env := ρ.map fun o => match o with
  | some (.clo _ _) => none
  | o => o
def wipe (own : List Nat) (ρ : Env) : Env := own.foldr (fun i ρ => ρ.set i none) (noClo ρ)
def itemsOf (x : PV) : M (List PV) := fun s => match x with
  | .str z => .ok (chars z) s
  | x => asS x s
def isTupB : PV → Bool
  | .tup _ => true
  | _ => false
def rngL (i j : Int) : List PV := (List.range (j - i).toNat).map fun (k : Nat) => PV.int (i + (k : Int))
def in62 (i : Int) : Bool := decide (-(2 ^ 62) ≤ i) && decide (i < 2 ^ 62)
abbrev Wat := List (Nat × MO)
def watch (ws : Wat) : M Unit := fun s => if ws.all (fun w => decide (s[w.1]? = some w.2)) then .ok () s else .bad
def watOf (x : PV) : M Wat := fun s => match x with
  | .loc n => (match s[n]? with
    | some o => .ok [(n, o)] s
    | none => .bad)
  | _ => .ok [] s
def addO (acc : List PV) : Option PV → List PV
  | some y => acc ++ [y]
  | none => acc
def mapM (ws : Wat) (f : PV → M (Option PV)) : List PV → List PV → M (List PV)
  | [], acc => M.bnd (watch ws) fun _ => M.ret acc
  | x :: r, acc => M.bnd (watch ws) fun _ => M.bnd (f x) fun o => mapM ws f r (addO acc o)
def argsBy {α : Type} (xs : List α) : List Nat → Option (List α)
  | [] => some []
  | i :: r => match xs[i]?, argsBy xs r with
    | some x, some ys => some (x :: ys)
    | _, _ => none
def nilG : List PV → Env → M Env
  | [], ρ => M.ret ρ
  | _ :: _, _ => M.bad
def consG (mg : PV → Env → M Env) (ms : List PV → Env → M Env) : List PV → Env → M Env
  | [], _ => M.bad
  | x :: xs, ρ => M.bnd (mg x ρ) fun ρ => ms xs ρ
def tupG (n : Nat) (ms : List PV → Env → M Env) : PV → Env → M Env
  | .tup xs, ρ => M.grd (decide (xs.length = n)) (ms xs ρ)
  | _, _ => M.bad
def gsLen : Tgs → Nat
  | .nil => 0
  | .cons _ r => gsLen r + 1
def clsOf (x : PV) : M Nat := fun s => match x with
  | .loc n => (match s[n]? with
    | some (.ins c _) => .ok c s
    | _ => .bad)
  | _ => .bad
section
variable (P : Prog) (C : Call)
def atrV (x : PV) (f : Nat) : M PV := match x with
  | .exn _ g vs => M.grd (decide (g = f)) (M.opt vs[0]?)
  | x => M.bnd (clsOf x) fun c => match P.props.lookup (c, f) with
  | some k => M.nox (C.low k [x])
  | none => fldV P.flds x f
mutual
def ev (ρ : Env) : E → M PV
  | .var i => getVar ρ i
  | .cst c => M.ret c
  | .glo x => M.opt (P.globs.lookup x)
  | .bin o m a b => M.bnd (ev ρ a) fun x => M.bnd (ev ρ b) fun y => binV o m x y
  | .neg a => M.bnd (ev ρ a) fun x => (match x with
    | .int i => M.ret (.int (-i))
    | _ => M.bad)
  | .cmp o a b => M.bnd (ev ρ a) fun x => M.bnd (ev ρ b) fun y => M.bnd (cmpV P.cts o x y) fun k => M.ret (.bl k)
  | .chn o o' a b c => M.bnd (ev ρ a) fun x => M.bnd (ev ρ b) fun y => M.bnd (cmpV P.cts o x y) fun k => if k then M.bnd (ev ρ c) fun z => M.bnd (cmpV P.cts o' y z) fun k => M.ret (.bl k) else M.ret (.bl false)
  | .and a b => M.bnd (ev ρ a) fun x => (match x with
    | .bl true => ev ρ b
    | .bl false => M.ret (.bl false)
    | _ => M.bad)
  | .or a b => M.bnd (ev ρ a) fun x => (match x with
    | .bl false => ev ρ b
    | .bl true => M.ret (.bl true)
    | _ => M.bad)
  | .not a => M.bnd (ev ρ a) fun x => (match x with
    | .bl k => M.ret (.bl (!k))
    | _ => M.bad)
  | .ite c a b => M.bnd (evT ρ c) fun k => if k then ev ρ a else ev ρ b
  | .tup es => M.bnd (evs ρ es) newT
  | .lst m es => M.bnd (evs ρ es) (newL m)
  | .dct ks vs => M.bnd (evs ρ ks) fun ks => M.bnd (evs ρ vs) fun vs => newD ks vs
  | .ix a i => M.bnd (ev ρ a) fun x => M.bnd (ev ρ i) fun y => ixV x y
  | .dget a i => M.bnd (ev ρ a) fun x => M.bnd (ev ρ i) fun y => dgetV P.cts x y
  | .eqO neg a b => M.bnd (ev ρ a) fun x => M.bnd (ev ρ b) fun y => M.bnd (clsOf x) fun c => (match P.eqs.lookup c with
    | some k => M.bnd (C.def_ k [x, y]) fun z => (match z with
      | .bl q => M.ret (.bl (if neg then !q else q))
      | _ => M.bad)
    | none => M.bad)
  | .slc m a lo hi => M.bnd (ev ρ a) fun x => M.bnd (evo ρ lo) fun l => M.bnd (evo ρ hi) fun h => slcV m x l h
  | .atr a f => M.bnd (ev ρ a) fun x => atrV P C x f
  | .call k es dv => M.bnd (eva ρ es) fun xs => C.def_ k (xs ++ dv)
  | .callK k es kw ord => M.bnd (evs ρ es) fun xs => M.bnd (evs ρ kw) fun ys => M.bnd (M.opt (argsBy (xs ++ ys) ord)) (C.def_ k)
  | .mk c es => M.bnd (evs ρ es) (C.make c)
  | .mkK c es kw ord => M.bnd (evs ρ es) fun xs => M.bnd (evs ρ kw) fun ys => M.bnd (M.opt (argsBy (xs ++ ys) ord)) (C.make c)
  | .exm c f es => M.bnd (evs ρ es) fun vs => M.ret (.exn c f vs)
  | .bf f m es => M.bnd (evs ρ es) (bfV f m)
  | .isi a t => M.bnd (ev ρ a) fun x => M.bnd (isB P.cls x t) fun k => M.ret (.bl k)
  | .callV i es => M.bnd (getX ρ i) fun f => (match f with
    | .clo k cs => M.bnd (evs ρ es) (C.clo k cs)
    | _ => M.bad)
  | .meth o f es dv => M.bnd (ev ρ o) fun x => M.bnd (clsOf x) fun c => M.bnd (M.opt (P.mets.lookup (c, f))) fun k => M.bnd (evs ρ es) fun xs => C.def_ k (x :: (xs ++ dv))
  | .bm f m o es => M.bnd (ev ρ o) fun x => M.bnd (bmT f x) fun _ => M.bnd (evs ρ es) (bmV P.cts f m x)
  | .callI k es e => M.bnd (evs ρ es) fun xs => M.bnd (C.def_ k xs) fun o => M.bnd (ev ρ e) fun x => idxV o x
  | .lc m own g it c e => M.bnd (evi ρ it) fun xs => M.bnd (mapM xs.2 (fun x => M.nox (M.bnd (evg g x (wipe own ρ)) fun ρ' => M.bnd (evC ρ' c) fun k => if k then M.bnd (ev ρ' e) fun y => M.ret (some y) else M.ret none)) xs.1 []) (newL m)
def eva (ρ : Env) : As → M (List PV)
  | .nil => M.ret []
  | .cons a r => M.bnd (ev ρ a) fun x => M.bnd (eva ρ r) fun xs => M.ret (x :: xs)
  | .lam k r => (match P.lams.lookup k with
    | some l => M.bnd (caps ρ l.caps) fun cs => M.bnd (eva ρ r) fun xs => M.ret (.clo k cs :: xs)
    | none => M.bad)
  | .fvar i r => M.bnd (getX ρ i) fun x => M.bnd (eva ρ r) fun xs => M.ret (x :: xs)
def evT (ρ : Env) : T → M Bool
  | .of e => M.bnd (ev ρ e) truth
  | .cmp o a b => M.bnd (ev ρ a) fun x => M.bnd (ev ρ b) fun y => cmpV P.cts o x y
  | .chn o o' a b c => M.bnd (ev ρ a) fun x => M.bnd (ev ρ b) fun y => M.bnd (cmpV P.cts o x y) fun k => if k then M.bnd (ev ρ c) fun z => cmpV P.cts o' y z else M.ret false
  | .and a b => M.bnd (evT ρ a) fun k => if k then evT ρ b else M.ret false
  | .or a b => M.bnd (evT ρ a) fun k => if k then M.ret true else evT ρ b
  | .not a => M.bnd (evT ρ a) fun k => M.ret (!k)
def evC (ρ : Env) : OT → M Bool
  | .non => M.ret true
  | .som c => evT ρ c
def evs (ρ : Env) : Es → M (List PV)
  | .nil => M.ret []
  | .cons a r => M.bnd (ev ρ a) fun x => M.bnd (evs ρ r) fun xs => M.ret (x :: xs)
def evo (ρ : Env) : OE → M (Option Int)
  | .non => M.ret none
  | .som a => M.bnd (ev ρ a) fun x => (match x with
    | .int i => M.ret (some i)
    | _ => M.bad)
def evg : Tg → PV → Env → M Env
  | .name i => fun v ρ => M.ret (ρ.set i (some v))
  | .tup gs => fun v ρ => tupG (gsLen gs) (evgs gs) v ρ
  | .sub o i => fun v ρ => M.bnd (ev ρ o) fun x => M.bnd (ev ρ i) fun y => M.bnd (setV P.cts x y v) fun _ => M.ret ρ
  | .fld o f => fun v ρ => M.bnd (ev ρ o) fun x => M.bnd (setF P.flds x f v) fun _ => M.ret ρ
def evgs : Tgs → List PV → Env → M Env
  | .nil => fun vs ρ => nilG vs ρ
  | .cons g r => fun vs ρ => consG (evg g) (evgs r) vs ρ
def evi (ρ : Env) : It → M (List PV × Wat)
  | .of a => M.bnd (ev ρ a) fun x => M.bnd (itemsOf x) fun xs => M.bnd (watOf x) fun w => M.ret (xs, w)
  | .rng a => M.bnd (ev ρ a) fun x => (match x with
    | .int j => M.grd (in62 j) (M.ret (rngL 0 j, []))
    | _ => M.bad)
  | .rng2 a b => M.bnd (ev ρ a) fun x => M.bnd (ev ρ b) fun y => (match x, y with
    | .int i, .int j => M.grd (in62 i && in62 j) (M.ret (rngL i j, []))
    | _, _ => M.bad)
  | .enu a => M.bnd (ev ρ a) fun x => M.bnd (asS x) fun xs => M.bnd (watOf x) fun w => M.ret (xs.zipIdx.map fun p => .tup [.int p.2, p.1], w)
  | .zip a b => M.bnd (ev ρ a) fun x => M.bnd (ev ρ b) fun y => M.grd (isTupB x == isTupB y) <| M.bnd (asS x) fun xs => M.bnd (asS y) fun ys => M.bnd (watOf x) fun w => M.bnd (watOf y) fun w' => M.ret ((xs.zip ys).map fun p => .tup [p.1, p.2], w ++ w')
  | .items a => M.bnd (ev ρ a) fun x => M.bnd (asDct x) fun kvs => M.bnd (watOf x) fun w => M.ret (kvs.map fun p => .tup [p.1, p.2], w)
end
end
inductive Fl where
  | nx
  | ret (v : PV)
  | brk
  | cnt
  deriving Inhabited
def loopM (ws : Wat) (f : PV → Env → M (Fl × Env)) : List PV → Env → M (Fl × Env)
  | [], ρ => M.bnd (watch ws) fun _ => M.ret (.nx, ρ)
  | x :: r, ρ => M.bnd (watch ws) fun _ => M.bnd (f x ρ) fun q => (match q.1 with
    | .nx => loopM ws f r q.2
    | .cnt => loopM ws f r q.2
    | .brk => M.ret (.nx, q.2)
    | .ret v => M.ret (.ret v, q.2))
def whileM (c : Env → M Bool) (b : Env → M (Fl × Env)) : Nat → Env → M (Fl × Env)
  | 0, _ => M.bad
  | n + 1, ρ => M.bnd (c ρ) fun k => if k then M.bnd (b ρ) fun q => (match q.1 with
    | .nx => whileM c b n q.2
    | .cnt => whileM c b n q.2
    | .brk => M.ret (.nx, q.2)
    | .ret v => M.ret (.ret v, q.2)) else M.ret (.nx, ρ)
def FUEL : Nat := 1000000000000
section
variable (P : Prog) (C : Call)
mutual
def ex : S → Env → M (Fl × Env)
  | .expr e, ρ => M.bnd (ev P C ρ e) fun _ => M.ret (.nx, ρ)
  | .asg g e, ρ => M.bnd (ev P C ρ e) fun v => M.bnd (evg P C g v ρ) fun ρ' => M.ret (.nx, ρ')
  | .ret e, ρ => M.bnd (ev P C ρ e) fun v => M.ret (.ret v, ρ)
  | .retN, ρ => M.ret (.ret .non, ρ)
  | .cond c a b, ρ => M.bnd (evT P C ρ c) fun k => if k then exs a ρ else exs b ρ
  | .for_ g it b, ρ => M.bnd (evi P C ρ it) fun xs => loopM xs.2 (fun x ρ => M.bnd (evg P C g x ρ) (exs b)) xs.1 ρ
  | .whl c b, ρ => whileM (fun ρ => evT P C ρ c) (fun ρ => exs b ρ) FUEL ρ
  | .pass, ρ => M.ret (.nx, ρ)
  | .brk, ρ => M.ret (.brk, ρ)
  | .cont, ρ => M.ret (.cnt, ρ)
  | .raise c es, ρ => M.bnd (evs P C ρ es) fun vs s => .exc c vs s
  | .never, _ => M.bad
def exs : Ss → Env → M (Fl × Env)
  | .nil, ρ => M.ret (.nx, ρ)
  | .cons a r, ρ => M.bnd (ex a ρ) fun q => (match q.1 with
    | .nx => exs r q.2
    | f => M.ret (f, q.2))
end
def body (d : Def) (args : List PV) : M PV := if args.length = d.np then M.bnd (exs P C d.body (args.map some ++ List.replicate (d.nl - d.np) none)) fun q => (match q.1 with
  | .nx => M.ret .non
  | .ret v => M.ret v
  | _ => M.bad) else M.bad
def lamBody (l : Lam) (cs args : List PV) : M PV := if args.length = l.np ∧ cs.length = l.caps.length then ev P C ((args ++ cs).map some ++ List.replicate (l.nl - l.np - l.caps.length) none) l.body else M.bad
end
def nonM (n : Nat) (v : PV) : M PV := match v with
  | .non => M.ret (.loc n)
  | _ => M.bad
def mkM (m : List PV → M PV) (c : Nat) (args : List PV) : M PV := fun s => M.bnd (m (.loc s.length :: args)) (nonM s.length) (s ++ [.ins c []])
def runs (P : Prog) : Nat → Call
  | 0 => ⟨fun _ _ => M.bad, fun _ _ => M.bad, fun _ _ => M.bad, fun _ _ _ => M.bad⟩
  | n + 1 => ⟨fun k args => (match P.defs.lookup k with
      | some d => body P (runs P n) d args
      | none => M.bad),
    fun c args => (match P.cls.lookup c with
      | some k => mkM ((runs P n).def_ k) c args
      | none => M.bad),
    (runs P n).def_,
    fun k cs args => (match P.lams.lookup k with
      | some l => lamBody P (runs P n) l cs args
      | none => M.bad)⟩
end Mp
namespace Mp
open PySem PySem.Spec PyProof.Rows L2
structure LamD where
  qual : Str
  params : Arguments
  body : Expr
  scope : Scope
  fr : List Str
structure Rc where
  K : PySem.W.Frag
  lam : Nat → LamD → Prop
  cad : Nat → Addr
  fld : List (Nat × Str)
  tabs : List (Addr × Str)
  xfld : Nat → Str
  cts : List PV
  mnm : Nat → Str
  xcl : List Nat
  hid : List Addr
structure Gm where
  h : Heap
  hp : Hp
  fs : List Addr
def Rc.fnm (R : Rc) (f : Nat) : Str := (R.fld.lookup f).getD Str.empty
def Off (R : Rc) (φ : List Addr) (a : Addr) : Prop := a ∉ φ ∧ a ∉ R.hid
def Own (R : Rc) (φ : List Addr) (H : Hp) (a : Addr) (u : HO) : Prop := H a = some u ∧ Off R φ a ∧ ∀ ps, u ≠ .tbl ps
abbrev Rc.h (R : Rc) (l : List Addr) : Rc := { R with hid := l }
def TupAt (R : Rc) (φ : List Addr) (H : Hp) (a : Addr) (ds : List PV) (vs : List V) : Prop :=
  Own R φ H a (.tup vs) ∨ (isKT (.tup ds) = true → PV.tup ds ∈ R.cts) ∧
    ∃ (o : Obj) (its : Array Value) (n : Nat), R.K.lookup a = some o ∧ o.cls = .type "tuple" ∧ o.data = .seq its n ∧ its.size ≤ sizeLine ∧ Vals vs its.toList
def ExnAt (R : Rc) (φ : List Addr) (H : Hp) (a : Addr) (c f : Nat) (ws : List V) : Prop :=
  c ∈ R.xcl ∧ ((ws = [] ∧ Own R φ H a (exo a (R.cad c) none)) ∨ ∃ w d x, ws = [w] ∧ R.fld.lookup f = some x ∧ PySem.W.findIn R.K (.ref (R.cad c)) x = some none ∧ Own R φ H a (exo a (R.cad c) (some d)) ∧ Own R φ H d (exd d [(x, w)]))
def ScrAt (R : Rc) (φ : List Addr) (H : Hp) (a : Addr) (ns : List Int) : Prop :=
  (∃ u, Own R φ H a u ∧ (u = .lst (ns.map V.int) ∨ ∃ o, u = .frz o (.lst (ns.map V.int)))) ∨ ∃ (o : Obj) (its : Array Value) (n : Nat), R.K.lookup a = some o ∧ o.cls = .type "list" ∧ o.dict = none ∧ o.data = .seq its n ∧ its.size ≤ sizeLine ∧ Vals (ns.map V.int) its.toList
theorem ScrAt.sq {R : Rc} {φ : List Addr} {H : Hp} {a : Addr} {ns : List Int} (h : ScrAt R φ H a ns) : SqL R.K H a (ns.map V.int) := by
  rcases h with ⟨u, h, rfl | ⟨o, rfl⟩⟩ | h
  · exact .inl (.inl h.1)
  · exact .inl (.inr ⟨o, h.1⟩)
  · exact .inr h
theorem okS_len {x : Str} (h : okS x = true) : x.length ≤ SZ := by
  unfold okS at h
  rw [Bool.and_eq_true] at h
  exact of_decide_eq_true h.1
theorem okS_cps {x : Str} (h : okS x = true) : x.cps.all (· < 0x110000) = true := by
  unfold okS at h
  rw [Bool.and_eq_true] at h
  exact h.2
mutual
def RepV (R : Rc) (φ : List Addr) (H : Hp) : PV → V → Prop
  | .non, v => v = .non
  | .bl b, v => v = .bl b
  | .int i, v => v = .int i
  | .str x, v => v = .str x ∧ okS x = true
  | .tup ds, v => ∃ a vs, v = .ref a ∧ TupAt R φ H a ds vs ∧ vs.length ≤ SZ ∧ RepL R φ H ds vs
  | .lst ds, v => ∃ a vs, v = .ref a ∧ Own R φ H a (.lst vs) ∧ vs.length ≤ SZ ∧ RepL R φ H ds vs
  | .loc n, v => ∃ a, φ[n]? = some a ∧ v = .ref a
  | .glo _, _ => False
  | .scr ns, v => ∃ (a : Addr) (_ : Unit), v = .ref a ∧ ScrAt R φ H a ns ∧ ns.length ≤ SZ
  | .clo _ _, _ => False
  | .exn c f ds, v => ∃ a ws, v = .ref a ∧ ExnAt R φ H a c f ws ∧ RepL R φ H ds ws
def RepL (R : Rc) (φ : List Addr) (H : Hp) : List PV → List V → Prop
  | [], vs => vs = []
  | d :: ds, vs => ∃ v r, vs = v :: r ∧ RepV R φ H d v ∧ RepL R φ H ds r
end
structure Step (φ : List Addr) (H : Hp) (φ' : List Addr) (H' : Hp) : Prop where
  pre : φ <+: φ'
  keep : ∀ b o, H b = some o → b ∉ φ → (∀ ps, o ≠ .tbl ps) → H' b = some o
  tbl : ∀ b ps, H b = some (.tbl ps) → b ∉ φ → ∃ more, H' b = some (.tbl (ps ++ more))
  new : ∀ a ∈ φ', a ∈ φ ∨ H a = none
theorem Step.refl (φ : List Addr) (H : Hp) : Step φ H φ H := ⟨List.prefix_refl φ, fun _ _ h _ _ => h, fun b ps h _ => ⟨#[], by rw [h]; simp⟩, fun _ h => .inl h⟩
theorem Step.out {φ φ' : List Addr} {H H' : Hp} (s : Step φ H φ' H') {b : Addr} {o : HO} (h : H b = some o) (n : b ∉ φ) : b ∉ φ' := fun m => by
  rcases s.new b m with z | z
  · exact n z
  · rw [h] at z; cases z
theorem Step.trans {φ φ1 φ2 : List Addr} {H H1 H2 : Hp} (a : Step φ H φ1 H1) (b : Step φ1 H1 φ2 H2) : Step φ H φ2 H2 where
  pre := a.pre.trans b.pre
  keep := fun c o h n t => b.keep c o (a.keep c o h n t) (a.out h n) t
  tbl := fun c ps h n => by
    obtain ⟨m1, e1⟩ := a.tbl c ps h n
    obtain ⟨m2, e2⟩ := b.tbl c _ e1 (a.out h n)
    exact ⟨m1 ++ m2, by rw [e2, Array.append_assoc]⟩
  new := fun c m => by
    rcases b.new c m with z | z
    · exact a.new c z
    · by_cases hc : c ∈ φ
      · exact .inl hc
      · cases q : H c with
        | none => exact .inr rfl
        | some o =>
          by_cases t : ∃ ps, o = .tbl ps
          · obtain ⟨ps, rfl⟩ := t
            obtain ⟨m, e⟩ := a.tbl c ps q hc
            rw [z] at e; cases e
          · have := a.keep c o q hc fun ps e => t ⟨ps, e⟩
            rw [z] at this; cases this
theorem Own.step {R : Rc} {φ φ' : List Addr} {H H' : Hp} (s : Step φ H φ' H') {a : Addr} {u : HO} (h : Own R φ H a u) : Own R φ' H' a u :=
  ⟨s.keep a u h.1 h.2.1.1 h.2.2, ⟨s.out h.1 h.2.1.1, h.2.1.2⟩, h.2.2⟩
theorem TupAt.step {R : Rc} {φ φ' : List Addr} {H H' : Hp} (s : Step φ H φ' H') {a : Addr} {ds : List PV} {vs : List V} (h : TupAt R φ H a ds vs) : TupAt R φ' H' a ds vs := h.elim (fun h => .inl (h.step s)) .inr
theorem ScrAt.step {R : Rc} {φ φ' : List Addr} {H H' : Hp} (s : Step φ H φ' H') {a : Addr} {ns : List Int} (h : ScrAt R φ H a ns) : ScrAt R φ' H' a ns := h.elim (fun ⟨o, h, e⟩ => .inl ⟨o, h.step s, e⟩) .inr
theorem ExnAt.step {R : Rc} {φ φ' : List Addr} {H H' : Hp} (s : Step φ H φ' H') {a : Addr} {c f : Nat} {ws : List V} (h : ExnAt R φ H a c f ws) : ExnAt R φ' H' a c f ws := by
  rcases h with ⟨hc, ⟨e, h⟩ | ⟨w, d, x, e, hx, hf, h1, h2⟩⟩
  · exact ⟨hc, .inl ⟨e, h.step s⟩⟩
  · exact ⟨hc, .inr ⟨w, d, x, e, hx, hf, h1.step s, h2.step s⟩⟩
theorem TupAt.sq {R : Rc} {φ : List Addr} {H : Hp} {a : Addr} {ds : List PV} {vs : List V} (h : TupAt R φ H a ds vs) : SqT R.K H a vs := h.elim (fun h => .inl (.inl h.1)) fun h => .inr h.2
theorem get_pre {φ φ' : List Addr} (p : φ <+: φ') {n : Nat} {a : Addr} (h : φ[n]? = some a) : φ'[n]? = some a := by
  obtain ⟨t, rfl⟩ := p
  obtain ⟨hn, _⟩ := List.getElem?_eq_some_iff.mp h
  rw [List.getElem?_append_left hn]
  exact h
mutual
theorem RepV.step {R : Rc} {φ φ' : List Addr} {H H' : Hp} (s : Step φ H φ' H') : ∀ (d : PV) (v : V), RepV R φ H d v → RepV R φ' H' d v
  | .non, _, h => h
  | .bl _, _, h => h
  | .int _, _, h => h
  | .str _, _, h => h
  | .tup ds, v, h => by
    obtain ⟨a, vs, e, t, z, r⟩ := h
    exact ⟨a, vs, e, t.step s, z, RepL.step s ds vs r⟩
  | .lst ds, v, h => by
    obtain ⟨a, vs, e, t, z, r⟩ := h
    exact ⟨a, vs, e, t.step s, z, RepL.step s ds vs r⟩
  | .loc n, v, h => by
    obtain ⟨a, e, q⟩ := h
    exact ⟨a, get_pre s.pre e, q⟩
  | .glo _, _, h => h
  | .scr ns, v, h => by
    obtain ⟨a, o, e, t, z⟩ := h
    exact ⟨a, o, e, t.step s, z⟩
  | .clo _ _, _, h => h
  | .exn c f ds, v, h => by
    obtain ⟨a, ws, e, t, r⟩ := h
    exact ⟨a, ws, e, t.step s, RepL.step s ds ws r⟩
theorem RepL.step {R : Rc} {φ φ' : List Addr} {H H' : Hp} (s : Step φ H φ' H') : ∀ (ds : List PV) (vs : List V), RepL R φ H ds vs → RepL R φ' H' ds vs
  | [], _, h => h
  | d :: ds, vs, h => by
    obtain ⟨v, r, e, h1, h2⟩ := h
    exact ⟨v, r, e, RepV.step s d v h1, RepL.step s ds r h2⟩
end
def Hd (R : Rc) (H0 : Hp) (hid : List Addr) : Prop := ∀ D ∈ hid, D ∈ R.hid ∨ H0 D = none
theorem Hd.refl {R : Rc} {H : Hp} : Hd R H R.hid := fun _ h => .inl h
theorem Own.hide {R : Rc} {φ φ' : List Addr} {H H' : Hp} {hid : List Addr} (s : Step φ H φ' H') (hd : Hd R H hid) {a : Addr} {u : HO} (h : Own R φ H a u) : Own (R.h hid) φ' H' a u :=
  ⟨s.keep a u h.1 h.2.1.1 h.2.2, ⟨s.out h.1 h.2.1.1, fun m => by
    rcases hd a m with z | z
    · exact h.2.1.2 z
    · rw [h.1] at z; cases z⟩, h.2.2⟩
theorem ScrAt.hide {R : Rc} {φ φ' : List Addr} {H H' : Hp} {hid : List Addr} (s : Step φ H φ' H') (hd : Hd R H hid) {a : Addr} {ns : List Int} (h : ScrAt R φ H a ns) : ScrAt (R.h hid) φ' H' a ns := h.elim (fun ⟨o, h, e⟩ => .inl ⟨o, h.hide s hd, e⟩) .inr
theorem ExnAt.hide {R : Rc} {φ φ' : List Addr} {H H' : Hp} {hid : List Addr} (s : Step φ H φ' H') (hd : Hd R H hid) {a : Addr} {c f : Nat} {ws : List V} (h : ExnAt R φ H a c f ws) : ExnAt (R.h hid) φ' H' a c f ws := by
  rcases h with ⟨hc, ⟨e, h⟩ | ⟨w, d, x, e, hx, hf, h1, h2⟩⟩
  · exact ⟨hc, .inl ⟨e, h.hide s hd⟩⟩
  · exact ⟨hc, .inr ⟨w, d, x, e, hx, hf, h1.hide s hd, h2.hide s hd⟩⟩
theorem TupAt.hide {R : Rc} {φ φ' : List Addr} {H H' : Hp} {hid : List Addr} (s : Step φ H φ' H') (hd : Hd R H hid) {a : Addr} {ds : List PV} {vs : List V} (h : TupAt R φ H a ds vs) : TupAt (R.h hid) φ' H' a ds vs := h.elim (fun h => .inl (h.hide s hd)) .inr
mutual
theorem RepV.hide {R : Rc} {φ φ' : List Addr} {H H' : Hp} {hid : List Addr} (s : Step φ H φ' H') (hd : Hd R H hid) : ∀ (d : PV) (v : V), RepV R φ H d v → RepV (R.h hid) φ' H' d v
  | .non, _, h => h
  | .bl _, _, h => h
  | .int _, _, h => h
  | .str _, _, h => h
  | .tup ds, v, h => by
    obtain ⟨a, vs, e, t, z, r⟩ := h
    exact ⟨a, vs, e, t.hide s hd, z, RepL.hide s hd ds vs r⟩
  | .lst ds, v, h => by
    obtain ⟨a, vs, e, t, z, r⟩ := h
    exact ⟨a, vs, e, t.hide s hd, z, RepL.hide s hd ds vs r⟩
  | .loc n, v, h => by
    obtain ⟨a, e, q⟩ := h
    exact ⟨a, get_pre s.pre e, q⟩
  | .glo _, _, h => h
  | .scr ns, v, h => by
    obtain ⟨a, o, e, t, z⟩ := h
    exact ⟨a, o, e, t.hide s hd, z⟩
  | .clo _ _, _, h => h
  | .exn c f ds, v, h => by
    obtain ⟨a, ws, e, t, r⟩ := h
    exact ⟨a, ws, e, t.hide s hd, RepL.hide s hd ds ws r⟩
theorem RepL.hide {R : Rc} {φ φ' : List Addr} {H H' : Hp} {hid : List Addr} (s : Step φ H φ' H') (hd : Hd R H hid) : ∀ (ds : List PV) (vs : List V), RepL R φ H ds vs → RepL (R.h hid) φ' H' ds vs
  | [], _, h => h
  | d :: ds, vs, h => by
    obtain ⟨v, r, e, h1, h2⟩ := h
    exact ⟨v, r, e, RepV.hide s hd d v h1, RepL.hide s hd ds r h2⟩
end
theorem RepL.length {R : Rc} {φ : List Addr} {H : Hp} : ∀ {ds : List PV} {vs : List V}, RepL R φ H ds vs → ds.length = vs.length
  | [], _, h => by cases h; rfl
  | _ :: _, _, h => by
    obtain ⟨v, r, rfl, _, h2⟩ := h
    simp [RepL.length h2]
theorem RepL.get {R : Rc} {φ : List Addr} {H : Hp} : ∀ {ds : List PV} {vs : List V} {i : Nat} {d : PV}, RepL R φ H ds vs → ds[i]? = some d → ∃ v, vs[i]? = some v ∧ RepV R φ H d v
  | [], _, _, _, _, e => by simp at e
  | d :: ds, _, i, x, h, e => by
    obtain ⟨v, r, rfl, h1, h2⟩ := h
    cases i with
    | zero => simp at e; subst e; exact ⟨v, rfl, h1⟩
    | succ i =>
      obtain ⟨w, a, b⟩ := RepL.get (i := i) h2 (by simpa using e)
      exact ⟨w, by simpa using a, b⟩
theorem RepL.at {R : Rc} {φ : List Addr} {H : Hp} : ∀ {ds : List PV} {vs : List V} {i : Nat} {v : V}, RepL R φ H ds vs → vs[i]? = some v → ∃ d, ds[i]? = some d ∧ RepV R φ H d v := fun {ds vs i v} h e => by
  obtain ⟨hi, _⟩ := List.getElem?_eq_some_iff.mp e
  have hl := h.length
  obtain ⟨w, a, b⟩ := RepL.get (i := i) (d := ds[i]) h (List.getElem?_eq_getElem (by omega))
  rw [e] at a; cases a
  exact ⟨_, List.getElem?_eq_getElem (by omega), b⟩
theorem RepL.append {R : Rc} {φ : List Addr} {H : Hp} : ∀ {ds es : List PV} {vs ws : List V}, RepL R φ H ds vs → RepL R φ H es ws → RepL R φ H (ds ++ es) (vs ++ ws)
  | [], _, _, _, h, h' => by cases h; exact h'
  | d :: ds, _, _, _, h, h' => by
    obtain ⟨v, r, rfl, h1, h2⟩ := h
    exact ⟨v, _, rfl, h1, h2.append h'⟩
theorem RepL.take {R : Rc} {φ : List Addr} {H : Hp} : ∀ {ds : List PV} {vs : List V} (n : Nat), RepL R φ H ds vs → RepL R φ H (ds.take n) (vs.take n)
  | [], _, n, h => by cases h; simp [RepL]
  | _ :: _, _, 0, _ => by simp [RepL]
  | d :: ds, _, n + 1, h => by
    obtain ⟨v, r, rfl, h1, h2⟩ := h
    exact ⟨v, _, rfl, h1, h2.take n⟩
theorem RepL.drop {R : Rc} {φ : List Addr} {H : Hp} : ∀ {ds : List PV} {vs : List V} (n : Nat), RepL R φ H ds vs → RepL R φ H (ds.drop n) (vs.drop n)
  | _, _, 0, h => h
  | [], _, n + 1, h => by cases h; simp [RepL]
  | d :: ds, _, n + 1, h => by
    obtain ⟨v, r, rfl, h1, h2⟩ := h
    exact h2.drop n
theorem RepL.set {R : Rc} {φ : List Addr} {H : Hp} {d : PV} {v : V} (hv : RepV R φ H d v) : ∀ {ds : List PV} {vs : List V} (i : Nat), RepL R φ H ds vs → RepL R φ H (ds.set i d) (vs.set i v)
  | [], _, _, h => by cases h; simp [RepL]
  | _ :: _, _, 0, h => by
    obtain ⟨w, r, rfl, _, h2⟩ := h
    exact ⟨v, r, rfl, hv, h2⟩
  | _ :: _, _, i + 1, h => by
    obtain ⟨w, r, rfl, h1, h2⟩ := h
    exact ⟨w, _, rfl, h1, h2.set hv i⟩
theorem RepL.one {R : Rc} {φ : List Addr} {H : Hp} {d : PV} {v : V} (h : RepV R φ H d v) : RepL R φ H [d] [v] := ⟨v, [], rfl, h, rfl⟩
theorem RepL.ints {R : Rc} {φ : List Addr} {H : Hp} : ∀ {ns : List Int}, RepL R φ H (ns.map .int) (ns.map V.int)
  | [] => rfl
  | n :: ns => ⟨_, _, rfl, rfl, RepL.ints⟩
def CloAt (R : Rc) (G : Gm) (φ : List Addr) (H : Hp) (f : Addr) (k : Nat) (vs : List V) : Prop :=
  ∃ (L : LamD) (cl : List (Str × Addr)) (c : Addr) (pm ctv : Value), R.lam k L ∧ G.h.get? f = some (PySem.W.kla_obj "<lambda>" L.qual L.params L.body L.scope cl pm c ctv) ∧ G.hp f = none ∧ f ∉ G.fs ∧
    Own R φ H c (LamX.CodeO c L.qual) ∧ NdefX.CellsAt cl L.fr (vs.map some) G.h G.hp ∧ (∀ y a, cl.lookup y = some a → a ∉ G.fs) ∧ vs.length = L.fr.length
theorem CloAt.step {R : Rc} {G : Gm} {φ φ' : List Addr} {H H' : Hp} (s : Step φ H φ' H') {f : Addr} {k : Nat} {vs : List V} (h : CloAt R G φ H f k vs) : CloAt R G φ' H' f k vs := by
  obtain ⟨L, cl, c, pm, ctv, h1, h2, h3, h4, h5, h6⟩ := h
  exact ⟨L, cl, c, pm, ctv, h1, h2, h3, h4, h5.step s, h6⟩
mutual
def RepX (R : Rc) (G : Gm) (φ : List Addr) (H : Hp) : PV → V → Prop
  | .clo k cs, v => ∃ f vs, v = .ref f ∧ CloAt R G φ H f k vs ∧ RepXL R G φ H cs vs
  | .non, v => RepV R φ H .non v
  | .bl b, v => RepV R φ H (.bl b) v
  | .int i, v => RepV R φ H (.int i) v
  | .str x, v => RepV R φ H (.str x) v
  | .tup ds, v => RepV R φ H (.tup ds) v
  | .lst ds, v => RepV R φ H (.lst ds) v
  | .loc n, v => RepV R φ H (.loc n) v
  | .glo x, v => RepV R φ H (.glo x) v
  | .scr ns, v => RepV R φ H (.scr ns) v
  | .exn c f ds, v => RepV R φ H (.exn c f ds) v
def RepXL (R : Rc) (G : Gm) (φ : List Addr) (H : Hp) : List PV → List V → Prop
  | [], vs => vs = []
  | d :: ds, vs => ∃ v r, vs = v :: r ∧ RepX R G φ H d v ∧ RepXL R G φ H ds r
end
theorem RepV.x {R : Rc} {G : Gm} {φ : List Addr} {H : Hp} {d : PV} {v : V} (h : RepV R φ H d v) : RepX R G φ H d v := by
  cases d <;> first | exact h | exact h.elim
theorem RepX.v {R : Rc} {G : Gm} {φ : List Addr} {H : Hp} {d : PV} {v : V} (h : RepX R G φ H d v) (n : isClo d = false) : RepV R φ H d v := by
  cases d <;> first | exact h | cases n
theorem RepXL.length {R : Rc} {G : Gm} {φ : List Addr} {H : Hp} : ∀ {ds : List PV} {vs : List V}, RepXL R G φ H ds vs → ds.length = vs.length
  | [], _, h => by cases h; rfl
  | _ :: _, _, h => by
    obtain ⟨v, r, rfl, _, h2⟩ := h
    simp [RepXL.length h2]
theorem RepXL.get {R : Rc} {G : Gm} {φ : List Addr} {H : Hp} : ∀ {ds : List PV} {vs : List V} {i : Nat} {d : PV}, RepXL R G φ H ds vs → ds[i]? = some d → ∃ v, vs[i]? = some v ∧ RepX R G φ H d v
  | [], _, _, _, _, e => by simp at e
  | d :: ds, _, i, x, h, e => by
    obtain ⟨v, r, rfl, h1, h2⟩ := h
    cases i with
    | zero => simp at e; subst e; exact ⟨v, rfl, h1⟩
    | succ i =>
      obtain ⟨w, a, b⟩ := RepXL.get (i := i) h2 (by simpa using e)
      exact ⟨w, by simpa using a, b⟩
theorem RepXL.append {R : Rc} {G : Gm} {φ : List Addr} {H : Hp} : ∀ {ds es : List PV} {vs ws : List V}, RepXL R G φ H ds vs → RepXL R G φ H es ws → RepXL R G φ H (ds ++ es) (vs ++ ws)
  | [], _, _, _, h, h' => by cases h; exact h'
  | d :: ds, _, _, _, h, h' => by
    obtain ⟨v, r, rfl, h1, h2⟩ := h
    exact ⟨v, _, rfl, h1, h2.append h'⟩
theorem RepL.x {R : Rc} {G : Gm} {φ : List Addr} {H : Hp} : ∀ {ds : List PV} {vs : List V}, RepL R φ H ds vs → RepXL R G φ H ds vs
  | [], _, h => h
  | d :: ds, _, h => by
    obtain ⟨v, r, rfl, h1, h2⟩ := h
    exact ⟨v, r, rfl, h1.x, h2.x⟩
mutual
theorem RepX.step {R : Rc} {G : Gm} {φ φ' : List Addr} {H H' : Hp} (s : Step φ H φ' H') : ∀ (d : PV) (v : V), RepX R G φ H d v → RepX R G φ' H' d v
  | .clo k cs, v, h => by
    obtain ⟨f, vs, e, t, r⟩ := h
    exact ⟨f, vs, e, t.step s, RepXL.step s cs vs r⟩
  | .non, v, h => RepV.step (R := R) s .non v h
  | .bl b, v, h => RepV.step (R := R) s (.bl b) v h
  | .int i, v, h => RepV.step (R := R) s (.int i) v h
  | .str x, v, h => RepV.step (R := R) s (.str x) v h
  | .tup ds, v, h => RepV.step (R := R) s (.tup ds) v h
  | .lst ds, v, h => RepV.step (R := R) s (.lst ds) v h
  | .loc n, v, h => RepV.step (R := R) s (.loc n) v h
  | .glo x, v, h => RepV.step (R := R) s (.glo x) v h
  | .scr ns, v, h => RepV.step (R := R) s (.scr ns) v h
  | .exn c f ds, v, h => RepV.step (R := R) s (.exn c f ds) v h
theorem RepXL.step {R : Rc} {G : Gm} {φ φ' : List Addr} {H H' : Hp} (s : Step φ H φ' H') : ∀ (ds : List PV) (vs : List V), RepXL R G φ H ds vs → RepXL R G φ' H' ds vs
  | [], _, h => h
  | d :: ds, vs, h => by
    obtain ⟨v, r, e, h1, h2⟩ := h
    exact ⟨v, r, e, RepX.step s d v h1, RepXL.step s ds r h2⟩
end
def FldL (R : Rc) (φ : List Addr) (H : Hp) : List (Nat × PV) → List (Str × V) → Prop
  | [], gs => gs = []
  | (f, d) :: fs, gs => ∃ x v r, gs = (x, v) :: r ∧ R.fld.lookup f = some x ∧ RepV R φ H d v ∧ FldL R φ H fs r
def pK : Key → PV
  | .inl i => .int i
  | .inr x => .str x
def pT (ks : List Key) : PV := .tup (ks.map pK)
def KR : Key → Prop
  | .inl _ => True
  | .inr x => okS x = true
def KRs (ks : List Key) : Prop := ks.length ≤ SZ ∧ ∀ k ∈ ks, KR k
def DctG (R : Rc) (φ : List Addr) (H : Hp) {κ : Type} (kp : κ → PV) (kr : κ → Prop) : List (PV × PV) → List (κ × V) → Prop
  | [], gs => gs = []
  | (k, d) :: fs, gs => ∃ x v r, gs = (x, v) :: r ∧ k = kp x ∧ kr x ∧ RepV R φ H d v ∧ DctG R φ H kp kr fs r
def RepO (R : Rc) (φ : List Addr) (H : Hp) (a : Addr) : MO → Prop
  | .lst ds => ∃ vs, H a = some (.lst vs) ∧ vs.length ≤ SZ ∧ RepL R φ H ds vs
  | .dct kvs => (∃ gs, H a = some (.dK gs) ∧ gs.length ≤ SZ ∧ DctG R φ H pK KR kvs gs) ∨ ∃ gs, H a = some (.dT gs) ∧ gs.length ≤ SZ ∧ DctG R φ H pT KRs kvs gs
  | .ins c fs => ∃ dx gs, H a = some (.ins (R.cad c) dx gs) ∧ FldL R φ H fs gs
structure RepS (R : Rc) (φ : List Addr) (st : Sto) (H : Hp) : Prop where
  len : φ.length = st.length
  nd : φ.Nodup
  at_ : ∀ (n : Nat) (o : MO) (a : Addr), st[n]? = some o → φ[n]? = some a → RepO R φ H a o
  hd : ∀ D ∈ R.hid, D ∉ φ ∧ ∃ vs, H D = some (.lst vs)
structure RepE (R : Rc) (G : Gm) (φ : List Addr) (H : Hp) (ρ : Env) (σ : L2.St) : Prop where
  len : ρ.length = σ.length
  at_ : ∀ (i : Nat) (d : PV), ρ[i]? = some (some d) → ∃ v, σ[i]? = some (some v) ∧ RepX R G φ H d v
theorem RepE.step {R : Rc} {G : Gm} {φ φ' : List Addr} {H H' : Hp} (s : Step φ H φ' H') {ρ : Env} {σ : L2.St} (h : RepE R G φ H ρ σ) : RepE R G φ' H' ρ σ :=
  ⟨h.len, fun i d e => let ⟨v, a, b⟩ := h.at_ i d e; ⟨v, a, b.step s⟩⟩
theorem RepE.set {R : Rc} {G : Gm} {φ : List Addr} {H : Hp} {ρ : Env} {σ : L2.St} (h : RepE R G φ H ρ σ) (i : Nat) {d : PV} {v : V} (hv : RepX R G φ H d v) : RepE R G φ H (ρ.set i (some d)) (σ.set i (some v)) := by
  refine ⟨by simp [h.len], fun j e he => ?_⟩
  by_cases hj : i = j
  · subst hj
    have hi : i < ρ.length := by
      by_cases q : i < ρ.length
      · exact q
      · rw [List.getElem?_eq_none (by simpa using q)] at he; cases he
    rw [List.getElem?_set_self hi] at he
    cases he
    exact ⟨v, List.getElem?_set_self (by rw [← h.len]; exact hi), hv⟩
  · rw [List.getElem?_set_ne hj] at he ⊢
    exact h.at_ j e he
theorem RepS.lt {R : Rc} {φ : List Addr} {st : Sto} {H : Hp} (h : RepS R φ st H) {n : Nat} {o : MO} (e : st[n]? = some o) : ∃ a, φ[n]? = some a ∧ RepO R φ H a o := by
  obtain ⟨hn, _⟩ := List.getElem?_eq_some_iff.mp e
  have hl := h.len
  exact ⟨φ[n], List.getElem?_eq_getElem (by omega), h.at_ n o _ e (List.getElem?_eq_getElem (by omega))⟩
theorem FldL.step {R : Rc} {φ φ' : List Addr} {H H' : Hp} (s : Step φ H φ' H') : ∀ {fs : List (Nat × PV)} {gs : List (Str × V)}, FldL R φ H fs gs → FldL R φ' H' fs gs
  | [], _, h => h
  | (f, d) :: fs, _, h => by
    obtain ⟨x, v, r, e, h1, h2, h3⟩ := h
    exact ⟨x, v, r, e, h1, h2.step s, h3.step s⟩
theorem DctG.step {R : Rc} {φ φ' : List Addr} {H H' : Hp} {κ : Type} {kp : κ → PV} {kr : κ → Prop} (s : Step φ H φ' H') : ∀ {fs : List (PV × PV)} {gs : List (κ × V)}, DctG R φ H kp kr fs gs → DctG R φ' H' kp kr fs gs
  | [], _, h => h
  | (f, d) :: fs, _, h => by
    obtain ⟨x, v, r, e, h1, h2, h3, h4⟩ := h
    exact ⟨x, v, r, e, h1, h2, h3.step s, h4.step s⟩
theorem RepO.tracked {R : Rc} {φ : List Addr} {H : Hp} {a : Addr} {o : MO} (h : RepO R φ H a o) : ∃ u, H a = some u := by
  cases o with
  | lst ds => obtain ⟨vs, e, _⟩ := h; exact ⟨_, e⟩
  | dct _ =>
    rcases h with ⟨gs, e, _⟩ | ⟨gs, e, _⟩
    · exact ⟨_, e⟩
    · exact ⟨_, e⟩
  | ins c fs => obtain ⟨dx, gs, e, _⟩ := h; exact ⟨_, e⟩
theorem RepO.step {R : Rc} {φ φ' : List Addr} {H H' : Hp} (s : Step φ H φ' H') {a : Addr} {o : MO} (h : RepO R φ H a o) (e : H' a = H a) : RepO R φ' H' a o := by
  cases o with
  | lst ds =>
    obtain ⟨vs, h1, h2, h3⟩ := h
    exact ⟨vs, e.trans h1, h2, RepL.step s _ _ h3⟩
  | dct _ =>
    rcases h with ⟨gs, h1, h2, h3⟩ | ⟨gs, h1, h2, h3⟩
    · exact .inl ⟨gs, e.trans h1, h2, h3.step s⟩
    · exact .inr ⟨gs, e.trans h1, h2, h3.step s⟩
  | ins c fs =>
    obtain ⟨dx, gs, h1, h2⟩ := h
    exact ⟨dx, gs, e.trans h1, h2.step s⟩
theorem step_new {φ : List Addr} {H : Hp} {p : Addr} {o : HO} (hp : H p = none) : Step φ H φ (upd H p o) :=
  ⟨List.prefix_refl φ, fun b u h _ _ => by rw [upd_ne (ne_of_none h hp)]; exact h, fun b ps h _ => ⟨#[], by rw [upd_ne (ne_of_none h hp), h]; simp⟩, fun _ h => .inl h⟩
theorem RepS.mem {R : Rc} {φ : List Addr} {st : Sto} {H : Hp} (h : RepS R φ st H) {a : Addr} (m : a ∈ φ) : ∃ u, H a = some u := by
  obtain ⟨n, e⟩ := List.mem_iff_getElem?.mp m
  obtain ⟨hn, _⟩ := List.getElem?_eq_some_iff.mp e
  have hl := h.len
  exact (h.at_ n st[n] a (List.getElem?_eq_getElem (by omega)) e).tracked
theorem RepS.fresh {R : Rc} {φ : List Addr} {st : Sto} {H : Hp} (h : RepS R φ st H) {p : Addr} (hp : H p = none) : Off R φ p := by
  refine ⟨fun m => ?_, fun m => ?_⟩
  · obtain ⟨u, e⟩ := h.mem m
    rw [hp] at e
    cases e
  · obtain ⟨_, vs, e⟩ := h.hd p m
    rw [hp] at e
    cases e
theorem RepS.new {R : Rc} {φ : List Addr} {st : Sto} {H : Hp} (h : RepS R φ st H) {p : Addr} {o : HO} (hp : H p = none) : RepS R φ st (upd H p o) :=
  ⟨h.len, h.nd, fun n m a e1 e2 => (h.at_ n m a e1 e2).step (step_new hp) (upd_ne (fun z => (h.fresh hp).1 (z ▸ List.mem_of_getElem? e2))), fun D hD => by
    obtain ⟨h1, vs, h2⟩ := h.hd D hD
    exact ⟨h1, vs, by rw [upd_ne (ne_of_none h2 hp)]; exact h2⟩⟩
theorem step_sto {φ : List Addr} {H : Hp} {p : Addr} {o : HO} (hp : H p = none) : Step φ H (φ ++ [p]) (upd H p o) :=
  ⟨List.prefix_append φ [p], (step_new hp).keep, (step_new hp).tbl, fun a m => by
    rcases List.mem_append.mp m with z | z
    · exact .inl z
    · simp at z; subst z; exact .inr hp⟩
theorem RepS.snoc {R : Rc} {φ : List Addr} {st : Sto} {H : Hp} (h : RepS R φ st H) {p : Addr} {o : HO} {m : MO} (hp : H p = none) (hm : RepO R (φ ++ [p]) (upd H p o) p m) : RepS R (φ ++ [p]) (st ++ [m]) (upd H p o) := by
  have hl := h.len
  refine ⟨by simp [hl], ?_, fun n x a e1 e2 => ?_, fun D hD => by
    obtain ⟨h1, vs, h2⟩ := h.hd D hD
    refine ⟨fun z => ?_, vs, by rw [upd_ne (ne_of_none h2 hp)]; exact h2⟩
    rcases List.mem_append.mp z with z | z
    · exact h1 z
    · rw [List.mem_singleton.mp z, hp] at h2; cases h2⟩
  · rw [List.nodup_append]
    refine ⟨h.nd, by simp, fun a ha b hb z => ?_⟩
    simp at hb
    subst hb
    exact (h.fresh hp).1 (z ▸ ha)
  · by_cases hn : n < st.length
    · rw [List.getElem?_append_left hn] at e1
      rw [List.getElem?_append_left (by omega)] at e2
      exact (h.at_ n x a e1 e2).step (step_sto hp) (upd_ne (fun z => (h.fresh hp).1 (z ▸ List.mem_of_getElem? e2)))
    · rw [List.getElem?_append_right (by omega)] at e1
      rw [List.getElem?_append_right (by omega)] at e2
      have h0 : n - st.length = 0 := by
        by_cases q : n - st.length = 0
        · exact q
        · rw [List.getElem?_eq_none (by simp; omega)] at e1; cases e1
      rw [h0] at e1
      rw [show n - φ.length = 0 by omega] at e2
      simp at e1 e2
      subst e1; subst e2
      exact hm
theorem step_wr {φ : List Addr} {H : Hp} {a : Addr} {o : HO} (ha : a ∈ φ) : Step φ H φ (upd H a o) :=
  ⟨List.prefix_refl φ, fun b u h n _ => by rw [upd_ne (fun z : b = a => n (by rw [z]; exact ha))]; exact h, fun b ps h n => ⟨#[], by rw [upd_ne (fun z : b = a => n (by rw [z]; exact ha)), h]; simp⟩, fun _ h => .inl h⟩
theorem RepS.write {R : Rc} {φ : List Addr} {st : Sto} {H : Hp} (h : RepS R φ st H) {n : Nat} {a : Addr} {o : HO} {m : MO} (ha : φ[n]? = some a) (hm : RepO R φ (upd H a o) a m) : RepS R φ (st.set n m) (upd H a o) := by
  have hl := h.len
  obtain ⟨hn, _⟩ := List.getElem?_eq_some_iff.mp ha
  refine ⟨by simp [hl], h.nd, fun j x b e1 e2 => ?_, fun D hD => by
    obtain ⟨h1, vs, h2⟩ := h.hd D hD
    exact ⟨h1, vs, by rw [upd_ne (fun z : D = a => h1 (by rw [z]; exact List.mem_of_getElem? ha))]; exact h2⟩⟩
  by_cases hj : n = j
  · subst hj
    rw [List.getElem?_set_self (by omega)] at e1
    cases e1
    rw [ha] at e2; cases e2
    exact hm
  · rw [List.getElem?_set_ne hj] at e1
    refine (h.at_ j x b e1 e2).step (step_wr (List.mem_of_getElem? ha)) (upd_ne fun z => ?_)
    subst z
    exact hj ((List.getElem?_inj hn h.nd).mp (ha.trans e2.symm))
def XRep (R : Rc) (φ : List Addr) (H : Hp) (c : Nat) (vs : List PV) (dx : Option Addr) : Prop := match vs with
  | [] => dx = none
  | [x] => ∃ d v, dx = some d ∧ Own R φ H d (.xd [(R.xfld c, v)]) ∧ RepV R φ H x v
  | _ => False
abbrev Tbs (R : Rc) (H : Hp) : Prop := LamX.Tabs R.tabs H
def Post (R : Rc) (W : WX) (σ : L2.St) (φ : List Addr) (H : Hp) {α β : Type} (A : List Addr → Hp → α → β → Prop) (o : Out α) (Q : β → Hp → Prop) : Prop := match o with
  | .ok d st => ∀ φ' H' v, Step φ H φ' H' → RepS R φ' st H' → Tbs R H' → A φ' H' d v → Q v H'
  | .exc c vs st => ∀ φ' H' dx, Step φ H φ' H' → RepS R φ' st H' → Tbs R H' → XRep R φ' H' c vs dx → W (.ref (R.cad c)) dx σ H'
  | .bad => False
section
variable {R : Rc} {W : WX} {σ : L2.St} {φ : List Addr} {H : Hp} {α β γ δ : Type} {A : List Addr → Hp → α → β → Prop} {B : List Addr → Hp → γ → δ → Prop}
theorem Post.mono {o : Out α} {Q Q' : β → Hp → Prop} (h : Post R W σ φ H A o Q) (k : ∀ v H', Q v H' → Q' v H') : Post R W σ φ H A o Q' := by
  cases o with
  | ok d st => exact fun φ' H' v a b c e => k _ _ (h φ' H' v a b c e)
  | exc c vs st => exact h
  | bad => exact h
theorem Post.step {o : Out α} {Q : β → Hp → Prop} {φ1 : List Addr} {H1 : Hp} (s : Step φ H φ1 H1) (h : Post R W σ φ H A o Q) : Post R W σ φ1 H1 A o Q := by
  cases o with
  | ok d st => exact fun φ' H' v a b c e => h φ' H' v (s.trans a) b c e
  | exc c vs st => exact fun φ' H' v a b c e => h φ' H' v (s.trans a) b c e
  | bad => exact h
theorem Post.bnd {m : M α} {f : α → M γ} {st : Sto} {Q : δ → Hp → Prop} (h : Post R W σ φ H B (M.bnd m f st) Q) :
    Post R W σ φ H A (m st) fun v H1 => ∃ φ1 st1 d, Step φ H φ1 H1 ∧ RepS R φ1 st1 H1 ∧ Tbs R H1 ∧ A φ1 H1 d v ∧ Post R W σ φ1 H1 B (f d st1) Q := by
  unfold M.bnd at h
  cases e : m st with
  | ok d st1 =>
    rw [e] at h
    exact fun φ1 H1 v a b c r => ⟨φ1, st1, d, a, b, c, r, h.step a⟩
  | exc c vs st1 =>
    rw [e] at h
    exact h
  | bad =>
    rw [e] at h
    exact h
end
def tM (R : Rc) (G : Gm) (W : WX) (m : Env → M PV) : TE := fun σ H Q => ∃ φ st ρ, RepS R φ st H ∧ RepE R G φ H ρ σ ∧ Tbs R H ∧ Post R W σ φ H (RepV R) (m ρ st) Q
def tMA' (R : Rc) (G : Gm) (W : WX) (m : Env → M (List PV)) : TA := fun σ H Q => ∃ φ st ρ, RepS R φ st H ∧ RepE R G φ H ρ σ ∧ Tbs R H ∧ Post R W σ φ H (RepL R) (m ρ st) Q
def AB (φ : List Addr) (H : Hp) (a b : Bool) : Prop := a = b
def tMT (R : Rc) (G : Gm) (W : WX) (m : Env → M Bool) : TT := fun σ H Q => ∃ φ st ρ, RepS R φ st H ∧ RepE R G φ H ρ σ ∧ Tbs R H ∧ Post R W σ φ H AB (m ρ st) Q
def tMA (R : Rc) (G : Gm) (W : WX) (m : Env → M (List PV)) : TA := fun σ H Q => ∃ φ st ρ, RepS R φ st H ∧ RepE R G φ H ρ σ ∧ Tbs R H ∧ Post R W σ φ H (RepXL R G) (m ρ st) Q
end Mp
namespace Mp
open PySem PySem.Spec PyProof.Rows L2
def PostN (R : Rc) (φ : List Addr) (H : Hp) {α β : Type} (A : List Addr → Hp → α → β → Prop) (o : Out α) (Q : β → Hp → Prop) : Prop := match o with
  | .ok d st => ∀ φ' H' v, Step φ H φ' H' → RepS R φ' st H' → Tbs R H' → A φ' H' d v → Q v H'
  | .exc _ _ _ => False
  | .bad => False
theorem Tbs.new {R : Rc} {H : Hp} {p : Addr} {o : HO} (h : Tbs R H) (hp : H p = none) : Tbs R (upd H p o) := LamX.Tabs.ext h fun b u e => by rw [upd_ne (ne_of_none e hp)]; exact e
theorem sz_eq : sizeLine = SZ := sizeLine_eq
theorem okS_append {a b : Str} (ha : okS a = true) (hb : okS b = true) (h : a.length + b.length ≤ SZ) : okS (a ++ b) = true := by
  unfold okS
  rw [Bool.and_eq_true]
  have e : (a ++ b).cps = a.cps ++ b.cps := rfl
  refine ⟨decide_eq_true ?_, ?_⟩
  · show (a.cps ++ b.cps).size ≤ SZ
    rw [Array.size_append]
    exact h
  · rw [e, Array.all_append, okS_cps ha, okS_cps hb]
    rfl
theorem RepL.rep {R : Rc} {φ : List Addr} {H : Hp} {ds : List PV} {vs : List V} (h : RepL R φ H ds vs) : ∀ n, RepL R φ H (List.replicate n ds).flatten (List.replicate n vs).flatten
  | 0 => rfl
  | n + 1 => by
    rw [List.replicate_succ, List.replicate_succ, List.flatten_cons, List.flatten_cons]
    exact h.append (h.rep n)
section
variable {R : Rc} {φ : List Addr} {H : Hp} {st : Sto}
theorem PostN.here {α β : Type} {A : List Addr → Hp → α → β → Prop} {d : α} {v : β} {Q : β → Hp → Prop} (S : RepS R φ st H) (T : Tbs R H) (p : PostN R φ H A (M.ret d st) Q) (r : A φ H d v) : Q v H := p φ H v (Step.refl φ H) S T r
theorem newL_ok {m : Bool} {ds : List PV} {vs : List V} {Q : VK} (S : RepS R φ st H) (T : Tbs R H) (r : RepL R φ H ds vs) (p : PostN R φ H (RepV R) (newL m ds st) Q) :
    vs.length ≤ SZ ∧ ∀ a, H a = none → Q (.ref a) (upd H a (.lst vs)) := by
  have hl := r.length
  unfold newL at p
  by_cases h : ds.length ≤ SZ
  · rw [if_pos h] at p
    refine ⟨by omega, fun a ha => ?_⟩
    cases m with
    | true =>
      simp only [if_true] at p
      refine p (φ ++ [a]) _ _ (step_sto ha) (S.snoc ha ⟨vs, upd_same, by omega, r.step (step_sto ha)⟩) (T.new ha) ⟨a, ?_, rfl⟩
      rw [List.getElem?_append_right (by rw [S.len]; exact Nat.le_refl _), S.len]
      simp
    | false =>
      simp only [Bool.false_eq_true, if_false] at p
      exact p φ _ _ (step_new ha) (S.new ha) (T.new ha) ⟨a, vs, rfl, ⟨upd_same, S.fresh ha, fun ps z => by cases z⟩, by omega, r.step (step_new ha)⟩
  · rw [if_neg h] at p
    exact p.elim
theorem grd_ok {b : Bool} {m : M PV} {Q : VK} (p : PostN R φ H (RepV R) (M.grd b m st) Q) : b = true ∧ PostN R φ H (RepV R) (m st) Q := by
  unfold M.grd at p
  cases b with
  | true => exact ⟨rfl, p⟩
  | false => exact p.elim
theorem newT_ok {ds : List PV} {vs : List V} {Q : VK} (S : RepS R φ st H) (T : Tbs R H) (r : RepL R φ H ds vs) (p : PostN R φ H (RepV R) (newT ds st) Q) :
    vs.length ≤ SZ ∧ ∀ a, H a = none → Q (.ref a) (upd H a (.tup vs)) := by
  have hl := r.length
  obtain ⟨h, p⟩ := grd_ok p
  have h := of_decide_eq_true h
  refine ⟨by omega, fun a ha => ?_⟩
  exact p φ _ _ (step_new ha) (S.new ha) (T.new ha) ⟨a, vs, rfl, .inl ⟨upd_same, S.fresh ha, fun ps z => by cases z⟩, by omega, r.step (step_new ha)⟩
theorem asL_ok {d : PV} {x : V} (S : RepS R φ st H) (r : RepV R φ H d x) {ds : List PV} {st' : Sto} (e : asL d st = .ok ds st') : st' = st ∧ ∃ a vs, x = .ref a ∧ H a = some (.lst vs) ∧ vs.length ≤ SZ ∧ RepL R φ H ds vs := by
  unfold asL at e
  cases d with
  | lst xs =>
    cases e
    obtain ⟨a, vs, e, t, z, q⟩ := r
    exact ⟨rfl, a, vs, e, t.1, z, q⟩
  | loc n =>
    simp only at e
    obtain ⟨a, ha, rfl⟩ := r
    cases q : st[n]? with
    | none => rw [q] at e; cases e
    | some o =>
      rw [q] at e
      cases o with
      | lst xs =>
        cases e
        obtain ⟨vs, h1, h2, h3⟩ := S.at_ n _ a q ha
        exact ⟨rfl, a, vs, rfl, h1, h2, h3⟩
      | _ => cases e
  | _ => cases e
theorem asS_ok {d : PV} {x : V} (S : RepS R φ st H) (r : RepV R φ H d x) {ds : List PV} {st' : Sto} (e : asS d st = .ok ds st') : st' = st ∧ ∃ a vs, x = .ref a ∧ (SqL R.K H a vs ∨ SqT R.K H a vs) ∧ vs.length ≤ SZ ∧ RepL R φ H ds vs := by
  unfold asS at e
  cases d with
  | tup xs =>
    cases e
    obtain ⟨a, vs, e, t, z, q⟩ := r
    exact ⟨rfl, a, vs, e, .inr t.sq, z, q⟩
  | scr ns =>
    cases e
    obtain ⟨a, o, e, t, z⟩ := r
    exact ⟨rfl, a, _, e, .inl (t.sq), by rw [List.length_map]; exact z, RepL.ints⟩
  | lst xs =>
    cases e
    obtain ⟨a, vs, e, t, z, q⟩ := r
    exact ⟨rfl, a, vs, e, .inl (.inl (.inl t.1)), z, q⟩
  | loc n =>
    simp only at e
    obtain ⟨a, ha, rfl⟩ := r
    cases q : st[n]? with
    | none => rw [q] at e; cases e
    | some o =>
      rw [q] at e
      cases o with
      | lst xs =>
        cases e
        obtain ⟨vs, h1, h2, h3⟩ := S.at_ n _ a q ha
        exact ⟨rfl, a, vs, rfl, .inl (.inl (.inl h1)), h2, h3⟩
      | _ => cases e
  | _ => cases e
theorem bndL_ok {d : PV} {x : V} {f : List PV → M PV} {Q : VK} (S : RepS R φ st H) (r : RepV R φ H d x) (p : PostN R φ H (RepV R) (M.bnd (asL d) f st) Q) :
    ∃ a ds vs, x = .ref a ∧ H a = some (.lst vs) ∧ vs.length ≤ SZ ∧ RepL R φ H ds vs ∧ PostN R φ H (RepV R) (f ds st) Q := by
  unfold M.bnd at p
  cases e : asL d st with
  | ok ds st' =>
    rw [e] at p
    obtain ⟨rfl, a, vs, h1, h2, h3, h4⟩ := asL_ok S r e
    exact ⟨a, ds, vs, h1, h2, h3, h4, p⟩
  | exc c vs s => rw [e] at p; exact p.elim
  | bad => rw [e] at p; exact p.elim
theorem bndS_ok {d : PV} {x : V} {f : List PV → M PV} {Q : VK} (S : RepS R φ st H) (r : RepV R φ H d x) (p : PostN R φ H (RepV R) (M.bnd (asS d) f st) Q) :
    ∃ a ds vs, x = .ref a ∧ (SqL R.K H a vs ∨ SqT R.K H a vs) ∧ vs.length ≤ SZ ∧ RepL R φ H ds vs ∧ PostN R φ H (RepV R) (f ds st) Q := by
  unfold M.bnd at p
  cases e : asS d st with
  | ok ds st' =>
    rw [e] at p
    obtain ⟨rfl, a, vs, h1, h2, h3, h4⟩ := asS_ok S r e
    exact ⟨a, ds, vs, h1, h2, h3, h4, p⟩
  | exc c vs s => rw [e] at p; exact p.elim
  | bad => rw [e] at p; exact p.elim
end
def rM (R : Rc) (m : PV → PV → M PV) : R2 := fun x y H Q => ∃ φ st d e, RepS R φ st H ∧ Tbs R H ∧ RepV R φ H d x ∧ RepV R φ H e y ∧ PostN R φ H (RepV R) (m d e st) Q
section
variable {X : Cx} {R : Rc}
theorem in64_ok {i : Int} (h : in64 i = true) : -(2 ^ 64) < i ∧ i < 2 ^ 64 := by
  unfold in64 at h
  simp only [Bool.and_eq_true, decide_eq_true_eq] at h
  exact h
theorem add_ok (hK : R.K = X.K) (m : Bool) : OpR X (binaryOp .Add) (rM R (binV .add m)) := by
  intro pins s σ H x y v u Q I rx ry ⟨φ, st, d, e, S, T, rd, re, p⟩
  have lists : PostN R φ H (RepV R) (M.bnd (asL d) (fun xs => M.bnd (asL e) fun ys => newL m (xs ++ ys)) st) Q → wpAny (model X.prog X.w) X.A (binaryOp .Add v u) (EP X pins σ Q) X.xe s := fun p => by
    obtain ⟨a, ds, vs, rfl, ha, hz, rl, p⟩ := bndL_ok S rd p
    obtain ⟨b, es, ws, rfl, hb, hz2, rl2, p⟩ := bndL_ok S re p
    obtain ⟨h1, h2⟩ := newL_ok S T (rl.append rl2) p
    exact op_cat pins s σ H _ _ v u Q I rx ry ⟨a, b, vs, ws, rfl, rfl, ha, hb, by rw [List.length_append] at h1; rw [sz_eq]; exact h1, h2⟩
  cases d with
  | int i =>
    cases e with
    | int j => exact op_add pins s σ H x y v u Q I rx ry ⟨i, j, rd, re, p.here S T rfl⟩
    | _ => exact lists p
  | str a =>
    cases e with
    | str b =>
      obtain ⟨h, p⟩ := grd_ok p
      have h := of_decide_eq_true h
      refine op_add_str pins s σ H x y v u Q I rx ry ⟨a, b, rd.1, re.1, by rw [sz_eq]; exact h, p.here S T ⟨rfl, ?_⟩⟩
      exact okS_append rd.2 re.2 h
    | _ => exact lists p
  | tup xs =>
    cases e with
    | tup ys =>
      have rd0 := rd
      have re0 := re
      obtain ⟨a, vs, rfl, ta, za, la⟩ := rd
      obtain ⟨b, ws, rfl, tb, zb, lb⟩ := re
      have p0 : PostN R φ H (RepV R) (newT (xs ++ ys) st) Q := p
      obtain ⟨h1, h2⟩ := newT_ok S T (la.append lb) p0
      have h3 := la.length
      have h4 := lb.length
      rw [List.length_append] at h1
      obtain ⟨_, p1⟩ := grd_ok p0
      refine op_catA pins s σ H _ _ v u Q I rx ry ⟨a, b, vs, ws, rfl, rfl, by rw [← hK]; exact ta.sq, by rw [← hK]; exact tb.sq, by rw [sz_eq]; exact h1, fun e => ?_, fun e1 e2 => ?_, fun _ _ => h2⟩
      · subst e
        have ex : xs = [] := List.length_eq_zero_iff.mp (by rw [h3]; rfl)
        subst ex
        exact p1.here S T re0
      · subst e2
        have ey : ys = [] := List.length_eq_zero_iff.mp (by rw [h4]; rfl)
        subst ey
        rw [List.append_nil] at p1
        exact p1.here S T rd0
    | _ => exact lists p
  | _ => exact lists p
theorem sub_ok (m : Bool) : OpR X (binaryOp .Sub) (rM R (binV .sub m)) := by
  intro pins s σ H x y v u Q I rx ry ⟨φ, st, d, e, S, T, rd, re, p⟩
  cases d <;> cases e <;> first
    | exact op_sub pins s σ H x y v u Q I rx ry ⟨_, _, rd, re, PostN.here S T p rfl⟩
    | exact False.elim p
theorem fdiv_ok (m : Bool) : OpR X (binaryOp .FloorDiv) (rM R (binV .fdiv m)) := by
  intro pins s σ H x y v u Q I rx ry ⟨φ, st, d, e, S, T, rd, re, p⟩
  cases d with
  | int i =>
    cases e with
    | int j =>
      obtain ⟨h, p⟩ := grd_ok p
      simp only [Bool.and_eq_true, decide_eq_true_eq] at h
      exact op_fdivN pins s σ H x y v u Q I rx ry ⟨i, j, rd, re, h, p.here S T rfl⟩
    | _ => exact False.elim p
  | _ => exact False.elim p
theorem mod_ok (m : Bool) : OpR X (binaryOp .Mod) (rM R (binV .mod m)) := by
  intro pins s σ H x y v u Q I rx ry ⟨φ, st, d, e, S, T, rd, re, p⟩
  cases d with
  | int i =>
    cases e with
    | int j =>
      obtain ⟨h, p⟩ := grd_ok p
      exact op_modN pins s σ H x y v u Q I rx ry ⟨i, j, rd, re, of_decide_eq_true h, p.here S T rfl⟩
    | _ => exact False.elim p
  | _ => exact False.elim p
theorem pow_ok (m : Bool) : OpR X (binaryOp .Pow) (rM R (binV .pow m)) := by
  intro pins s σ H x y v u Q I rx ry ⟨φ, st, d, e, S, T, rd, re, p⟩
  cases d with
  | int i =>
    cases e with
    | int j =>
      obtain ⟨h, p⟩ := grd_ok p
      simp only [Bool.and_eq_true, decide_eq_true_eq] at h
      have h2 := in64_ok h.2
      exact op_pow pins s σ H x y v u Q I rx ry ⟨i, j, rd, re, ⟨h.1.1, h.1.2, by omega⟩, p.here S T rfl⟩
    | _ => exact False.elim p
  | _ => exact False.elim p
theorem mul_ok (m : Bool) : OpR X (binaryOp .Mult) (rM R (binV .mul m)) := by
  intro pins s σ H x y v u Q I rx ry ⟨φ, st, d, e, S, T, rd, re, p⟩
  cases e with
  | int j =>
    have lists : PostN R φ H (RepV R) (M.bnd (asL d) (fun xs => M.grd (in63 j && decide (xs.length * j.toNat ≤ SZ)) (newL m (List.replicate j.toNat xs).flatten)) st) Q → wpAny (model X.prog X.w) X.A (binaryOp .Mult v u) (EP X pins σ Q) X.xe s := fun p => by
      obtain ⟨a, ds, vs, rfl, ha, hz, rl, p⟩ := bndL_ok S rd p
      obtain ⟨h, p⟩ := grd_ok p
      simp only [Bool.and_eq_true, decide_eq_true_eq, in63] at h
      have e1 := rl.length
      have rr := rl.rep j.toNat
      obtain ⟨h1, h2⟩ := newL_ok S T rr p
      exact op_rep pins s σ H _ _ v u Q I rx ry ⟨a, j, vs, rfl, re, ha, h.1.1, h.1.2, by rw [sz_eq, ← e1]; exact h.2, h2⟩
    cases d with
    | int i =>
      obtain ⟨h, p⟩ := grd_ok p
      rw [Bool.or_eq_true] at h
      exact op_mul pins s σ H x y v u Q I rx ry ⟨i, j, rd, re, h.imp in64_ok in64_ok, p.here S T rfl⟩
    | _ => exact lists p
  | _ => cases d <;> exact False.elim p
theorem OpR.imp {f : Value → Value → Sem Value} {r r' : R2} (h : OpR X f r) (k : ∀ x y H Q, r' x y H Q → r x y H Q) : OpR X f r' := fun pins s σ H x y v u Q I rx ry q => h pins s σ H x y v u Q I rx ry (k x y H Q q)
end
mutual
theorem rep_dp {R : Rc} {φ : List Addr} {H : Hp} : ∀ (d : PV) (x : V) (D : PyData), RepV R φ H d x → d.toD = some D → Dp R.K H x D ∧ D.canLay0 = true
  | .non, _, _, r, e => by cases e; cases r; exact ⟨.non, rfl⟩
  | .bl _, _, _, r, e => by cases e; cases r; exact ⟨.bl _, rfl⟩
  | .int _, _, _, r, e => by cases e; cases r; exact ⟨.int _, rfl⟩
  | .str z, _, _, r, e => by
    cases e
    obtain ⟨rfl, h⟩ := r
    exact ⟨.str _, by
      show PyData.strOk z = true
      exact okS_cps h⟩
  | .tup ds, _, _, r, e => by
    obtain ⟨a, vs, rfl, t, z, q⟩ := r
    unfold PV.toD at e
    cases q2 : PV.toDs ds with
    | none => rw [q2] at e; cases e
    | some Ds =>
      rw [q2] at e
      cases e
      obtain ⟨h1, h2⟩ := rep_dps ds vs Ds q q2
      exact ⟨.tup t.sq h1, h2⟩
  | .lst ds, _, _, r, e => by
    obtain ⟨a, vs, rfl, t, z, q⟩ := r
    unfold PV.toD at e
    cases q2 : PV.toDs ds with
    | none => rw [q2] at e; cases e
    | some Ds =>
      rw [q2] at e
      cases e
      obtain ⟨h1, h2⟩ := rep_dps ds vs Ds q q2
      exact ⟨.lst (.inl (.inl t.1)) h1, h2⟩
  | .loc _, _, _, _, e => by cases e
  | .glo _, _, _, _, e => by cases e
  | .scr _, _, _, _, e => by cases e
  | .clo _ _, _, _, _, e => by cases e
theorem rep_dps {R : Rc} {φ : List Addr} {H : Hp} : ∀ (ds : List PV) (vs : List V) (Ds : List PyData), RepL R φ H ds vs → PV.toDs ds = some Ds → DpAll R.K H vs Ds ∧ PyData.canLayAll0 Ds = true
  | [], _, _, r, e => by
    cases r
    cases e
    exact ⟨.nil, rfl⟩
  | d :: ds, _, _, r, e => by
    obtain ⟨v, r, rfl, r1, r2⟩ := r
    unfold PV.toDs at e
    cases q1 : d.toD with
    | none => rw [q1] at e; cases e
    | some D =>
      cases q2 : PV.toDs ds with
      | none => rw [q1, q2] at e; cases e
      | some Ds =>
        rw [q1, q2] at e
        cases e
        obtain ⟨h1, h2⟩ := rep_dp d v D r1 q1
        obtain ⟨h3, h4⟩ := rep_dps ds r Ds r2 q2
        exact ⟨.cons h1 h3, by
          show (D.canLay0 && PyData.canLayAll0 Ds) = true
          rw [h2, h4]; rfl⟩
end
section
variable {R : Rc} {φ : List Addr} {H : Hp} {st : Sto}
theorem asD_ok {d : PV} {x : V} (S : RepS R φ st H) (r : RepV R φ H d x) {D : PyData} {st' : Sto} (e : asD d st = .ok D st') : st' = st ∧ Dp R.K H x D ∧ D.canLay0 = true := by
  have pure : ∀ (e : (match d.toD with | some d => Out.ok d st | none => .bad) = .ok D st'), st' = st ∧ Dp R.K H x D ∧ D.canLay0 = true := fun e => by
    cases q : d.toD with
    | none => rw [q] at e; cases e
    | some D' =>
      rw [q] at e
      cases e
      exact ⟨rfl, rep_dp d x _ r q⟩
  cases d with
  | loc n =>
    unfold asD at e
    simp only at e
    obtain ⟨a, ha, rfl⟩ := r
    cases q : st[n]? with
    | none => rw [q] at e; cases e
    | some o =>
      rw [q] at e
      cases o with
      | lst xs =>
        simp only at e
        obtain ⟨vs, h1, h2, h3⟩ := S.at_ n _ a q ha
        cases q2 : PV.toDs xs with
        | none => rw [q2] at e; cases e
        | some Ds =>
          rw [q2] at e
          cases e
          obtain ⟨g1, g2⟩ := rep_dps xs vs Ds h3 q2
          exact ⟨rfl, .lst (.inl (.inl h1)) g1, g2⟩
      | _ => cases e
  | _ => exact pure e
theorem bndD_ok {α β : Type} {A : List Addr → Hp → α → β → Prop} {d : PV} {x : V} {f : PyData → M α} {Q : β → Hp → Prop} (S : RepS R φ st H) (r : RepV R φ H d x) (p : PostN R φ H A (M.bnd (asD d) f st) Q) :
    ∃ D, Dp R.K H x D ∧ D.canLay0 = true ∧ PostN R φ H A (f D st) Q := by
  unfold M.bnd at p
  cases e : asD d st with
  | ok D st' =>
    rw [e] at p
    obtain ⟨rfl, h1, h2⟩ := asD_ok S r e
    exact ⟨D, h1, h2, p⟩
  | exc c vs s => rw [e] at p; exact p.elim
  | bad => rw [e] at p; exact p.elim
end
def rMB (R : Rc) (m : PV → PV → M Bool) : R2 := fun x y H Q => ∃ φ st d e, RepS R φ st H ∧ Tbs R H ∧ RepV R φ H d x ∧ RepV R φ H e y ∧ PostN R φ H AB (m d e st) fun k H' => Q (.bl k) H'
section
variable {X : Cx} {R : Rc} {cts : List PV}
theorem PostN.hereB {φ : List Addr} {H : Hp} {st : Sto} {k : Bool} {Q : Bool → Hp → Prop} (S : RepS R φ st H) (T : Tbs R H) (p : PostN R φ H AB (M.ret k st) Q) : Q k H := p φ H k (Step.refl φ H) S T rfl
theorem grdB_ok {φ : List Addr} {H : Hp} {st : Sto} {b : Bool} {m : M Bool} {Q : Bool → Hp → Prop} (p : PostN R φ H AB (M.grd b m st) Q) : b = true ∧ PostN R φ H AB (m st) Q := by
  unfold M.grd at p
  cases b with
  | true => exact ⟨rfl, p⟩
  | false => exact p.elim
theorem eqv_ok (hK : R.K = X.K) (hu : X.A.units + 64 < cLine) : OpR X (compareOp .Eq) (rMB R eqV) := by
  intro pins s σ H x y v u Q I rx ry ⟨φ, st, d, e, S, T, rd, re, p⟩
  have p : PostN R φ H AB (M.bnd (asD d) (fun d => M.bnd (asD e) fun e => M.grd (decide (min d.depth e.depth ≤ 60)) (M.ret (PyData.eqv d e))) st) fun k H' => Q (.bl k) H' := p
  obtain ⟨D, h1, h2, p⟩ := bndD_ok S rd p
  obtain ⟨E, g1, g2, p⟩ := bndD_ok S re p
  obtain ⟨hd, p⟩ := grdB_ok p
  rw [hK] at h1 g1
  obtain ⟨as, r1⟩ := Dp.reads I D x v h1 rx
  obtain ⟨bs, r2⟩ := Dp.reads I E y u g1 ry
  exact SeqAt.compareEq_reads r1 r2 h2 g2 (by have := of_decide_eq_true hd; omega) ⟨.bl _, H, I, rfl, p.hereB S T⟩
theorem ne_ok (hK : R.K = X.K) (hu : X.A.units + 64 < cLine) : OpR X (compareOp .NotEq) (rMB R (cmpV cts .ne)) := by
  intro pins s σ H x y v u Q I rx ry ⟨φ, st, d, e, S, T, rd, re, p⟩
  have p : PostN R φ H AB (M.bnd (asD d) (fun d => M.bnd (asD e) fun e => M.grd (decide (min d.depth e.depth ≤ 60)) (M.ret (!PyData.eqv d e))) st) fun k H' => Q (.bl k) H' := p
  obtain ⟨D, h1, h2, p⟩ := bndD_ok S rd p
  obtain ⟨E, g1, g2, p⟩ := bndD_ok S re p
  obtain ⟨hd, p⟩ := grdB_ok p
  rw [hK] at h1 g1
  obtain ⟨as, r1⟩ := Dp.reads I D x v h1 rx
  obtain ⟨bs, r2⟩ := Dp.reads I E y u g1 ry
  exact SeqAt.compareNe_reads r1 r2 h2 g2 (by have := of_decide_eq_true hd; omega) ⟨.bl _, H, I, rfl, p.hereB S T⟩
theorem RepV.isnon {φ : List Addr} {H : Hp} {d : PV} {x : V} (r : RepV R φ H d x) : decide (x = .non) = isNon d := by
  cases d with
  | non => cases r; rfl
  | bl _ => cases r; rfl
  | int _ => cases r; rfl
  | str _ => obtain ⟨rfl, _⟩ := r; rfl
  | tup _ => obtain ⟨a, vs, rfl, _⟩ := r; rfl
  | lst _ => obtain ⟨a, vs, rfl, _⟩ := r; rfl
  | loc _ => obtain ⟨a, _, rfl⟩ := r; rfl
  | glo _ => exact r.elim
  | scr _ => obtain ⟨a, o, rfl, _⟩ := r; rfl
  | clo _ _ => exact r.elim
  | exn _ _ _ => obtain ⟨a, ws, rfl, _⟩ := r; rfl
theorem is_ok : OpR X (compareOp .Is) (rMB R (cmpV cts .is)) := by
  intro pins s σ H x y v u Q I rx ry ⟨φ, st, d, e, S, T, rd, re, p⟩
  cases e with
  | non => exact op_isN pins s σ H x y v u Q I rx ry ⟨re, by rw [rd.isnon]; exact PostN.hereB S T p⟩
  | _ => exact False.elim p
theorem isnot_ok : OpR X (compareOp .IsNot) (rMB R (cmpV cts .isnot)) := by
  intro pins s σ H x y v u Q I rx ry ⟨φ, st, d, e, S, T, rd, re, p⟩
  cases e with
  | non => exact op_notN pins s σ H x y v u Q I rx ry ⟨re, by rw [rd.isnon]; exact PostN.hereB S T p⟩
  | _ => exact False.elim p
theorem le_ok : OpR X (compareOp .LtE) (rMB R (cmpV cts .le)) := by
  intro pins s σ H x y v u Q I rx ry ⟨φ, st, d, e, S, T, rd, re, p⟩
  cases d with
  | int i =>
    cases e with
    | int j => exact op_le pins s σ H x y v u Q I rx ry ⟨i, j, rd, re, PostN.hereB S T p⟩
    | _ => exact False.elim p
  | _ => cases e <;> exact False.elim p
theorem gt_ok : OpR X (compareOp .Gt) (rMB R (cmpV cts .gt)) := by
  intro pins s σ H x y v u Q I rx ry ⟨φ, st, d, e, S, T, rd, re, p⟩
  cases d with
  | int i =>
    cases e with
    | int j => exact op_gt pins s σ H x y v u Q I rx ry ⟨i, j, rd, re, PostN.hereB S T p⟩
    | _ => exact False.elim p
  | _ => cases e <;> exact False.elim p
theorem ge_ok : OpR X (compareOp .GtE) (rMB R (cmpV cts .ge)) := by
  intro pins s σ H x y v u Q I rx ry ⟨φ, st, d, e, S, T, rd, re, p⟩
  cases d with
  | int i =>
    cases e with
    | int j => exact op_ge pins s σ H x y v u Q I rx ry ⟨i, j, rd, re, PostN.hereB S T p⟩
    | _ => exact False.elim p
  | _ => cases e <;> exact False.elim p
end
end Mp
namespace Mp
open PySem PySem.Spec PyProof.Rows L2
def NoX {α : Type} (m : M α) : Prop := ∀ st c v s, m st ≠ .exc c v s
theorem NoX.ret {α : Type} (a : α) : NoX (M.ret a) := fun _ _ _ _ h => by cases h
theorem NoX.bad {α : Type} : NoX (M.bad : M α) := fun _ _ _ _ h => by cases h
theorem NoX.bnd {α β : Type} {m : M α} {f : α → M β} (h : NoX m) (k : ∀ a, NoX (f a)) : NoX (M.bnd m f) := fun st c v s e => by
  unfold M.bnd at e
  cases q : m st with
  | ok a s' => rw [q] at e; exact k a s' c v s e
  | exc c' v' s' => exact h st _ _ _ q
  | bad => rw [q] at e; cases e
theorem NoX.grd {α : Type} {b : Bool} {m : M α} (h : NoX m) : NoX (M.grd b m) := by
  unfold M.grd
  cases b with
  | true => exact h
  | false => exact NoX.bad
theorem NoX.opt {α : Type} {o : Option α} : NoX (M.opt o) := by
  cases o with
  | none => exact NoX.bad
  | some a => exact NoX.ret a
theorem NoX.newL {m : Bool} {xs : List PV} : NoX (newL m xs) := fun st c v s e => by
  unfold Mp.newL at e
  split at e
  · split at e <;> cases e
  · cases e
theorem NoX.newT {xs : List PV} : NoX (newT xs) := .grd (.ret _)
theorem NoX.asL {x : PV} : NoX (asL x) := fun st c v s e => by
  unfold Mp.asL at e
  split at e
  · cases e
  · split at e <;> cases e
  · cases e
theorem NoX.asS {x : PV} : NoX (asS x) := fun st c v s e => by
  unfold Mp.asS at e
  split at e
  · cases e
  · cases e
  · cases e
  · split at e <;> cases e
  · cases e
theorem NoX.asD {x : PV} : NoX (asD x) := fun st c v s e => by
  unfold Mp.asD at e
  split at e
  · split at e
    · split at e <;> cases e
    · cases e
  · split at e <;> cases e
theorem NoX.binV {o : Bop} {m : Bool} {x y : PV} : NoX (binV o m x y) := by
  unfold Mp.binV
  split <;> first
    | exact NoX.ret _
    | exact NoX.bad
    | exact NoX.grd (NoX.ret _)
    | exact NoX.newT
    | exact NoX.bnd NoX.asL fun _ => NoX.bnd NoX.asL fun _ => NoX.newL
    | exact NoX.bnd NoX.asL fun _ => NoX.grd NoX.newL
theorem NoX.inD {x y : PV} : NoX (inD x y) := by
  unfold Mp.inD
  refine NoX.bnd NoX.asD fun c => NoX.bnd NoX.asD fun d => NoX.grd ?_
  split <;> first | exact NoX.ret _ | exact NoX.bad
theorem NoX.inV {cts : List PV} {x y : PV} : NoX (inV cts x y) := by
  unfold Mp.inV
  split
  · unfold Mp.inT
    split <;> first | exact NoX.ret _ | exact NoX.bad
  · intro st c v s e
    dsimp only at e
    split at e
    · exact (NoX.grd (NoX.ret _)) _ _ _ _ e
    · exact NoX.inD _ _ _ _ e
  · exact NoX.inD
theorem NoX.cmpV {cts : List PV} {o : Cop} {x y : PV} : NoX (cmpV cts o x y) := by
  unfold Mp.cmpV
  split
  · intro st c v s e
    dsimp only at e
    split at e
    · cases e
    · exact (NoX.bnd NoX.asD fun _ => NoX.bnd NoX.asD fun _ => NoX.grd (NoX.ret _)) _ _ _ _ e
  · exact NoX.bnd NoX.asD fun _ => NoX.bnd NoX.asD fun _ => NoX.grd (NoX.ret _)
  · split <;> first | exact NoX.ret _ | exact NoX.bad
  · split <;> first | exact NoX.ret _ | exact NoX.bad
  · exact NoX.inV
  · exact NoX.bnd NoX.inV fun _ => NoX.ret _
  · split
    · exact NoX.opt
    · split
      · exact NoX.bnd NoX.asD fun _ => NoX.bnd NoX.asD fun _ => NoX.opt
      · exact NoX.bad
section
variable {R : Rc} {G : Gm} {W : WX} {σ : L2.St} {φ : List Addr} {H : Hp} {α β : Type} {A : List Addr → Hp → α → β → Prop}
theorem PostN.mono {o : Out α} {Q Q' : β → Hp → Prop} (h : PostN R φ H A o Q) (k : ∀ v H', Q v H' → Q' v H') : PostN R φ H A o Q' := by
  cases o with
  | ok d st => exact fun φ' H' v a b c e => k _ _ (h φ' H' v a b c e)
  | exc c vs st => exact h
  | bad => exact h
theorem Post.n {m : M α} {st : Sto} {Q : β → Hp → Prop} (h : Post R W σ φ H A (m st) Q) (n : NoX m) : PostN R φ H A (m st) Q := by
  cases e : m st with
  | ok d st' => rw [e] at h; exact h
  | exc c v s => exact (n _ _ _ _ e).elim
  | bad => rw [e] at h; exact h
theorem PostN.elimB {o : Out Bool} {Q : Bool → Hp → Prop} (h : PostN R φ H AB o Q) : PostN R φ H AB o fun k H' => ∃ k', V.bl k = V.bl k' ∧ Q k' H' := by
  cases o with
  | ok d st => exact fun φ' H' v a b c r => ⟨v, rfl, h φ' H' v a b c r⟩
  | exc c v s => exact h
  | bad => exact h
theorem tM.mk {m : Env → M PV} {st : Sto} {ρ : Env} {Q : VK} (S : RepS R φ st H) (E : RepE R G φ H ρ σ) (T : Tbs R H) (h : Post R W σ φ H (RepV R) (m ρ st) Q) : tM R G W m σ H Q := ⟨φ, st, ρ, S, E, T, h⟩
theorem tM.then {ma : Env → M PV} {f : Env → PV → M α} {st : Sto} {ρ : Env} {Q : β → Hp → Prop} {Q1 : VK} (S : RepS R φ st H) (E : RepE R G φ H ρ σ) (T : Tbs R H) (h : Post R W σ φ H A (M.bnd (ma ρ) (f ρ) st) Q)
    (k : ∀ φ1 st1 d v H1, Step φ H φ1 H1 → RepS R φ1 st1 H1 → RepE R G φ1 H1 ρ σ → Tbs R H1 → RepV R φ1 H1 d v → Post R W σ φ1 H1 A (f ρ d st1) Q → Q1 v H1) : tM R G W ma σ H Q1 :=
  ⟨φ, st, ρ, S, E, T, Post.mono (Post.bnd h) fun v H1 ⟨φ1, st1, d, s1, S1, T1, r1, p1⟩ => k φ1 st1 d v H1 s1 S1 (E.step s1) T1 r1 p1⟩
end
section
variable {X : Cx} {R : Rc} {G : Gm} {W : WX} {a b c : Expr} {ma mb mc : Env → M PV} {pos : Pos}
theorem _root_.L2.PE.imp {e : Expr} {t t' : TE} (h : PE X e t) (k : ∀ σ H Q, t' σ H Q → t σ H Q) : PE X e t' := ⟨fun pins s σ H Q I q => h.run pins s σ H Q I (k σ H Q q)⟩
theorem _root_.L2.PT.imp {e : Expr} {t t' : TT} (h : PT X e t) (k : ∀ σ H Q, t' σ H Q → t σ H Q) : PT X e t' := ⟨fun pins s σ H Q I q => h.run pins s σ H Q I (k σ H Q q)⟩
theorem PW.imp {e : Expr} {t t' : TT} (h : PW X e t) (k : ∀ σ H Q, t' σ H Q → t σ H Q) : PW X e t' := ⟨fun wh pins s σ H Q I q => h.run wh pins s σ H Q I (k σ H Q q)⟩
theorem _root_.L2.PA.imp {e : List Expr} {t t' : TA} (h : PA X e t) (k : ∀ σ H Q, t' σ H Q → t σ H Q) : PA X e t' := ⟨fun pos pins s σ H Q I q => h.run pos pins s σ H Q I (k σ H Q q)⟩
theorem _root_.L2.PS.imp {e : Stmt} {t t' : TS} (h : PS X e t) (k : ∀ D σ H, t' D σ H → t D σ H) : PS X e t' := ⟨fun pins s σ H Q I q => h.run pins s σ H Q I (k Q σ H q)⟩
theorem _root_.L2.PSs.imp {e : List Stmt} {t t' : TS} (h : PSs X e t) (k : ∀ D σ H, t' D σ H → t D σ H) : PSs X e t' := ⟨fun pins s σ H Q I q => h.run pins s σ H Q I (k Q σ H q)⟩
theorem getVar_ok {φ : List Addr} {H : Hp} {st : Sto} {ρ : Env} {σ : L2.St} {i : Nat} {Q : VK} (S : RepS R φ st H) (E : RepE R G φ H ρ σ) (T : Tbs R H) (h : Post R W σ φ H (RepV R) (getVar ρ i st) Q) : ∃ v, σ[i]? = some (some v) ∧ Q v H := by
  unfold getVar getX M.bnd at h
  cases e : ρ[i]? with
  | none => rw [e] at h; exact h.elim
  | some o =>
    cases o with
    | none => rw [e] at h; exact h.elim
    | some d =>
      rw [e] at h
      obtain ⟨v, h1, h2⟩ := E.at_ i d e
      cases q : isClo d with
      | true =>
        simp only [M.ret, M.grd, q] at h
        exact h.elim
      | false =>
        simp only [M.ret, M.grd, q] at h
        exact ⟨v, h1, h φ H v (Step.refl φ H) S T (h2.v q)⟩
theorem s_var {i : Nat} {x : Str} (hN : X.N[i]? = some x) (hv : Vis X.env.scope x) (hd : (x == ("__debug__" : Str)) = false) (hcd : (x == ("__classdict__" : Str)) = false) : PE X (.Name x pos) (tM R G W fun ρ => getVar ρ i) :=
  (pe_var hN hv hd hcd).imp fun σ H Q ⟨φ, st, ρ, S, E, T, h⟩ => getVar_ok S E T h
theorem s_cst {e : Expr} {d : PV} {v : V} (h : PE X e (tC v)) (r : ∀ φ H, RepV R φ H d v) : PE X e (tM R G W fun _ => M.ret d) :=
  h.imp fun σ H Q ⟨φ, st, ρ, S, E, T, h⟩ => h φ H v (Step.refl φ H) S T (r φ H)
theorem s_bin {op : Operator} {m : PV → PV → M PV} (ho : OpR X (binaryOp op) (rM R m)) (n : ∀ x y, NoX (m x y)) (ha : PE X a (tM R G W ma)) (hb : PE X b (tM R G W mb)) :
    PE X (.BinOp a op b pos) (tM R G W fun ρ => M.bnd (ma ρ) fun x => M.bnd (mb ρ) fun y => m x y) :=
  (pe_op ho ha hb).imp fun σ H Q ⟨φ, st, ρ, S, E, T, h⟩ => tM.then (f := fun ρ x => M.bnd (mb ρ) fun y => m x y) S E T h fun φ1 st1 d v H1 s1 S1 E1 T1 r1 p1 =>
    tM.then (f := fun ρ y => m d y) S1 E1 T1 p1 fun φ2 st2 e u H2 s2 S2 E2 T2 r2 p2 => ⟨φ2, st2, d, e, S2, T2, r1.step s2, r2, p2.n (n d e)⟩
theorem rMB_of {φ : List Addr} {H : Hp} {st : Sto} {σ : L2.St} {m : M Bool} {Q : VK} (S : RepS R φ st H) (n : NoX m) (h : Post R W σ φ H (RepV R) (M.bnd m (fun k => M.ret (PV.bl k)) st) Q) : PostN R φ H AB (m st) fun k H' => Q (.bl k) H' := by
  unfold M.bnd at h
  cases e : m st with
  | ok k st' =>
    rw [e] at h
    intro φ' H' v a b c r
    cases r
    exact h φ' H' _ a b c rfl
  | exc c v s => exact (n _ _ _ _ e).elim
  | bad => rw [e] at h; exact h.elim
theorem s_cmp {op : CmpOp} {m : PV → PV → M Bool} (ho : OpR X (compareOp op) (rMB R m)) (n : ∀ x y, NoX (m x y)) (hm : behindInMarks op b = false) (ha : PE X a (tM R G W ma)) (hb : PE X b (tM R G W mb)) :
    PE X (.Compare a [op] [b] pos) (tM R G W fun ρ => M.bnd (ma ρ) fun x => M.bnd (mb ρ) fun y => M.bnd (m x y) fun k => M.ret (PV.bl k)) :=
  (pe_cmpR ho ha hb hm).imp fun σ H Q ⟨φ, st, ρ, S, E, T, h⟩ => tM.then (f := fun ρ x => M.bnd (mb ρ) fun y => M.bnd (m x y) fun k => M.ret (PV.bl k)) S E T h fun φ1 st1 d v H1 s1 S1 E1 T1 r1 p1 =>
    tM.then (f := fun ρ y => M.bnd (m d y) fun k => M.ret (PV.bl k)) S1 E1 T1 p1 fun φ2 st2 e u H2 s2 S2 E2 T2 r2 p2 => ⟨φ2, st2, d, e, S2, T2, r1.step s2, r2, rMB_of S2 (n d e) p2⟩
theorem t_cmp {op : CmpOp} {m : PV → PV → M Bool} (ho : OpR X (compareOp op) (rMB R m)) (n : ∀ x y, NoX (m x y)) (hm : behindInMarks op b = false) (ha : PE X a (tM R G W ma)) (hb : PE X b (tM R G W mb)) :
    PT X (.Compare a [op] [b] pos) (tMT R G W fun ρ => M.bnd (ma ρ) fun x => M.bnd (mb ρ) fun y => m x y) :=
  (pt_cmpR ho ha hb hm).imp fun σ H Q ⟨φ, st, ρ, S, E, T, h⟩ => tM.then (f := fun ρ x => M.bnd (mb ρ) fun y => m x y) S E T h fun φ1 st1 d v H1 s1 S1 E1 T1 r1 p1 =>
    tM.then (f := fun ρ y => m d y) S1 E1 T1 p1 fun φ2 st2 e u H2 s2 S2 E2 T2 r2 p2 => ⟨φ2, st2, d, e, S2, T2, r1.step s2, r2, (p2.n (n d e)).elimB⟩
theorem s_chn {op op' : CmpOp} {m m' : PV → PV → M Bool} (ho : OpR X (compareOp op) (rMB R m)) (n : ∀ x y, NoX (m x y)) (ho' : OpR X (compareOp op') (rMB R m')) (n' : ∀ x y, NoX (m' x y)) (hm : lastMarks [op, op'] [b, c] = false)
    (ha : PE X a (tM R G W ma)) (hb : PE X b (tM R G W mb)) (hc : PE X c (tM R G W mc)) :
    PE X (.Compare a [op, op'] [b, c] pos) (tM R G W fun ρ => M.bnd (ma ρ) fun x => M.bnd (mb ρ) fun y => M.bnd (m x y) fun k => if k then M.bnd (mc ρ) fun z => M.bnd (m' y z) fun k => M.ret (PV.bl k) else M.ret (PV.bl false)) :=
  (pe_chain ho ho' ha hb hc hm).imp fun σ H Q ⟨φ, st, ρ, S, E, T, h⟩ => tM.then (f := fun ρ x => M.bnd (mb ρ) fun y => M.bnd (m x y) fun k => if k then M.bnd (mc ρ) fun z => M.bnd (m' y z) fun k => M.ret (PV.bl k) else M.ret (PV.bl false)) S E T h fun φ1 st1 d v H1 s1 S1 E1 T1 r1 p1 =>
    tM.then (f := fun ρ y => M.bnd (m d y) fun k => if k then M.bnd (mc ρ) fun z => M.bnd (m' y z) fun k => M.ret (PV.bl k) else M.ret (PV.bl false)) S1 E1 T1 p1 fun φ2 st2 e u H2 s2 S2 E2 T2 r2 p2 => by
      have r1' := r1.step s2
      refine ⟨φ2, st2, d, e, S2, T2, r1', r2, PostN.mono (Post.n (Post.bnd (A := AB) p2) (n d e)) fun k H3 ⟨φ3, st3, k', s3, S3, T3, ek, p3⟩ => ⟨k, rfl, ?_⟩⟩
      have ek : k' = k := ek
      subst ek
      cases k' with
      | true =>
        simp only [if_true] at p3 ⊢
        exact tM.then (f := fun ρ z => M.bnd (m' e z) fun k => M.ret (PV.bl k)) S3 (E2.step s3) T3 p3 fun φ4 st4 f w H4 s4 S4 E4 T4 r4 p4 => ⟨φ4, st4, e, f, S4, T4, (r2.step s3).step s4, r4, rMB_of S4 (n' e f) p4⟩
      | false =>
        simp only [Bool.false_eq_true, if_false] at p3 ⊢
        exact p3 φ3 H3 _ (Step.refl _ _) S3 T3 rfl
theorem t_chn {op op' : CmpOp} {m m' : PV → PV → M Bool} (ho : OpR X (compareOp op) (rMB R m)) (n : ∀ x y, NoX (m x y)) (ho' : OpR X (compareOp op') (rMB R m')) (n' : ∀ x y, NoX (m' x y)) (hm : lastMarks [op, op'] [b, c] = false)
    (ha : PE X a (tM R G W ma)) (hb : PE X b (tM R G W mb)) (hc : PE X c (tM R G W mc)) :
    PT X (.Compare a [op, op'] [b, c] pos) (tMT R G W fun ρ => M.bnd (ma ρ) fun x => M.bnd (mb ρ) fun y => M.bnd (m x y) fun k => if k then M.bnd (mc ρ) fun z => m' y z else M.ret false) :=
  (pt_chain ho ho' ha hb hc hm).imp fun σ H Q ⟨φ, st, ρ, S, E, T, h⟩ => tM.then (f := fun ρ x => M.bnd (mb ρ) fun y => M.bnd (m x y) fun k => if k then M.bnd (mc ρ) fun z => m' y z else M.ret false) S E T h fun φ1 st1 d v H1 s1 S1 E1 T1 r1 p1 =>
    tM.then (f := fun ρ y => M.bnd (m d y) fun k => if k then M.bnd (mc ρ) fun z => m' y z else M.ret false) S1 E1 T1 p1 fun φ2 st2 e u H2 s2 S2 E2 T2 r2 p2 => by
      have r1' := r1.step s2
      refine ⟨φ2, st2, d, e, S2, T2, r1', r2, PostN.mono (Post.n (Post.bnd (A := AB) p2) (n d e)) fun k H3 ⟨φ3, st3, k', s3, S3, T3, ek, p3⟩ => ⟨k, rfl, ?_⟩⟩
      have ek : k' = k := ek
      subst ek
      cases k' with
      | true =>
        simp only [if_true] at p3 ⊢
        exact tM.then (f := fun ρ z => m' e z) S3 (E2.step s3) T3 p3 fun φ4 st4 f w H4 s4 S4 E4 T4 r4 p4 => ⟨φ4, st4, e, f, S4, T4, (r2.step s3).step s4, r4, (p4.n (n' e f)).elimB⟩
      | false =>
        simp only [Bool.false_eq_true, if_false] at p3 ⊢
        exact ⟨false, rfl, p3 φ3 H3 _ (Step.refl _ _) S3 T3 rfl⟩
def andM (x : PV) (m : M PV) : M PV := match x with
  | .bl true => m
  | .bl false => M.ret (PV.bl false)
  | _ => M.bad
def orM (x : PV) (m : M PV) : M PV := match x with
  | .bl false => m
  | .bl true => M.ret (PV.bl true)
  | _ => M.bad
def notM (x : PV) : M PV := match x with
  | .bl k => M.ret (PV.bl (!k))
  | _ => M.bad
def negM (x : PV) : M PV := match x with
  | .int i => M.ret (PV.int (-i))
  | _ => M.bad
variable {rest : List Expr} {mr : Env → M PV}
theorem s_and (ha : PE X a (tM R G W ma)) (hb : PE X (.BoolOp .And (b :: rest) pos) (tM R G W mr)) : PE X (.BoolOp .And (a :: b :: rest) pos) (tM R G W fun ρ => M.bnd (ma ρ) fun x => andM x (mr ρ)) :=
  (pe_and ha hb).imp fun σ H Q ⟨φ, st, ρ, S, E, T, h⟩ => tM.then (f := fun ρ x => andM x (mr ρ)) S E T h fun φ1 st1 d v H1 s1 S1 E1 T1 r1 p1 => by
    cases d with
    | bl k =>
      refine ⟨k, r1, ?_⟩
      cases k with
      | true => simp only [if_true]; exact ⟨φ1, st1, ρ, S1, E1, T1, p1⟩
      | false => simp only [Bool.false_eq_true, if_false]; exact p1 φ1 H1 _ (Step.refl _ _) S1 T1 rfl
    | _ => exact False.elim p1
theorem s_or (ha : PE X a (tM R G W ma)) (hb : PE X (.BoolOp .Or (b :: rest) pos) (tM R G W mr)) : PE X (.BoolOp .Or (a :: b :: rest) pos) (tM R G W fun ρ => M.bnd (ma ρ) fun x => orM x (mr ρ)) :=
  (pe_or ha hb).imp fun σ H Q ⟨φ, st, ρ, S, E, T, h⟩ => tM.then (f := fun ρ x => orM x (mr ρ)) S E T h fun φ1 st1 d v H1 s1 S1 E1 T1 r1 p1 => by
    cases d with
    | bl k =>
      refine ⟨k, r1, ?_⟩
      cases k with
      | true => simp only [if_true]; exact p1 φ1 H1 _ (Step.refl _ _) S1 T1 rfl
      | false => simp only [Bool.false_eq_true, if_false]; exact ⟨φ1, st1, ρ, S1, E1, T1, p1⟩
    | _ => exact False.elim p1
theorem s_not (ha : PE X a (tM R G W ma)) : PE X (.UnaryOp .Not a pos) (tM R G W fun ρ => M.bnd (ma ρ) notM) :=
  (pe_not ha).imp fun σ H Q ⟨φ, st, ρ, S, E, T, h⟩ => tM.then (f := fun ρ x => notM x) S E T h fun φ1 st1 d v H1 s1 S1 E1 T1 r1 p1 => by
    cases d with
    | bl k => exact ⟨k, r1, p1 φ1 H1 _ (Step.refl _ _) S1 T1 rfl⟩
    | _ => exact False.elim p1
theorem s_neg (ha : PE X a (tM R G W ma)) : PE X (.UnaryOp .USub a pos) (tM R G W fun ρ => M.bnd (ma ρ) negM) :=
  (pe_un un_neg ha).imp fun σ H Q ⟨φ, st, ρ, S, E, T, h⟩ => tM.then (f := fun ρ x => negM x) S E T h fun φ1 st1 d v H1 s1 S1 E1 T1 r1 p1 => by
    cases d with
    | int k => exact ⟨k, r1, p1 φ1 H1 _ (Step.refl _ _) S1 T1 rfl⟩
    | _ => exact False.elim p1
variable {mt mt' : Env → M Bool}
theorem tMT.then {α β : Type} {A : List Addr → Hp → α → β → Prop} {f : Env → Bool → M α} {φ : List Addr} {H : Hp} {σ : L2.St} {st : Sto} {ρ : Env} {Q : β → Hp → Prop} {Q1 : Bool → Hp → Prop} (S : RepS R φ st H) (E : RepE R G φ H ρ σ) (T : Tbs R H) (h : Post R W σ φ H A (M.bnd (mt ρ) (f ρ) st) Q)
    (k : ∀ φ1 st1 v H1, Step φ H φ1 H1 → RepS R φ1 st1 H1 → RepE R G φ1 H1 ρ σ → Tbs R H1 → Post R W σ φ1 H1 A (f ρ v st1) Q → Q1 v H1) : tMT R G W mt σ H Q1 :=
  ⟨φ, st, ρ, S, E, T, Post.mono (Post.bnd h) fun v H1 ⟨φ1, st1, d, s1, S1, T1, r1, p1⟩ => k φ1 st1 v H1 s1 S1 (E.step s1) T1 (by cases r1; exact p1)⟩
theorem s_ite (hc : PT X c (tMT R G W mt)) (ha : PE X a (tM R G W ma)) (hb : PE X b (tM R G W mb)) : PE X (.IfExp c a b pos) (tM R G W fun ρ => M.bnd (mt ρ) fun k => if k then ma ρ else mb ρ) :=
  (pe_ifExp hc ha hb).imp fun σ H Q ⟨φ, st, ρ, S, E, T, h⟩ => tMT.then (f := fun ρ k => if k then ma ρ else mb ρ) S E T h fun φ1 st1 k H1 s1 S1 E1 T1 p1 => by
    cases k with
    | true => simp only [if_true] at p1 ⊢; exact ⟨φ1, st1, ρ, S1, E1, T1, p1⟩
    | false => simp only [Bool.false_eq_true, if_false] at p1 ⊢; exact ⟨φ1, st1, ρ, S1, E1, T1, p1⟩
theorem t_and (ha : PT X a (tMT R G W mt)) (hb : PW X (.BoolOp .And (b :: rest) pos) (tMT R G W mt')) : PW X (.BoolOp .And (a :: b :: rest) pos) (tMT R G W fun ρ => M.bnd (mt ρ) fun k => if k then mt' ρ else M.ret false) :=
  PW.imp (pw_and ha hb) fun σ H Q ⟨φ, st, ρ, S, E, T, h⟩ => tMT.then (f := fun ρ k => if k then mt' ρ else M.ret false) S E T h fun φ1 st1 k H1 s1 S1 E1 T1 p1 => by
    cases k with
    | true => simp only [if_true] at p1 ⊢; exact ⟨φ1, st1, ρ, S1, E1, T1, p1⟩
    | false => simp only [Bool.false_eq_true, if_false] at p1 ⊢; exact p1 φ1 H1 _ (Step.refl _ _) S1 T1 rfl
theorem t_or (ha : PT X a (tMT R G W mt)) (hb : PW X (.BoolOp .Or (b :: rest) pos) (tMT R G W mt')) : PW X (.BoolOp .Or (a :: b :: rest) pos) (tMT R G W fun ρ => M.bnd (mt ρ) fun k => if k then M.ret true else mt' ρ) :=
  PW.imp (pw_or ha hb) fun σ H Q ⟨φ, st, ρ, S, E, T, h⟩ => tMT.then (f := fun ρ k => if k then M.ret true else mt' ρ) S E T h fun φ1 st1 k H1 s1 S1 E1 T1 p1 => by
    cases k with
    | true => simp only [if_true] at p1 ⊢; exact p1 φ1 H1 _ (Step.refl _ _) S1 T1 rfl
    | false => simp only [Bool.false_eq_true, if_false] at p1 ⊢; exact ⟨φ1, st1, ρ, S1, E1, T1, p1⟩
theorem t_not (ha : PT X a (tMT R G W mt)) : PT X (.UnaryOp .Not a pos) (tMT R G W fun ρ => M.bnd (mt ρ) fun k => M.ret (!k)) :=
  (pt_not ha).imp fun σ H Q ⟨φ, st, ρ, S, E, T, h⟩ => tMT.then (f := fun ρ k => M.ret (!k)) S E T h fun φ1 st1 k H1 s1 S1 E1 T1 p1 => p1 φ1 H1 _ (Step.refl _ _) S1 T1 rfl
theorem truth_ok (hK : R.K = X.K) {φ : List Addr} {H : Hp} {st : Sto} {d : PV} {x : V} {Q : Bool → Hp → Prop} (S : RepS R φ st H) (T : Tbs R H) (r : RepV R φ H d x) {σ : L2.St} (p : Post R W σ φ H AB (truth d st) Q) : ∃ k, TruV X.K x H k ∧ Q k H := by
  have go : ∀ k, Post R W σ φ H AB (.ok k st) Q → Q k H := fun k p => p φ H k (Step.refl _ _) S T rfl
  cases d with
  | non => cases r; exact ⟨_, rfl, go _ p⟩
  | bl b => cases r; exact ⟨_, rfl, go _ p⟩
  | int i => cases r; exact ⟨_, rfl, go _ p⟩
  | str z => obtain ⟨rfl, h⟩ := r; exact ⟨_, ⟨by rw [sz_eq]; exact okS_len h, rfl⟩, go _ p⟩
  | tup ds =>
    obtain ⟨a, vs, rfl, t, z, q⟩ := r
    refine ⟨_, .inr (.inl ⟨vs, by rw [← hK]; exact t.sq, rfl⟩), ?_⟩
    have e : (!vs.isEmpty) = !ds.isEmpty := by
      have := q.length
      cases ds <;> cases vs <;> simp_all
    rw [e]
    exact go _ p
  | lst ds =>
    obtain ⟨a, vs, rfl, t, z, q⟩ := r
    refine ⟨_, .inl ⟨vs, .inl (.inl t.1), rfl⟩, ?_⟩
    have e : (!vs.isEmpty) = !ds.isEmpty := by
      have := q.length
      cases ds <;> cases vs <;> simp_all
    rw [e]
    exact go _ p
  | loc n =>
    obtain ⟨a, ha, rfl⟩ := r
    unfold truth at p
    simp only at p
    cases q : st[n]? with
    | none => rw [q] at p; exact p.elim
    | some o =>
      rw [q] at p
      cases o with
      | lst xs =>
        obtain ⟨vs, h1, h2, h3⟩ := S.at_ n _ a q ha
        refine ⟨_, .inl ⟨vs, .inl (.inl h1), rfl⟩, ?_⟩
        have e : (!vs.isEmpty) = !xs.isEmpty := by
          have := h3.length
          cases xs <;> cases vs <;> simp_all
        rw [e]
        exact go _ p
      | _ => exact False.elim p
  | _ => exact False.elim p
theorem t_of (hK : R.K = X.K) (ha : PE X a (tM R G W ma)) (he : ∀ whole, isTrue a X.env whole = (do let v ← whole; standAt a.pos; holding [v] (truthy v))) : PT X a (tMT R G W fun ρ => M.bnd (ma ρ) truth) :=
  (pt_truth ha he).imp fun σ H Q ⟨φ, st, ρ, S, E, T, h⟩ => tM.then (f := fun ρ x => truth x) S E T h fun φ1 st1 d v H1 s1 S1 E1 T1 r1 p1 => truth_ok hK S1 T1 r1 p1
variable {es : List Expr} {ms : Env → M (List PV)}
theorem a_nil : PA X [] (tMA' R G W fun _ => M.ret []) := pa_nil.imp fun σ H Q ⟨φ, st, ρ, S, E, T, h⟩ => h φ H [] (Step.refl _ _) S T rfl
theorem a_cons (ha : PE X a (tM R G W ma)) (hr : PA X es (tMA' R G W ms)) (hs : starEach (a :: es) X.env = (false, eval a X.env) :: starEach es X.env) : PA X (a :: es) (tMA' R G W fun ρ => M.bnd (ma ρ) fun x => M.bnd (ms ρ) fun xs => M.ret (x :: xs)) :=
  (pa_cons ha hr hs).imp fun σ H Q ⟨φ, st, ρ, S, E, T, h⟩ => tM.then (f := fun ρ x => M.bnd (ms ρ) fun xs => M.ret (x :: xs)) S E T h fun φ1 st1 d v H1 s1 S1 E1 T1 r1 p1 =>
    ⟨φ1, st1, ρ, S1, E1, T1, Post.mono (Post.bnd p1) fun vs H2 ⟨φ2, st2, ds, s2, S2, T2, r2, p2⟩ => p2 φ2 H2 _ (Step.refl _ _) S2 T2 ⟨v, vs, rfl, r1.step s2, r2⟩⟩
theorem tMA.then {α β : Type} {A : List Addr → Hp → α → β → Prop} {f : Env → List PV → M α} {φ : List Addr} {H : Hp} {σ : L2.St} {st : Sto} {ρ : Env} {Q : β → Hp → Prop} {Q1 : List V → Hp → Prop} (S : RepS R φ st H) (E : RepE R G φ H ρ σ) (T : Tbs R H) (h : Post R W σ φ H A (M.bnd (ms ρ) (f ρ) st) Q)
    (k : ∀ φ1 st1 ds vs H1, Step φ H φ1 H1 → RepS R φ1 st1 H1 → RepE R G φ1 H1 ρ σ → Tbs R H1 → RepL R φ1 H1 ds vs → Post R W σ φ1 H1 A (f ρ ds st1) Q → Q1 vs H1) : tMA' R G W ms σ H Q1 :=
  ⟨φ, st, ρ, S, E, T, Post.mono (Post.bnd h) fun v H1 ⟨φ1, st1, d, s1, S1, T1, r1, p1⟩ => k φ1 st1 d v H1 s1 S1 (E.step s1) T1 r1 p1⟩
theorem s_tup {x1 : Nat} (h : PA X es (tMA' R G W ms)) : PE X (.Tuple es x1 pos) (tM R G W fun ρ => M.bnd (ms ρ) newT) :=
  (pe_tup h).imp fun σ H Q ⟨φ, st, ρ, S, E, T, h⟩ => tMA.then (f := fun ρ xs => newT xs) S E T h fun φ1 st1 ds vs H1 s1 S1 E1 T1 r1 p1 => by
    rw [sz_eq]
    exact newT_ok S1 T1 r1 (p1.n NoX.newT)
theorem s_lst {m : Bool} (h : PA X es (tMA' R G W ms)) : PE X (.List es pos) (tM R G W fun ρ => M.bnd (ms ρ) (newL m)) :=
  (pe_lst h).imp fun σ H Q ⟨φ, st, ρ, S, E, T, h⟩ => tMA.then (f := fun ρ xs => newL m xs) S E T h fun φ1 st1 ds vs H1 s1 S1 E1 T1 r1 p1 => by
    rw [sz_eq]
    exact newL_ok S1 T1 r1 (p1.n NoX.newL)
end
end Mp
namespace Mp
open PySem PySem.Spec PyProof.Rows L2
def gOf (X : Cx) : Gm := ⟨X.s_0.heap, X.H_0, X.fs⟩
def gAt (X : Cx) (s : Shared) (H : Hp) : Gm := ⟨s.heap, H, frs X.stack⟩
def g0 : Gm := ⟨⟨#[], default⟩, fun _ => none, []⟩
structure FnM (P : Program) (w : World) (K : PySem.W.Frag) (mg : Str → Option Value) (base : Heap) (R : Rc) (k : Nat) (f : Addr) (fd : FuncData) (ps : List Str) (m : List PV → M PV) : Prop where
  run : ∀ (hid : List Addr) (A : Around) (outer : List PySem.Env) (s : Shared) (H : Hp) (args : Args) (us : List Value) (vs : List V) (ds : List PV) (φ : List Addr) (st : Sto) (Q : VK) (E : XK), Room k A → Env0 P w K mg base A outer s H → BindsTo s fd args (ps.zip us) → Vals vs us → ds.length = ps.length →
    RepS (R.h hid) φ st H → Tbs R H → RepXL (R.h hid) ⟨s.heap, H, frs outer⟩ φ H ds vs → Post (R.h hid) (fun c d _ H => E c d H) [] φ H (RepV (R.h hid)) (m ds st) Q → codeAny (model P w) A (.call (.ref f) args) (CR (L2.CX P w) outer P w H s Q E) s
def spM (R : Rc) (n : Nat) (m : List PV → M PV) : Sp := fun vs H Q E => ∃ φ st ds, ds.length = n ∧ RepS R φ st H ∧ Tbs R H ∧ RepL R φ H ds vs ∧ Post R (fun c d _ H => E c d H) [] φ H (RepV R) (m ds st) Q
theorem FnM.ok {P : Program} {w : World} {K : PySem.W.Frag} {mg : Str → Option Value} {base : Heap} {R : Rc} {k : Nat} {f : Addr} {fd : FuncData} {ps : List Str} {m : List PV → M PV} (F : FnM P w K mg base R k f fd ps m) :
    FnOk P w K mg base (L2.CX P w) k f fd ps (spM R ps.length m) :=
  ⟨fun vs H Q E ⟨φ, st, ds, hl, S, T, r, p⟩ => by rw [← r.length]; exact hl,
    fun A outer s H args us vs Q E hr e0 hb r ⟨φ, st, ds, hl, S, T, rr, p⟩ => F.run R.hid A outer s H args us vs ds φ st Q E hr e0 hb r hl S T rr.x p⟩
theorem FnM.mono {P : Program} {w : World} {K : PySem.W.Frag} {mg : Str → Option Value} {base : Heap} {R : Rc} {j k : Nat} {f : Addr} {fd : FuncData} {ps : List Str} {m : List PV → M PV} (F : FnM P w K mg base R j f fd ps m) (h : j ≤ k) :
    FnM P w K mg base R k f fd ps m := ⟨fun hid A outer s H args us vs ds φ st Q E hr => F.run hid A outer s H args us vs ds φ st Q E (hr.mono h)⟩
theorem Post.wish {R : Rc} {W : WX} {σ : L2.St} {φ : List Addr} {H : Hp} {α β : Type} {A : List Addr → Hp → α → β → Prop} {o : Out α} {Q : β → Hp → Prop} (h : Post R W σ φ H A o Q) : Post R (fun c d _ H => W c d σ H) [] φ H A o Q := by
  cases o with
  | ok d st => exact h
  | exc c v s => exact h
  | bad => exact h
theorem CloAt.down {X : Cx} {pins : List (Addr × Obj)} {σ : L2.St} {H : Hp} {s : Shared} {R : Rc} {φ : List Addr} {f : Addr} {k : Nat} {vs : List V} (I : Inv X pins σ H s) (hx : X.ex = []) (h : CloAt R (gOf X) φ H f k vs) : CloAt R (gAt X s H) φ H f k vs := by
  obtain ⟨L, cl, c, pm, ctv, h1, h2, h3, h4, h5, h6, h7, h8⟩ := h
  have hex : ∀ b, b ∉ X.ex := fun b z => by rw [hx] at z; cases z
  have up : ∀ b o, X.s_0.heap.get? b = some o → b ∉ X.fs → b ∉ frs X.stack := fun b o e n z => by
    rcases List.mem_cons.mp (I.stkSub b z) with q | q
    · have h1 := Heap.lt_size e
      have h2 := I.ok.above
      rw [q] at h1
      exact absurd (Nat.lt_of_lt_of_le h1 h2) (Nat.lt_irrefl _)
    · exact n q
  refine ⟨L, cl, c, pm, ctv, h1, I.base.keep f _ h2 h3 h4 (hex f), I.base.free f _ h2 h3 (hex f), up f _ h2 h4, h5, NdefX.CellsAt.later h6 h7 (fun y a _ => hex a) I, fun y a e => ?_, h8⟩
  obtain ⟨_, v, o, ho, _⟩ := h6.all y a e
  exact up a o ho (h7 y a e)
mutual
theorem RepX.down {X : Cx} {pins : List (Addr × Obj)} {σ : L2.St} {H : Hp} {s : Shared} {R : Rc} {φ : List Addr} (I : Inv X pins σ H s) (hx : X.ex = []) : ∀ (d : PV) (v : V), RepX R (gOf X) φ H d v → RepX R (gAt X s H) φ H d v
  | .clo k cs, v, h => by
    obtain ⟨f, vs, e, t, r⟩ := h
    exact ⟨f, vs, e, t.down I hx, RepXL.down I hx cs vs r⟩
  | .non, v, h => h
  | .bl b, v, h => h
  | .int i, v, h => h
  | .str x, v, h => h
  | .tup ds, v, h => h
  | .lst ds, v, h => h
  | .loc n, v, h => h
  | .glo x, v, h => h
  | .scr ns, v, h => h
  | .exn c f ds, v, h => h
theorem RepXL.down {X : Cx} {pins : List (Addr × Obj)} {σ : L2.St} {H : Hp} {s : Shared} {R : Rc} {φ : List Addr} (I : Inv X pins σ H s) (hx : X.ex = []) : ∀ (ds : List PV) (vs : List V), RepXL R (gOf X) φ H ds vs → RepXL R (gAt X s H) φ H ds vs
  | [], _, h => h
  | d :: ds, vs, h => by
    obtain ⟨v, r, e, h1, h2⟩ := h
    exact ⟨v, r, e, RepX.down I hx d v h1, RepXL.down I hx ds r h2⟩
end
theorem RepXL.len_of {R : Rc} {G : Gm} {φ : List Addr} {H : Hp} {ds : List PV} {vs : List V} (h : RepXL R G φ H ds vs) : ds.length = vs.length := h.length
section
variable {X : Cx} {R : Rc} {W : WX} {k : Nat} {f : Addr} {fd : FuncData} {ps : List Str} {m : List PV → M PV} {dvs : List V} {dds : List Value} {dps : List PV}
theorem run_M {pins : List (Addr × Obj)} {σ : L2.St} {H : Hp} {s : Shared} {Q : VK} {us : List Value} {vs : List V} {ds : List PV} {φ : List Addr} {st : Sto} (F : FnM X.prog X.w X.K X.mg X.base R k f fd ps m) (hr : Room k X.A) (hb : Binds X.K fd ps dds) (hd : Vals dvs dds) (tk : Takes X W)
    (I : Inv X pins σ H s) (r : Vals vs us) (hl : (ds ++ dps).length = ps.length) (S : RepS R φ st H) (T : Tbs R H) (x : RepXL R (gAt X s H) φ H ds vs) (xd : RepL R φ H dps dvs) (p : Post R W σ φ H (RepV R) (m (ds ++ dps) st) Q) :
    wpAny (model X.prog X.w) X.A (call (.ref f) us) (EP X pins σ Q) X.xe s := by
  have r2 : Vals (vs ++ dvs) (us ++ dds) := r.append hd
  have x2 := x.append (RepL.x (G := gAt X s H) xd)
  have hl2 : (us ++ dds).length = ps.length := by rw [← r2.length, ← x2.length]; exact hl
  refine wpAny_call (codeAny_mono (F.run R.hid X.A X.stack s H ⟨us, []⟩ (us ++ dds) (vs ++ dvs) (ds ++ dps) φ st Q (fun c d H => W c d σ H) hr I.env0 (hb s us I.kIn hl2) r2 hl S T x2 p.wish) fun r s' hq => ?_)
  cases r with
  | error e => exact tk e s' (XE.of_call I (fun _ _ _ h => h) hq)
  | ok fl =>
    cases fl with
    | ret u => exact I.after hq
    | next => exact False.elim hq
    | brk => exact False.elim hq
    | cont => exact False.elim hq
def PX (X : Cx) (R : Rc) (W : WX) (es : List Expr) (ma : Env → M (List PV)) : Prop :=
  ∀ (pos : Pos) (pins : List (Addr × Obj)) (s : Shared) (σ : L2.St) (H : Hp) (φ : List Addr) (st : Sto) (ρ : Env) (g : List PV → M PV) (Q : VK), Inv X pins σ H s → RepS R φ st H → RepE R (gOf X) φ H ρ σ → Tbs R H → Post R W σ φ H (RepV R) (M.bnd (ma ρ) g st) Q →
    wpAny (model X.prog X.w) X.A (spliced (backTo pos (starEach es X.env))) (fun us s' => ∃ vs H' φ' st' ds, Inv X pins σ H' s' ∧ Vals vs us ∧ Step φ H φ' H' ∧ RepS R φ' st' H' ∧ Tbs R H' ∧ RepXL R (gAt X s' H') φ' H' ds vs ∧ Post R W σ φ' H' (RepV R) (g ds st') Q) X.xe s
theorem x_nil : PX X R W [] fun _ => M.ret [] := fun pos pins s σ H φ st ρ g Q I S E T p =>
  Calls.spliced_nil ⟨[], H, φ, st, [], I, .nil, Step.refl _ _, S, T, rfl, p⟩
theorem bnd_ret {α β γ : Type} {m : M α} {f : α → M β} {g : β → M γ} : M.bnd (M.bnd m f) g = M.bnd m fun x => M.bnd (f x) g := by
  funext s
  unfold M.bnd
  cases m s <;> rfl
theorem x_cons {a : Expr} {es : List Expr} {ma : Env → M PV} {ms : Env → M (List PV)} (ha : PE X a (tM R (gOf X) W ma)) (hr : PX X R W es ms) (hs : starEach (a :: es) X.env = (false, eval a X.env) :: starEach es X.env) :
    PX X R W (a :: es) fun ρ => M.bnd (ma ρ) fun x => M.bnd (ms ρ) fun xs => M.ret (x :: xs) := by
  intro pos pins s σ H φ st ρ g Q I S E T p
  rw [bnd_ret] at p
  rw [hs]
  show wpAny _ _ (spliced ((false, eval a X.env) :: backTo pos (starEach es X.env))) _ _ s
  refine Calls.spliced_cons (thn (ha.run pins s σ H (fun v H1 => ∃ φ1 st1 d, Step φ H φ1 H1 ∧ RepS R φ1 st1 H1 ∧ RepE R (gOf X) φ1 H1 ρ σ ∧ Tbs R H1 ∧ RepV R φ1 H1 d v ∧ Post R W σ φ1 H1 (RepV R) (M.bnd (M.bnd (ms ρ) fun xs => M.ret (d :: xs)) g st1) Q) I
    ⟨φ, st, ρ, S, E, T, Post.mono (Post.bnd p) fun v H1 ⟨φ1, st1, d, s1, S1, T1, r1, p1⟩ => ⟨φ1, st1, d, s1, S1, E.step s1, T1, r1, p1⟩⟩) fun u s1 ⟨x, H1, I1, rx, φ1, st1, d, s1', S1, E1, T1, r1, p1⟩ => ?_)
  rw [bnd_ret] at p1
  refine thn (hr pos pins s1 σ H1 φ1 st1 ρ (fun xs => M.bnd (M.ret (d :: xs)) g) Q I1 S1 E1 T1 p1) fun us s2 ⟨vs, H2, φ2, st2, ds, I2, rv, s2', S2, T2, x2, p2⟩ => ?_
  exact ⟨x :: vs, H2, φ2, st2, d :: ds, I2, .cons rx rv, s1'.trans s2', S2, T2, ⟨x, vs, rfl, (r1.step s2').x, x2⟩, p2⟩
theorem s_call {x : Str} {p pos : Pos} {e : Expr} {es : List Expr} {ma : Env → M (List PV)} (F : FnM X.prog X.w X.K X.mg X.base R k f fd ps m) (hn : ∀ ds st, m ds st ≠ .bad → ds.length = ps.length) (hr : Room k X.A) (hg : Gl X x) (hm : X.mg x = some (.ref f)) (hk : PySem.W.keepIn X.K (.ref f) = true)
    (hb : Binds X.K fd ps dds) (hd : Vals dvs dds) (xd : ∀ φ H, RepL R φ H dps dvs) (tk : Takes X W) (ha : PX X R W (e :: es) ma) (hdb : (x == ("__debug__" : Str)) = false) (he : starEach (e :: es) X.env = (false, eval e X.env) :: starEach es X.env) (hpl : (backTo pos (starEach es X.env)).any (·.1) = false) :
    PE X (.Call (.Name x p) (e :: es) [] pos) (tM R (gOf X) W fun ρ => M.bnd (ma ρ) fun xs => m (xs ++ dps)) := by
  refine ⟨fun pins s σ H Q I ⟨φ, st, ρ, S, E, T, h⟩ => ?_⟩
  refine wpAny_Call_Name_kw (ld_glob I hg hm ?_ hdb)
  refine PySem.W.callWith_K (h₀ := X.base) I.ok.mod.kin hk (thn (ha pos pins s σ H φ st ρ (fun xs => m (xs ++ dps)) Q I S E T h) fun us s1 ⟨vs, H1, φ1, st1, ds, I1, rv, s1', S1, T1, x1, p1⟩ => ⟨I1.kIn, ?_⟩) he hpl
  exact run_M F hr hb hd tk I1 rv (hn _ st1 fun z => by rw [z] at p1; exact p1) S1 T1 x1 (xd φ1 H1) p1
theorem s_call0 {x : Str} {p pos : Pos} (F : FnM X.prog X.w X.K X.mg X.base R k f fd ps m) (hn : ∀ ds st, m ds st ≠ .bad → ds.length = ps.length) (hr : Room k X.A) (hg : Gl X x) (hm : X.mg x = some (.ref f)) (hk : PySem.W.keepIn X.K (.ref f) = true)
    (hb : Binds X.K fd ps dds) (hd : Vals dvs dds) (xd : ∀ φ H, RepL R φ H dps dvs) (tk : Takes X W) (hdb : (x == ("__debug__" : Str)) = false) :
    PE X (.Call (.Name x p) [] [] pos) (tM R (gOf X) W fun ρ => M.bnd (M.ret []) fun xs => m (xs ++ dps)) := by
  refine ⟨fun pins s σ H Q I ⟨φ, st, ρ, S, E, T, h⟩ => ?_⟩
  refine wpAny_Call_Name_kw (ld_glob I hg hm ?_ hdb)
  have p1 : Post R W σ φ H (RepV R) (m ([] ++ dps) st) Q := h
  exact PySem.W.callWith_K0 I.kIn hk (run_M (us := []) (vs := []) (ds := []) F hr hb hd tk I .nil (hn _ st fun z => by rw [z] at p1; exact p1) S T rfl (xd φ H) p1)
end
end Mp
namespace Mp
open PySem PySem.Spec PyProof.Rows L2
section
variable {X : Cx} {R : Rc} {W : WX}
theorem x_fvar {i : Nat} {x : Str} {p : Pos} {es : List Expr} {ms : Env → M (List PV)} (hx : X.ex = []) (hN : X.N[i]? = some x) (hv : Vis X.env.scope x) (hd : (x == ("__debug__" : Str)) = false) (hcd : (x == ("__classdict__" : Str)) = false) (hr : PX X R W es ms) :
    PX X R W (.Name x p :: es) fun ρ => M.bnd (getX ρ i) fun d => M.bnd (ms ρ) fun xs => M.ret (d :: xs) := by
  intro pos pins s σ H φ st ρ g Q I S E T h
  rw [bnd_ret] at h
  show wpAny _ _ (spliced ((false, eval (.Name x p) X.env) :: backTo pos (starEach es X.env))) _ _ s
  unfold getX M.bnd at h
  cases e : ρ[i]? with
  | none => rw [e] at h; exact h.elim
  | some o =>
    cases o with
    | none => rw [e] at h; exact h.elim
    | some d =>
      rw [e] at h
      obtain ⟨v, h1, h2⟩ := E.at_ i d e
      refine Calls.spliced_cons (thn ((pe_var (pos := p) hN hv hd hcd).run pins s σ H (fun y H1 => y = v ∧ H1 = H) I ⟨v, h1, rfl, rfl⟩) fun u s1 ⟨y, H1, I1, ry, ey, eH⟩ => ?_)
      subst ey
      subst eH
      have h' : Post R W σ φ H1 (RepV R) (M.bnd (M.bnd (ms ρ) fun xs => M.ret (d :: xs)) g st) Q := h
      rw [bnd_ret] at h'
      refine thn (hr pos pins s1 σ H1 φ st ρ (fun xs => M.bnd (M.ret (d :: xs)) g) Q I1 S E T h') fun us s2 ⟨vs, H2, φ2, st2, ds, I2, rv, s2', S2, T2, x2, p2⟩ => ?_
      exact ⟨y :: vs, H2, φ2, st2, d :: ds, I2, .cons ry rv, s2', S2, T2, ⟨y, vs, rfl, RepX.down I2 hx d y (h2.step s2'), x2⟩, p2⟩
theorem caps_ok {φ : List Addr} {H : Hp} {ρ : Env} {σ : L2.St} {st : Sto} {G : Gm} (E : RepE R G φ H ρ σ) : ∀ {js : List Nat} {cs : List PV} {st' : Sto}, caps ρ js st = .ok cs st' → st' = st ∧ ∃ vs, js.map (NdefX.slotAt σ) = vs.map some ∧ RepXL R G φ H cs vs
  | [], _, _, e => by
    cases e
    exact ⟨rfl, [], rfl, rfl⟩
  | j :: js, cs, st', e => by
    unfold caps getX M.bnd at e
    cases q : ρ[j]? with
    | none => rw [q] at e; cases e
    | some o =>
      cases o with
      | none => rw [q] at e; cases e
      | some d =>
        rw [q] at e
        cases q2 : caps ρ js st with
        | ok xs s1 =>
          simp only [M.ret, q2] at e
          cases e
          obtain ⟨h1, vs, h2, h3⟩ := caps_ok E q2
          obtain ⟨v, g1, g2⟩ := E.at_ j d q
          exact ⟨h1, v :: vs, by rw [List.map_cons, List.map_cons, h2, NdefX.slotAt_of g1], ⟨v, vs, rfl, g2, h3⟩⟩
        | exc c v s1 =>
          simp only [M.ret, q2] at e
          cases e
        | bad =>
          simp only [M.ret, q2] at e
          cases e
structure LamOk (X : Cx) (R : Rc) (k : Nat) (L : LamD) (js : List Nat) : Prop where
  lam : R.lam k L
  qual : L.qual = X.env.qual ++ "<lambda>"
  free : ∀ y ∈ L.scope.names, y.2 = .free → X.env.scope.names.lookup y.1 = some .cell ∨ X.env.scope.names.lookup y.1 = some .free
  fr : ∀ y ∈ L.fr, (y, NameKind.free) ∈ L.scope.names
  js : js.map (fun j => X.N[j]?) = L.fr.map some
  ex : X.ex = []
  cf : ∀ (pins : List (Addr × Obj)) (σ : L2.St) (H : Hp) (s : Shared), Inv X pins σ H s → ∀ y c, X.env.cells.lookup y = some c → c ∉ X.fs
structure TabOk (X : Cx) (R : Rc) (c P : Addr) : Prop where
  tb : LamX.TabB X.base X.mg c P
  code : X.env.code = .ref c
  mem : (P, X.env.qual ++ "<lambda>") ∈ R.tabs
  one : ∀ p ∈ R.tabs, p.1 = P → p.2 = X.env.qual ++ "<lambda>"
theorem tab_step {φ : List Addr} {st : Sto} {H : Hp} {P c : Addr} {ps ps' : Array Value} {q : Str} (S : RepS R φ st H) (hP : H P = some (.tbl ps)) (hc : H c = none) (hp : ∃ more, ps' = ps ++ more) :
    Step φ H φ (upd (upd H P (.tbl ps')) c (LamX.CodeO c q)) ∧ RepS R φ st (upd (upd H P (.tbl ps')) c (LamX.CodeO c q)) := by
  have off : ∀ b o, H b = some o → b ≠ c := fun b o e z => by
    rw [z, hc] at e
    cases e
  have same : ∀ b, b ≠ P → b ≠ c → upd (upd H P (.tbl ps')) c (LamX.CodeO c q) b = H b := fun b h1 h2 => by
    rw [upd_ne h2, upd_ne h1]
  have sp : Step φ H φ (upd (upd H P (.tbl ps')) c (LamX.CodeO c q)) := by
    refine ⟨List.prefix_refl φ, fun b o e n t => ?_, fun b qs e n => ?_, fun _ m => .inl m⟩
    · have h1 : b ≠ P := fun z => by
        rw [z, hP] at e
        exact t ps (Option.some.inj e).symm
      exact (same b h1 (off b o e)).trans e
    · by_cases h1 : b = P
      · obtain ⟨more, rfl⟩ := hp
        rw [h1, hP] at e
        cases e
        exact ⟨more, by rw [h1, upd_ne (off P _ hP), upd_same]⟩
      · exact ⟨#[], by rw [same b h1 (off b _ e), e]; simp⟩
  refine ⟨sp, S.len, S.nd, fun n m a e1 e2 => ?_, fun D hD => by
    obtain ⟨h1, vs, h2⟩ := S.hd D hD
    refine ⟨h1, vs, ?_⟩
    rw [same D (fun z => by rw [z, hP] at h2; cases h2) (off D _ h2)]
    exact h2⟩
  have r := S.at_ n m a e1 e2
  obtain ⟨u, hu⟩ := r.tracked
  refine r.step sp (same a (fun z => ?_) (off a u hu))
  subst z
  cases m with
  | lst ds => obtain ⟨vs, h, _⟩ := r; rw [hP] at h; cases h
  | dct _ => rcases r with ⟨gs, h, _⟩ | ⟨gs, h, _⟩ <;> (rw [hP] at h; cases h)
  | ins c fs => obtain ⟨dx, gs, h, _⟩ := r; rw [hP] at h; cases h
theorem lam_new {c P : Addr} {k : Nat} {L : LamD} {js : List Nat} {lpos : Pos} {pins : List (Addr × Obj)} {σ : L2.St} {H : Hp} {s : Shared} {φ : List Addr} {st : Sto} {Q : Value → Shared → Prop} (B : TabOk X R c P) (Lk : LamOk X R k L js) (hdef : defaultsOf L.params X.env = ([], []))
    (I : Inv X pins σ H s) (S : RepS R φ st H) (T : Tbs R H)
    (h : ∀ (f c' : Addr) (pm ctv : Value) (H1 : Hp) (s' : Shared), Inv X pins σ H1 s' → Step φ H φ H1 → RepS R φ st H1 → Tbs R H1 →
      s'.heap.get? f = some (PySem.W.kla_obj "<lambda>" L.qual L.params L.body L.scope (cloFrom X.env.cells L.scope.names []) pm c' ctv) → H1 f = none → f ∉ X.fs → f ≠ X.env.locals → f ∉ frs X.stack → Own R φ H1 c' (LamX.CodeO c' L.qual) → Q (.ref f) s') :
    wpAny (model X.prog X.w) X.A (eval (.Lambda L.params L.body L.scope lpos) X.env) Q X.xe s := by
  obtain ⟨ps, hP, ht, ha⟩ := T _ B.mem
  have hfree : ∀ y ∈ L.scope.names, y.2 = .free → ∃ c, X.env.cells.lookup y.1 = some c := fun y hy e => (Lk.free y hy e).elim
    (fun z => I.ok.has _ (.inl z)) fun z => I.ok.has _ (.inr z)
  have bP : s.heap.BuiltinsAt X.mg P := B.tb.bm.keeps I.bk
  have gP : s.heap.get? P = some { cls := .none, data := .fields ps } := I.hok P _ hP
  have newer : ∀ f, s.heap.objs.size ≤ f → f ∉ X.fs ∧ f ≠ X.env.locals ∧ f ∉ frs X.stack := fun f hf => by
    have h1 : f ≠ X.env.locals := fun z => by
      have h1 := I.lt
      rw [← z] at h1
      exact Nat.lt_irrefl _ (Nat.lt_of_lt_of_le h1 hf)
    exact ⟨I.nofs hf, h1, fun z => (List.mem_cons.mp (I.stkSub _ z)).elim h1 (I.nofs hf)⟩
  have cne : ∀ c' ps', LamX.CodeO c' L.qual ≠ .tbl ps' := fun c' ps' => LamX.codeO_ne ps'
  refine PySem.W.kla_eval hdef ?_
  rw [← Lk.qual]
  cases hc : codeAmong lpos ps.toList with
  | some cv =>
    obtain ⟨c', e, hco⟩ := ha lpos cv hc
    subst e
    refine PySem.W.kla_makeFunctionHit (mg := X.mg) (c := c) (P := P) (ps := ps) (closure_ok hfree)
      I.ok.glob (I.mod.glob.keeps I.bk) B.code (B.tb.code.keeps I.bk) gP ht hc bP fun ctv h' tk hx hsz => ?_
    obtain ⟨n1, n2, n3⟩ := newer h'.objs.size hsz
    rw [← Lk.qual] at hco
    have I1 : Inv X pins σ H { s with heap := h'.push (PySem.W.kla_obj "<lambda>" L.qual L.params L.body L.scope (cloFrom X.env.cells L.scope.names []) ((X.mg "__name__").getD .none) c' ctv), toks := tk } :=
      I.kept fun b o e => Heap.get?_push_of_some _ (hx b o e)
    refine h h'.objs.size c' _ ctv H _ I1 (Step.refl φ H) S T (Heap.get?_push_size _ rfl) (I.hok.fresh hsz) n1 n2 n3 ⟨hco, ⟨fun m => ?_, fun m => by
      obtain ⟨_, vs, e⟩ := S.hd c' m
      rw [hco] at e
      cases e⟩, cne c'⟩
    obtain ⟨n, e⟩ := List.mem_iff_getElem?.mp m
    obtain ⟨hn, _⟩ := List.getElem?_eq_some_iff.mp e
    have hl := S.len
    have r := S.at_ n st[n] c' (List.getElem?_eq_getElem (by omega)) e
    cases hm : st[n] with
    | lst ds => rw [hm] at r; obtain ⟨vs, h, _⟩ := r; rw [hco] at h; cases h
    | dct _ => rw [hm] at r; rcases r with ⟨gs, h, _⟩ | ⟨gs, h, _⟩ <;> (rw [hco] at h; cases h)
    | ins c fs => rw [hm] at r; obtain ⟨dx, gs, h, _⟩ := r; rw [hco] at h; cases h
  | none =>
    refine PySem.W.kla_makeFunction (mg := X.mg) (c := c) (P := P) (ps := ps) (closure_ok hfree)
      I.ok.glob (I.mod.glob.keeps I.bk) B.code (B.tb.code.keeps I.bk) gP ht hc B.tb.gP bP fun c' ctv h' tk hx hge hlt hrec htb => ?_
    obtain ⟨c2, oc, vs, t, e2, hoc, hd, hv⟩ := hrec
    cases e2
    have hsz : s.heap.objs.size ≤ h'.objs.size := Nat.le_trans hge (Nat.le_of_lt hlt)
    obtain ⟨n1, n2, n3⟩ := newer h'.objs.size hsz
    have nC : H c' = none := I.hok.fresh hge
    have I1 := LamX.inv_table (t' := tk) (more := #[rawInt lpos.line, rawInt lpos.col, .ref c'])
      (h' := h'.push (PySem.W.kla_obj "<lambda>" L.qual L.params L.body L.scope (cloFrom X.env.cells L.scope.names []) ((X.mg "__name__").getD .none) c' ctv)) I hP
      (fun b o hb e => Heap.get?_push_of_some _ (hx b o hb e)) (Heap.get?_push_of_some _ htb) hge ⟨oc, vs, t, Heap.get?_push_of_some _ hoc, hd, hv⟩
    obtain ⟨s1, S1⟩ := tab_step (q := L.qual) S hP nC ⟨#[rawInt lpos.line, rawInt lpos.col, .ref c'], rfl⟩
    have kept : ∀ d q, H d = some (LamX.CodeO d q) → upd (upd H P (.tbl (ps ++ #[rawInt lpos.line, rawInt lpos.col, .ref c']))) c' (LamX.CodeO c' L.qual) d = some (LamX.CodeO d q) := fun d q e => by
      rw [upd_ne (ne_of_none e nC), upd_ne (fun z => by rw [z, hP] at e; exact LamX.codeO_ne ps (Option.some.inj e).symm)]
      exact e
    have eL : (ps ++ #[rawInt lpos.line, rawInt lpos.col, .ref c']).toList = ps.toList ++ [rawInt lpos.line, rawInt lpos.col, .ref c'] := by simp
    refine h h'.objs.size c' _ ctv _ _ I1 s1 S1 (fun p hp => ?_) (Heap.get?_push_size _ rfl) ?_ n1 n2 n3 ⟨upd_same, S.fresh nC, cne c'⟩
    · by_cases hb : p.1 = P
      · refine ⟨ps ++ #[rawInt lpos.line, rawInt lpos.col, .ref c'], ?_, ?_, fun p' cv hcv => ?_⟩
        · rw [hb, upd_ne (ne_of_none hP nC), upd_same]
        · rw [eL]
          exact PySem.TriplesOk_snoc _ _ _ _ ht
        · rw [eL] at hcv
          rw [B.one p hp hb]
          rcases LamX.among_app _ ht hcv with z | z
          · obtain ⟨c0, e1, e2⟩ := ha p' cv z
            exact ⟨c0, e1, kept c0 _ e2⟩
          · exact ⟨c', z, by rw [upd_same, Lk.qual]⟩
      · obtain ⟨ps', a1, a2, a3⟩ := T p hp
        refine ⟨ps', ?_, a2, fun p' cv hcv => ?_⟩
        · rw [upd_ne (ne_of_none a1 nC), upd_ne hb]
          exact a1
        · obtain ⟨c0, e1, e2⟩ := a3 p' cv hcv
          exact ⟨c0, e1, kept c0 _ e2⟩
    · rw [upd_ne (Nat.ne_of_gt hlt), upd_ne (Nat.ne_of_gt (Nat.lt_of_lt_of_le (Heap.lt_size gP) hsz))]
      exact I.hok.fresh hsz
theorem NoX.caps {ρ : Env} : ∀ {js : List Nat}, NoX (caps ρ js)
  | [] => NoX.ret _
  | j :: js => by
    unfold Mp.caps
    refine NoX.bnd ?_ fun x => NoX.bnd NoX.caps fun _ => NoX.ret _
    unfold getX
    split
    · exact NoX.ret _
    · exact NoX.bad
theorem x_lam {c P : Addr} {k : Nat} {L : LamD} {js : List Nat} {lpos : Pos} {es : List Expr} {ms : Env → M (List PV)} (B : TabOk X R c P) (Lk : LamOk X R k L js) (hdef : defaultsOf L.params X.env = ([], [])) (hr : PX X R W es ms) :
    PX X R W (.Lambda L.params L.body L.scope lpos :: es) fun ρ => M.bnd (caps ρ js) fun cs => M.bnd (ms ρ) fun xs => M.ret (.clo k cs :: xs) := by
  intro pos pins s σ H φ st ρ g Q I S E T h
  rw [bnd_ret] at h
  show wpAny _ _ (spliced ((false, eval (.Lambda L.params L.body L.scope lpos) X.env) :: backTo pos (starEach es X.env))) _ _ s
  cases e : caps ρ js st with
  | exc c v s1 => exact (NoX.caps _ _ _ _ e).elim
  | bad =>
    unfold M.bnd at h
    rw [e] at h
    exact h.elim
  | ok cs st1 =>
    obtain ⟨rfl, vs, hv, xv⟩ := caps_ok E e
    have h : Post R W σ φ H (RepV R) (M.bnd (M.bnd (ms ρ) fun xs => M.ret (.clo k cs :: xs)) g st1) Q := by
      unfold M.bnd at h
      rw [e] at h
      exact h
    rw [bnd_ret] at h
    refine Calls.spliced_cons (lam_new B Lk hdef I S T fun f c' pm ctv H1 s1 I1 s1' S1 T1 hf hn n1 n2 n3 hco => ?_)
    have I1' : Inv X (pins ++ [(f, PySem.W.kla_obj "<lambda>" L.qual L.params L.body L.scope (cloFrom X.env.cells L.scope.names []) pm c' ctv)]) σ H1 s1 := I1.pins_of fun p hp => by
      rcases List.mem_append.mp hp with z | z
      · exact I1.pin p (List.mem_append_right _ z)
      · simp at z
        subst z
        exact ⟨hf, hn, n2, n1, fun v q => by cases q⟩
    refine thn (hr pos _ s1 σ H1 φ st1 ρ (fun xs => M.bnd (M.ret (.clo k cs :: xs)) g) Q I1' S1 (E.step s1') T1 (h.step s1')) fun us s2 ⟨ws, H2, φ2, st2, ds, I2, rv, s2', S2, T2, x2, p2⟩ => ?_
    have I2p : Inv X pins σ H2 s2 := I2.pins_of fun p hp => I2.pin p (List.mem_append_right _ (List.mem_append_left _ hp))
    obtain ⟨f1, f2, f3, f4, f5⟩ := I2.pin (f, PySem.W.kla_obj "<lambda>" L.qual L.params L.body L.scope (cloFrom X.env.cells L.scope.names []) pm c' ctv) (List.mem_append_right _ (List.mem_append_right _ (List.mem_singleton.mpr rfl)))
    have cp : NdefX.Caps X (cloFrom X.env.cells L.scope.names []) L.fr js := NdefX.Caps.made I2.ok Lk.free Lk.fr Lk.js
    have ca := NdefX.cells_of I2p cp
    rw [hv] at ca
    have hl : vs.length = L.fr.length := by
      have q := ca.len
      rw [List.length_map] at q
      exact q
    refine ⟨.ref f :: ws, H2, φ2, st2, .clo k cs :: ds, I2p, .cons rfl rv, s1'.trans s2', S2, T2, ⟨.ref f, ws, rfl, ⟨f, vs, rfl, ?_, RepXL.down I2p Lk.ex cs vs (RepXL.step (s1'.trans s2') cs vs xv)⟩, x2⟩, p2⟩
    refine ⟨L, _, c', pm, ctv, Lk.lam, f1, f2, n3, hco.step s2', ca, fun y a e => ?_, hl⟩
    have ea := cp.sub y a e
    exact fun z => (List.mem_cons.mp (I2p.stkSub _ z)).elim (I2p.cne y a ea) (Lk.cf pins σ H2 s2 I2p y a ea)
end
section
variable {P : Program} {w : World} {K : PySem.W.Frag} {mg : Str → Option Value} {base : Heap} {R : Rc}
abbrev nfOf (L : LamD) (cl : List (Str × Addr)) (c : Addr) : NdefX.NF := ⟨"<lambda>", L.qual, L.params, [], L.scope, cl, c⟩
abbrev lcx (P : Program) (w : World) (K : PySem.W.Frag) (mg : Str → Option Value) (base : Heap) (N : List Str) (L : LamD) (cl : List (Str × Addr)) (c f : Addr) (A : Around) (outer : List PySem.Env) (s : Shared) (H : Hp) (E : XK) : Cx :=
  NdefX.ncx (L2.CX P w) P w K mg base N (nfOf L cl c) f A outer s H E
theorem zip_len {α β : Type} {xs : List α} {ys : List β} : (xs.zip ys).length ≤ xs.length := by
  rw [List.length_zip]
  exact Nat.min_le_left _ _
theorem clo_run {np nl nc k : Nat} {mb : Env → M PV} {n : Nat} (hA : ∀ L : LamD, R.lam k L → ∃ N ps : List Str, ps.length = np ∧ N.length = nl ∧ L.fr.length = nc ∧ NdefX.NScope N ps L.fr L.scope ∧
      (∀ (cl : List (Str × Addr)) (pm cv ctv : Value) (us : List Value), us.length = ps.length → bindArgs (PySem.W.kla_fn "<lambda>" L.qual L.params L.body L.scope cl pm cv ctv) ⟨us, []⟩ = pure (ps.zip us)) ∧
      ∀ (cl : List (Str × Addr)) (c f : Addr) (A : Around) (outer : List PySem.Env) (s : Shared) (H : Hp) (E : XK), Room n (A.deeper (NdefX.envF (nfOf L cl c) f s.heap.objs.size)) → (∀ y a, cl.lookup y = some a → a ∉ frs outer) →
        PE (lcx P w K mg base N L cl c f A outer s H E) L.body (tM R (gOf (lcx P w K mg base N L cl c f A outer s H E)) (fun c d _ H => E c d H) mb))
    {f : Addr} {A : Around} {outer : List PySem.Env} {s : Shared} {H : Hp} {φ : List Addr} {st : Sto} {vs avs : List V} {cs ds : List PV} {us : List Value} {Q : VK} {E : XK} (hr : Room (n + 1) A) (e0 : Env0 P w K mg base A outer s H) (C : CloAt R ⟨s.heap, H, frs outer⟩ φ H f k vs)
    (xc : RepXL R ⟨s.heap, H, frs outer⟩ φ H cs vs) (rv : Vals avs us) (xa : RepL R φ H ds avs) (hl : ds.length = np) (S : RepS R φ st H) (T : Tbs R H)
    (p : Post R (fun c d _ H => E c d H) [] φ H (RepV R) (mb ((ds ++ cs).map some ++ List.replicate (nl - np - nc) none) st) Q) :
    codeAny (model P w) A (.call (.ref f) ⟨us, []⟩) (CR (L2.CX P w) outer P w H s Q E) s := by
  obtain ⟨L, cl, c, pm, ctv, h1, h2, h3, h4, h5, h6, h7, h8⟩ := C
  obtain ⟨N, ps, e1, e2, e3, Sc, hbind, hbody⟩ := hA L h1
  subst e1
  subst e2
  subst e3
  have lim : s.heap.NoLimit := e0.mod.nolimit.keeps fun b o e => (e0.bs b o e).1
  have hul : us.length = ps.length := by rw [← rv.length, ← xa.length]; exact hl
  refine PySem.W.kla_callFunE hr.depth h2 rfl Sc.co Sc.gen rfl (NdefX.codeO_at e0.hok h5.1) ?_
  rw [hbind cl pm (.ref c) ctv us hul]
  refine wpAny_pure (wpAny_newFunctionEnv Sc.nocell (fun ⟨nm, _⟩ hy => Sc.par nm (List.of_mem_zip hy).1) (fun h₁ hns hsb => ⟨lim.fresh _ hsb, ?_⟩) Sc.kind)
  show codeAny _ _ (.expr L.body (NdefX.envF (nfOf L cl c) f s.heap.objs.size)) _ _
  have kp : ∀ b o, s.heap.get? b = some o → h₁.get? b = some o := fun b o e => hsb.extBut b o (Nat.ne_of_lt (Heap.lt_size e)) (Heap.get?_push_of_some _ e)
  have hvl : avs.length = ps.length := by rw [← xa.length]; exact hl
  have I : Inv (lcx P w K mg base N L cl c f A outer s H E) [] (NdefX.startF N avs (vs.map some)) H { s with heap := h₁, toks := s.toks + (ps.zip us).length } :=
    NdefX.inv_startN Sc hr.hd e0 hvl rv h6 hns kp
  have hcl : cs.length = L.fr.length := by rw [xc.length]; exact h8
  have pe := hbody cl c f A outer s H E (hr.deeper _) h7
  have sc : (NdefX.startF N avs (vs.map some)) = (avs ++ vs).map some ++ List.replicate (N.length - ps.length - L.fr.length) none := by
    unfold NdefX.startF
    rw [List.length_map, hvl, h8, List.map_append, List.append_assoc]
  have xx : RepXL R (gOf (lcx P w K mg base N L cl c f A outer s H E)) φ H (ds ++ cs) (avs ++ vs) := (RepL.x xa).append xc
  have E1 : RepE R (gOf (lcx P w K mg base N L cl c f A outer s H E)) φ H ((ds ++ cs).map some ++ List.replicate (N.length - ps.length - L.fr.length) none) (NdefX.startF N avs (vs.map some)) := by
    rw [sc]
    have hll := xx.length
    refine ⟨by rw [List.length_append, List.length_append, List.length_map, List.length_map, hll, List.length_replicate, List.length_replicate], fun i d e => ?_⟩
    by_cases hi : i < (ds ++ cs).length
    · rw [List.getElem?_append_left (by rw [List.length_map]; exact hi), List.getElem?_map] at e
      cases q : (ds ++ cs)[i]? with
      | none => rw [q] at e; cases e
      | some d' =>
        rw [q] at e
        cases e
        obtain ⟨v, g1, g2⟩ := xx.get q
        refine ⟨v, ?_, g2⟩
        rw [List.getElem?_append_left (by rw [List.length_map, ← hll]; exact hi), List.getElem?_map, g1]
        rfl
    · rw [List.getElem?_append_right (by rw [List.length_map]; omega), List.getElem?_replicate] at e
      split at e <;> cases e
  have tk : Post R (fun c d _ H => E c d H) (NdefX.startF N avs (vs.map some)) φ H (RepV R) (mb ((ds ++ cs).map some ++ List.replicate (N.length - ps.length - L.fr.length) none) st) Q := by
    cases q : mb ((ds ++ cs).map some ++ List.replicate (N.length - ps.length - L.fr.length) none) st with
    | ok d st' => rw [q] at p; exact p
    | exc c v st' => rw [q] at p; exact p
    | bad => rw [q] at p; exact p
  refine PySem.W.kla_codeExpr (wpAny_mono (pe.run [] _ _ H Q I ⟨φ, st, _, S, E1, T, tk⟩) (fun v s' hq => ?_) fun e s' hq => hq)
  obtain ⟨w', H', J', rv', q⟩ := hq
  exact ⟨w', H', J'.os, J'.bare, J'.base, J'.hok, rv', q⟩
end
section
variable {X : Cx} {R : Rc} {W : WX}
def CloM (P : Program) (w : World) (K : PySem.W.Frag) (mg : Str → Option Value) (base : Heap) (R : Rc) (n : Nat) (m : Nat → List PV → List PV → M PV) : Prop :=
  ∀ (hid : List Addr) (kk : Nat) (f : Addr) (A : Around) (outer : List PySem.Env) (s : Shared) (H : Hp) (φ : List Addr) (st : Sto) (vs avs : List V) (cs ds : List PV) (us : List Value) (Q : VK) (E : XK), Room n A → Env0 P w K mg base A outer s H → CloAt (R.h hid) ⟨s.heap, H, frs outer⟩ φ H f kk vs →
    RepXL (R.h hid) ⟨s.heap, H, frs outer⟩ φ H cs vs → Vals avs us → RepL (R.h hid) φ H ds avs → RepS (R.h hid) φ st H → Tbs R H → Post (R.h hid) (fun c d _ H => E c d H) [] φ H (RepV (R.h hid)) (m kk cs ds st) Q → codeAny (model P w) A (.call (.ref f) ⟨us, []⟩) (CR (L2.CX P w) outer P w H s Q E) s
def cloM (x : PV) (k : Nat → List PV → M PV) : M PV := match x with
  | .clo j cs => k j cs
  | _ => M.bad
theorem fn_at {G : Gm} {φ : List Addr} {H : Hp} {f : Addr} {k : Nat} {vs : List V} {s : Shared} (h : CloAt R ⟨s.heap, H, frs X.stack⟩ φ H f k vs) : PySem.W.FnAt f s.heap := by
  obtain ⟨L, cl, c, pm, ctv, _, h2, _⟩ := h
  exact ⟨_, _, _, _, h2⟩
theorem clo_call {n : Nat} {m : Nat → List PV → List PV → M PV} {pins : List (Addr × Obj)} {σ : L2.St} {H : Hp} {s : Shared} {φ : List Addr} {st : Sto} {Q : VK} {kk : Nat} {f : Addr} {vs avs : List V} {cs ds : List PV} {us : List Value} (F : CloM X.prog X.w X.K X.mg X.base R n m) (hr : Room n X.A) (tk : Takes X W)
    (I : Inv X pins σ H s) (C : CloAt R (gAt X s H) φ H f kk vs) (xc : RepXL R (gAt X s H) φ H cs vs) (rv : Vals avs us) (xa : RepL R φ H ds avs) (S : RepS R φ st H) (T : Tbs R H) (p : Post R W σ φ H (RepV R) (m kk cs ds st) Q) :
    wpAny (model X.prog X.w) X.A (call (.ref f) us) (EP X pins σ Q) X.xe s := by
  refine wpAny_call (codeAny_mono (F R.hid kk f X.A X.stack s H φ st vs avs cs ds us Q (fun c d H => W c d σ H) hr I.env0 C xc rv xa S T p.wish) fun r s' hq => ?_)
  cases r with
  | error e => exact tk e s' (XE.of_call I (fun _ _ _ h => h) hq)
  | ok fl =>
    cases fl with
    | ret u => exact I.after hq
    | next => exact False.elim hq
    | brk => exact False.elim hq
    | cont => exact False.elim hq
theorem getX_ok {G : Gm} {φ : List Addr} {H : Hp} {ρ : Env} {σ : L2.St} {st : Sto} {i : Nat} {f : PV → M PV} {Q : VK} (E : RepE R G φ H ρ σ) (h : Post R W σ φ H (RepV R) (M.bnd (getX ρ i) f st) Q) :
    ∃ d v, σ[i]? = some (some v) ∧ RepX R G φ H d v ∧ Post R W σ φ H (RepV R) (f d st) Q := by
  unfold getX M.bnd at h
  cases q : ρ[i]? with
  | none => rw [q] at h; exact h.elim
  | some o =>
    cases o with
    | none => rw [q] at h; exact h.elim
    | some d =>
      rw [q] at h
      obtain ⟨v, h1, h2⟩ := E.at_ i d q
      exact ⟨d, v, h1, h2, h⟩
theorem s_callV {n : Nat} {m : Nat → List PV → List PV → M PV} {i : Nat} {x : Str} {p pos : Pos} {e : Expr} {es : List Expr} {ms : Env → M (List PV)} (F : CloM X.prog X.w X.K X.mg X.base R n m) (hr : Room n X.A) (tk : Takes X W) (hx : X.ex = []) (hN : X.N[i]? = some x) (hv : Vis X.env.scope x)
    (hd : (x == ("__debug__" : Str)) = false) (hcd : (x == ("__classdict__" : Str)) = false) (ha : PA X (e :: es) (tMA' R (gOf X) W ms)) (he : starEach (e :: es) X.env = (false, eval e X.env) :: starEach es X.env) (hpl : (backTo pos (starEach es X.env)).any (·.1) = false) :
    PE X (.Call (.Name x p) (e :: es) [] pos) (tM R (gOf X) W fun ρ => M.bnd (getX ρ i) fun f => cloM f fun k cs => M.bnd (ms ρ) (m k cs)) := by
  refine ⟨fun pins s σ H Q I ⟨φ, st, ρ, S, E, T, h⟩ => ?_⟩
  obtain ⟨d, v, h1, h2, h⟩ := getX_ok E h
  cases d with
  | clo kk cs =>
        obtain ⟨f, vs, rfl, C, xc⟩ := h2
        have h : Post R W σ φ H (RepV R) (M.bnd (ms ρ) (m kk cs) st) Q := h
        refine wpAny_Call_Name_kw (thn ((pe_var (pos := p) hN hv hd hcd).run pins s σ H (fun v H1 => v = .ref f ∧ H1 = H) I ⟨.ref f, h1, rfl, rfl⟩) fun u s1 ⟨v, H1, I1, r1, ev, eH⟩ => ?_)
        subst ev
        subst eH
        obtain rfl : u = Value.ref f := r1
        have C1 := C.down I1 hx
        refine PySem.W.callWith_F (first := []) (fn_at (G := gOf X) C1) (thn (ha.run pos pins s1 σ H1 (fun vs2 H2 => ∃ φ1 st1 ds, Step φ H1 φ1 H2 ∧ RepS R φ1 st1 H2 ∧ Tbs R H2 ∧ RepL R φ1 H2 ds vs2 ∧ Post R W σ φ1 H2 (RepV R) (m kk cs ds st1) Q) I1 ⟨φ, st, ρ, S, E, T, Post.bnd h⟩) fun us s2 ⟨avs, H2, I2, rv, φ1, st1, ds, sp, S1, T1, xa, p1⟩ => ?_) he hpl
        have C2 := (C.step sp).down I2 hx
        refine ⟨fn_at (G := gOf X) C2, ?_⟩
        exact clo_call F hr tk I2 C2 (RepXL.down I2 hx cs vs (RepXL.step sp cs vs xc)) rv xa S1 T1 p1
  | _ => exact False.elim h
end
end Mp
namespace Mp
open PySem PySem.Spec PyProof.Rows L2
structure Fr where
  σ0 : L2.St
  vs : List Nat
def Ag (F : Fr) (σ : L2.St) : Prop := σ.length = F.σ0.length ∧ ∀ j, j ∉ F.vs → σ[j]? = F.σ0[j]?
theorem Ag.set {F : Fr} {σ : L2.St} (h : Ag F σ) {i : Nat} (hi : i ∈ F.vs) (v : Option V) : Ag F (σ.set i v) :=
  ⟨by rw [List.length_set]; exact h.1, fun j hj => by rw [List.getElem?_set_ne (fun z : i = j => hj (by rw [← z]; exact hi))]; exact h.2 j hj⟩
structure RepT (R : Rc) (G : Gm) (F : Fr) (φ : List Addr) (H : Hp) (ρ : Env) (σ' : L2.St) : Prop where
  e : RepE R G φ H ρ σ'
  ag : Ag F σ'
def WF (W : WX) (F : Fr) : WX := fun c d _ H => ∀ σ', Ag F σ' → W c d σ' H
def tG (R : Rc) (G : Gm) (W : WX) (F : Fr) (m : PV → Env → M Env) : TG := fun v σ H Q => ∃ φ st ρ d, RepS R φ st H ∧ RepE R G φ H ρ σ ∧ Ag F σ ∧ Tbs R H ∧ RepV R φ H d v ∧ Post R (WF W F) [] φ H (RepT R G F) (m d ρ st) Q
def tGs (R : Rc) (G : Gm) (W : WX) (F : Fr) (m : List PV → Env → M Env) : TGs := fun v σ H Q => ∃ φ st ρ d, RepS R φ st H ∧ RepE R G φ H ρ σ ∧ Ag F σ ∧ Tbs R H ∧ RepL R φ H d v ∧ Post R (WF W F) [] φ H (RepT R G F) (m d ρ st) Q
section
variable {X : Cx} {R : Rc} {G : Gm} {W : WX} {F : Fr}
theorem _root_.L2.PG.imp {e : Expr} {t t' : TG} (h : PG X e t) (k : ∀ v σ H Q, t' v σ H Q → t v σ H Q) : PG X e t' := ⟨fun pins s σ H v u Q I r q => h.run pins s σ H v u Q I r (k v σ H Q q)⟩
theorem g_name {i : Nat} {x : Str} {pos : Pos} (hv : i ∈ F.vs) (hN : X.N.Nodup) (hi : X.N[i]? = some x) (hx : Loc X.env.scope x) (hf : X.fn x = true ∨ X.env.scope.names.lookup x = some .local) : PG X (.Name x pos) (tG R G W F fun v ρ => M.ret (ρ.set i (some v))) :=
  (pg_name hN hi hx hf).imp fun v σ H Q ⟨φ, st, ρ, d, S, E, ag, T, r, h⟩ => h φ H _ (Step.refl _ _) S T ⟨E.set i r.x, ag.set hv _⟩
theorem Post.wf {α β : Type} {A : List Addr → Hp → α → β → Prop} {φ : List Addr} {H : Hp} {o : Out α} {Q : β → Hp → Prop} {σ : L2.St} (ag : Ag F σ) (h : Post R (WF W F) [] φ H A o Q) : Post R W σ φ H A o Q := by
  cases o with
  | ok d st => exact h
  | exc c vs st => exact fun φ' H' dx a b c e => h φ' H' dx a b c e σ ag
  | bad => exact h
end
def endP (R : Rc) (D : Ends) (φ : List Addr) (H : Hp) (f : Fl) (σ : L2.St) : Prop := match f with
  | .nx => D.nx σ H
  | .brk => D.bk σ H
  | .cnt => D.ct σ H
  | .ret d => ∀ v, RepV R φ H d v → D.rt v H
def PostS (R : Rc) (G : Gm) (W : WX) (F : Fr) (φ : List Addr) (H : Hp) (o : Out (Fl × Env)) (D : Ends) : Prop := match o with
  | .ok q st => ∀ φ' H' σ', Step φ H φ' H' → RepS R φ' st H' → Tbs R H' → RepE R G φ' H' q.2 σ' → Ag F σ' → endP R D φ' H' q.1 σ'
  | .exc c vs st => ∀ φ' H' dx, Step φ H φ' H' → RepS R φ' st H' → Tbs R H' → XRep R φ' H' c vs dx → ∀ σ', Ag F σ' → W (.ref (R.cad c)) dx σ' H'
  | .bad => False
def tS (R : Rc) (G : Gm) (W : WX) (F : Fr) (m : Env → M (Fl × Env)) : TS := fun D σ H => ∃ φ st ρ, RepS R φ st H ∧ RepE R G φ H ρ σ ∧ Ag F σ ∧ Tbs R H ∧ PostS R G W F φ H (m ρ st) D
section
variable {X : Cx} {R : Rc} {G : Gm} {W : WX} {F : Fr} {D : Ends} {φ : List Addr} {H : Hp} {σ : L2.St} {st : Sto} {ρ : Env}
theorem PostS.step {o : Out (Fl × Env)} {φ1 : List Addr} {H1 : Hp} (s : Step φ H φ1 H1) (h : PostS R G W F φ H o D) : PostS R G W F φ1 H1 o D := by
  cases o with
  | ok d st => exact fun φ' H' v a b c e => h φ' H' v (s.trans a) b c e
  | exc c vs st => exact fun φ' H' dx a b c e => h φ' H' dx (s.trans a) b c e
  | bad => exact h
theorem PostS.bndF {α β : Type} {A : List Addr → Hp → α → β → Prop} {m : M α} {f : α → M (Fl × Env)} (h : PostS R G W F φ H (M.bnd m f st) D) :
    Post R (WF W F) [] φ H A (m st) fun v H1 => ∃ φ1 st1 d, Step φ H φ1 H1 ∧ RepS R φ1 st1 H1 ∧ Tbs R H1 ∧ A φ1 H1 d v ∧ PostS R G W F φ1 H1 (f d st1) D := by
  unfold M.bnd at h
  cases e : m st with
  | ok d st1 =>
    rw [e] at h
    exact fun φ1 H1 v a b c r => ⟨φ1, st1, d, a, b, c, r, h.step a⟩
  | exc c vs st1 =>
    rw [e] at h
    exact fun φ1 H1 dx a b c r => h φ1 H1 dx a b c r
  | bad =>
    rw [e] at h
    exact h
theorem PostS.bnd {α β : Type} {A : List Addr → Hp → α → β → Prop} {m : M α} {f : α → M (Fl × Env)} (ag : Ag F σ) (h : PostS R G W F φ H (M.bnd m f st) D) :
    Post R W σ φ H A (m st) fun v H1 => ∃ φ1 st1 d, Step φ H φ1 H1 ∧ RepS R φ1 st1 H1 ∧ Tbs R H1 ∧ A φ1 H1 d v ∧ PostS R G W F φ1 H1 (f d st1) D := h.bndF.wf ag
theorem PostS.seq {m : M (Fl × Env)} {f : Fl × Env → M (Fl × Env)} {D' : Ends} (h : PostS R G W F φ H (M.bnd m f st) D)
    (k : ∀ φ1 H1 σ1 st1 q, Step φ H φ1 H1 → RepS R φ1 st1 H1 → Tbs R H1 → RepE R G φ1 H1 q.2 σ1 → Ag F σ1 → PostS R G W F φ1 H1 (f q st1) D → endP R D' φ1 H1 q.1 σ1) : PostS R G W F φ H (m st) D' := by
  unfold M.bnd at h
  cases e : m st with
  | ok d st1 =>
    rw [e] at h
    exact fun φ1 H1 v a b c r ag => k φ1 H1 v st1 d a b c r ag (h.step a)
  | exc c vs st1 =>
    rw [e] at h
    exact h
  | bad =>
    rw [e] at h
    exact h
theorem PostS.ret {q : Fl × Env} (h : PostS R G W F φ H (M.ret q st) D) (S : RepS R φ st H) (T : Tbs R H) (E : RepE R G φ H q.2 σ) (ag : Ag F σ) : endP R D φ H q.1 σ := h φ H σ (Step.refl _ _) S T E ag
structure At (R : Rc) (G : Gm) (F : Fr) (φ : List Addr) (st : Sto) (H : Hp) (ρ : Env) (σ : L2.St) : Prop where
  S : RepS R φ st H
  E : RepE R G φ H ρ σ
  ag : Ag F σ
  T : Tbs R H
theorem endS (f : Fl) (p : At R G F φ st H ρ σ) (h : PostS R G W F φ H (M.ret (f, ρ) st) D) : endP R D φ H f σ := h φ H σ (Step.refl _ _) p.S p.T p.E p.ag
theorem At.to {φ1 : List Addr} {st1 : Sto} {H1 : Hp} (p : At R G F φ st H ρ σ) (s : Step φ H φ1 H1) (S : RepS R φ1 st1 H1) (T : Tbs R H1) : At R G F φ1 st1 H1 ρ σ := ⟨S, p.E.step s, p.ag, T⟩
theorem tS.mk {m : Env → M (Fl × Env)} (p : At R G F φ st H ρ σ) (h : PostS R G W F φ H (m ρ st) D) : tS R G W F m D σ H := ⟨φ, st, ρ, p.S, p.E, p.ag, p.T, h⟩
theorem tS.start {s : Stmt} {t : TS} {m : Env → M (Fl × Env)} (h : PS X s t) (k : ∀ φ st ρ D σ H, At R G F φ st H ρ σ → PostS R G W F φ H (m ρ st) D → t D σ H) : PS X s (tS R G W F m) :=
  h.imp fun D σ H ⟨φ, st, ρ, S, E, ag, T, h⟩ => k φ st ρ D σ H ⟨S, E, ag, T⟩ h
theorem tS.starts {s : List Stmt} {t : TS} {m : Env → M (Fl × Env)} (h : PSs X s t) (k : ∀ φ st ρ D σ H, At R G F φ st H ρ σ → PostS R G W F φ H (m ρ st) D → t D σ H) : PSs X s (tS R G W F m) :=
  h.imp fun D σ H ⟨φ, st, ρ, S, E, ag, T, h⟩ => k φ st ρ D σ H ⟨S, E, ag, T⟩ h
theorem ss_nil : PSs X [] (tS R G W F fun ρ => M.ret (.nx, ρ)) := tS.starts pss_nil fun φ st ρ D σ H p h => endS .nx p h
def seqM (q : Fl × Env) (m : Env → M (Fl × Env)) : M (Fl × Env) := match q.1 with
  | .nx => m q.2
  | f => M.ret (f, q.2)
theorem ss_cons {a : Stmt} {r : List Stmt} {ma mr : Env → M (Fl × Env)} (ha : PS X a (tS R G W F ma)) (hr : PSs X r (tS R G W F mr)) : PSs X (a :: r) (tS R G W F fun ρ => M.bnd (ma ρ) fun q => seqM q mr) :=
  tS.starts (pss_cons ha hr) fun φ st ρ D σ H p h => tS.mk p (PostS.seq h fun φ1 H1 σ1 st1 q s1 S1 T1 E1 ag1 p1 => by
    obtain ⟨f, ρ1⟩ := q
    have q1 : At R G F φ1 st1 H1 ρ1 σ1 := ⟨S1, E1, ag1, T1⟩
    cases f with
    | nx => exact tS.mk q1 p1
    | brk => exact endS (W := W) (D := D) .brk q1 p1
    | cnt => exact endS (W := W) (D := D) .cnt q1 p1
    | ret d => exact endS (W := W) (D := D) (.ret d) q1 p1)
theorem At.tM {me : Env → M PV} {f : PV → M (Fl × Env)} {Q1 : VK} (p : At R G F φ st H ρ σ) (h : PostS R G W F φ H (M.bnd (me ρ) f st) D)
    (k : ∀ φ1 st1 d v H1, Step φ H φ1 H1 → At R G F φ1 st1 H1 ρ σ → RepV R φ1 H1 d v → PostS R G W F φ1 H1 (f d st1) D → Q1 v H1) : tM R G W me σ H Q1 :=
  ⟨φ, st, ρ, p.S, p.E, p.T, Post.mono (PostS.bnd p.ag h) fun v H1 ⟨φ1, st1, d, s1, S1, T1, r1, p1⟩ => k φ1 st1 d v H1 s1 (p.to s1 S1 T1) r1 p1⟩
theorem At.tMT {me : Env → M Bool} {f : Bool → M (Fl × Env)} {Q1 : Bool → Hp → Prop} (p : At R G F φ st H ρ σ) (h : PostS R G W F φ H (M.bnd (me ρ) f st) D)
    (k : ∀ φ1 st1 d H1, Step φ H φ1 H1 → At R G F φ1 st1 H1 ρ σ → PostS R G W F φ1 H1 (f d st1) D → Q1 d H1) : tMT R G W me σ H Q1 :=
  ⟨φ, st, ρ, p.S, p.E, p.T, Post.mono (PostS.bnd (A := AB) p.ag h) fun v H1 ⟨φ1, st1, d, s1, S1, T1, r1, p1⟩ => by
    have r1 : d = v := r1
    subst r1
    exact k φ1 st1 d H1 s1 (p.to s1 S1 T1) p1⟩
theorem st_expr {e : Expr} {pos : Pos} {me : Env → M PV} (he : PE X e (tM R G W me)) (hs : swapsWith e none pos.line X.env = pure false) : PS X (.Expr e pos) (tS R G W F fun ρ => M.bnd (me ρ) fun _ => M.ret (.nx, ρ)) :=
  tS.start (ps_expr he hs) fun φ st ρ D σ H p h => p.tM h fun φ1 st1 d v H1 s1 q1 r1 p1 => endS .nx q1 p1
theorem st_doc {x : Str} {j : Nat} {pos pos' : Pos} : PS X (.Expr (.Constant (.str x) j pos) pos') (tS R G W F fun ρ => M.ret (.nx, ρ)) := tS.start ps_doc fun φ st ρ D σ H p h => endS .nx p h
theorem st_pass {pos : Pos} : PS X (.Pass pos) (tS R G W F fun ρ => M.ret (.nx, ρ)) := tS.start ps_pass fun φ st ρ D σ H p h => endS .nx p h
theorem st_brk {pos : Pos} : PS X (.Break pos) (tS R G W F fun ρ => M.ret (.brk, ρ)) := tS.start ps_break fun φ st ρ D σ H p h => endS .brk p h
theorem st_cnt {pos : Pos} : PS X (.Continue pos) (tS R G W F fun ρ => M.ret (.cnt, ρ)) := tS.start ps_continue fun φ st ρ D σ H p h => endS .cnt p h
theorem st_never {s : Stmt} : PS X s (tS R G W F fun _ => M.bad) := tS.start ps_never fun φ st ρ D σ H p h => h
theorem st_ret {e : Expr} {pos : Pos} {me : Env → M PV} (he : PE X e (tM R G W me)) : PS X (.Return (some e) pos) (tS R G W F fun ρ => M.bnd (me ρ) fun v => M.ret (.ret v, ρ)) :=
  tS.start (ps_ret he) fun φ st ρ D σ H p h => p.tM h fun φ1 st1 d v H1 s1 q1 r1 p1 => endS (W := W) (D := D) (.ret d) q1 p1 v r1
theorem st_retN {pos : Pos} : PS X (.Return none pos) (tS R G W F fun ρ => M.ret (.ret .non, ρ)) := tS.start ps_retN fun φ st ρ D σ H p h => endS (.ret .non) p h .non rfl
theorem st_cond {c : Expr} {a b : List Stmt} {pos : Pos} {mt : Env → M Bool} {ma mb : Env → M (Fl × Env)} (hc : PT X c (tMT R G W mt)) (ha : PSs X a (tS R G W F ma)) (hb : PSs X b (tS R G W F mb)) :
    PS X (.If c a b pos) (tS R G W F fun ρ => M.bnd (mt ρ) fun k => if k then ma ρ else mb ρ) :=
  tS.start (ps_if hc ha hb) fun φ st ρ D σ H p h => p.tMT h fun φ1 st1 k H1 s1 q1 p1 => by
    cases k with
    | true => simp only [if_true] at p1 ⊢; exact tS.mk q1 p1
    | false => simp only [Bool.false_eq_true, if_false] at p1 ⊢; exact tS.mk q1 p1
theorem st_asg {tg e : Expr} {pos : Pos} {me : Env → M PV} {mg : PV → Env → M Env} (he : PE X e (tM R G W me)) (hg : PG X tg (tG R G W F mg)) (hs : swapsWithSole [tg] e pos.line X.env = pure false) (hw : swappedStores [tg] e X.env = pure none) (h1 : (assignEach [tg] X.env).map (·.2) = [assign tg X.env]) :
    PS X (.Assign [tg] e pos) (tS R G W F fun ρ => M.bnd (me ρ) fun v => M.bnd (mg v ρ) fun ρ' => M.ret (.nx, ρ')) :=
  tS.start (ps_asg he hg hs hw h1) fun φ st ρ D σ H p h => p.tM h fun φ1 st1 d v H1 s1 q1 r1 p1 =>
    ⟨φ1, st1, ρ, d, q1.S, q1.E, q1.ag, q1.T, r1, Post.mono (PostS.bndF p1) fun σ2 H2 ⟨φ2, st2, ρ2, s2, S2, T2, r2, p2⟩ => endS .nx ⟨S2, r2.e, r2.ag, T2⟩ p2⟩
theorem st_while {c : Expr} {body : List Stmt} {pos : Pos} {mt : Env → M Bool} {mb : Env → M (Fl × Env)} (hp : PassesOwn (model X.prog X.w) X.A X.env X.xe) (hc : PT X c (tMT R G W mt)) (hb : PSs X body (tS R G W F mb)) (n : Nat) :
    PS X (.While c body [] pos) (tS R G W F fun ρ => whileM mt mb n ρ) :=
  tS.start (ps_while hp hc hb) fun φ st ρ D σ H p h => by
    refine ⟨fun m σ H => ∃ φ st ρ, At R G F φ st H ρ σ ∧ PostS R G W F φ H (whileM mt mb m ρ st) D, ⟨n, φ, st, ρ, p, h⟩, ?_⟩
    rintro m σ H ⟨φ, st, ρ, p, h⟩
    cases m with
    | zero => exact h.elim
    | succ m =>
      refine p.tMT (f := fun k => if k then M.bnd (mb ρ) fun q => (match q.1 with
        | .nx => whileM mt mb m q.2
        | .cnt => whileM mt mb m q.2
        | .brk => M.ret (.nx, q.2)
        | .ret v => M.ret (.ret v, q.2)) else M.ret (.nx, ρ)) h fun φ1 st1 k H1 s1 q1 p1 => ?_
      cases k with
      | false => exact endS .nx q1 p1
      | true =>
        simp only [if_true] at p1 ⊢
        refine ⟨fun σ H => ∃ φ st ρ, At R G F φ st H ρ σ ∧ PostS R G W F φ H (whileM mt mb m ρ st) D, fun σ' H' w => ⟨m, Nat.lt_succ_self m, w⟩, tS.mk q1 (PostS.seq p1 fun φ2 H2 σ2 st2 q s2 S2 T2 E2 ag2 p2 => ?_)⟩
        obtain ⟨f, ρ2⟩ := q
        have q2 : At R G F φ2 st2 H2 ρ2 σ2 := ⟨S2, E2, ag2, T2⟩
        cases f with
        | nx => exact ⟨φ2, st2, ρ2, q2, p2⟩
        | cnt => exact ⟨φ2, st2, ρ2, q2, p2⟩
        | brk => exact endS (W := W) (D := D) .nx q2 p2
        | ret d => exact endS (W := W) (D := D) (.ret d) q2 p2
end
def ItRep (R : Rc) (φ0 : List Addr) (H0 : Hp) (xs : List PV) (ws : Wat) (J : L2.It) : Prop :=
  ∀ (hid : List Addr), Hd R H0 hid → ∀ (i : Nat) (φ : List Addr) (st : Sto) (H : Hp), Step φ0 H0 φ H → RepS (R.h hid) φ st H → Tbs R H → (ws.all fun w => decide (st[w.1]? = some w.2)) = true →
    (xs.length ≤ i → J.stop i H) ∧ ∀ d, xs[i]? = some d → J.go i H ∧ ∀ x H', J.yld i H x H' → Step φ H φ H' ∧ RepS (R.h hid) φ st H' ∧ Tbs R H' ∧ RepV (R.h hid) φ H' d x
def AI (R : Rc) (φ : List Addr) (H : Hp) (a : List PV × Wat) (J : L2.It) : Prop := ItRep R φ H a.1 a.2 J
def tI (R : Rc) (G : Gm) (W : WX) (m : Env → M (List PV × Wat)) : TI := fun σ H Q => ∃ φ st ρ, RepS R φ st H ∧ RepE R G φ H ρ σ ∧ Tbs R H ∧ Post R W σ φ H (AI R) (m ρ st) Q
section
variable {X : Cx} {R : Rc} {G : Gm} {W : WX} {F : Fr}
theorem watch_ok {ws : Wat} {D : Ends} {φ : List Addr} {H : Hp} {st : Sto} {f : Unit → M (Fl × Env)} (h : PostS R G W F φ H (M.bnd (watch ws) f st) D) : (ws.all fun w => decide (st[w.1]? = some w.2)) = true ∧ PostS R G W F φ H (f () st) D := by
  unfold M.bnd watch at h
  cases e : ws.all fun w => decide (st[w.1]? = some w.2) with
  | true => rw [e] at h; exact ⟨rfl, h⟩
  | false => rw [e] at h; exact h.elim
theorem st_for {tg iter : Expr} {body : List Stmt} {pos : Pos} {mi : Env → M (List PV × Wat)} {mg : PV → Env → M Env} {mb : Env → M (Fl × Env)} (hp : PassesOwn (model X.prog X.w) X.A X.env X.xe) (hc : X.calm = true) (hi : PI X tg iter (tI R G W mi)) (hg : PG X tg (tG R G W F mg)) (hb : PSs X body (tS R G W F mb)) (hs : ∀ x, foldedSetIterable iter X.env x = pure x) :
    PS X (.For tg iter body [] pos) (tS R G W F fun ρ => M.bnd (mi ρ) fun xs => loopM xs.2 (fun x ρ => M.bnd (mg x ρ) mb) xs.1 ρ) :=
  tS.start (ps_for hp hc hi hg hb hs) fun φ st ρ D σ H p h => by
    refine ⟨φ, st, ρ, p.S, p.E, p.T, Post.mono (PostS.bnd p.ag h) fun J H1 ⟨φ1, st1, xs, s1, S1, T1, r1, p1⟩ => ?_⟩
    obtain ⟨xs, ws⟩ := xs
    have r1 : ItRep R φ1 H1 xs ws J := r1
    refine ⟨fun i m σ H => i ≤ xs.length ∧ m = xs.length - i ∧ ∃ φ st ρ, Step φ1 H1 φ H ∧ At R G F φ st H ρ σ ∧ PostS R G W F φ H (loopM ws (fun x ρ => M.bnd (mg x ρ) mb) (xs.drop i) ρ st) D,
      ⟨xs.length, Nat.zero_le _, rfl, φ1, st1, ρ, Step.refl _ _, p.to s1 S1 T1, p1⟩, ?_⟩
    rintro i m σ H ⟨hi, rfl, φ, st, ρ, s, q, p⟩
    by_cases hlt : i < xs.length
    · refine .inr ?_
      rw [List.drop_eq_getElem_cons hlt] at p
      obtain ⟨hw, p⟩ := watch_ok p
      obtain ⟨_, g⟩ := r1 R.hid Hd.refl i φ st H s q.S q.T hw
      obtain ⟨g1, g2⟩ := g xs[i] (List.getElem?_eq_getElem hlt)
      refine ⟨g1, fun σ H => ∃ φ st ρ, Step φ1 H1 φ H ∧ At R G F φ st H ρ σ ∧ PostS R G W F φ H (loopM ws (fun x ρ => M.bnd (mg x ρ) mb) (xs.drop (i + 1)) ρ st) D, fun σ' H' w => ⟨xs.length - (i + 1), by omega, hlt, rfl, w⟩, fun x H' y => ?_⟩
      obtain ⟨s2, S2, T2, rv⟩ := g2 x H' y
      have p := p.step s2
      rw [bnd_ret] at p
      refine ⟨φ, st, ρ, xs[i], S2, q.E.step s2, q.ag, T2, rv, Post.mono (PostS.bndF p) fun σ3 H3 ⟨φ3, st3, ρ3, s3, S3, T3, r3, p3⟩ => ?_⟩
      refine tS.mk ⟨S3, r3.e, r3.ag, T3⟩ (PostS.seq p3 fun φ4 H4 σ4 st4 q s4 S4 T4 E4 ag4 p4 => ?_)
      have s4' := ((s.trans s2).trans s3).trans s4
      obtain ⟨f, ρ4⟩ := q
      have q4 : At R G F φ4 st4 H4 ρ4 σ4 := ⟨S4, E4, ag4, T4⟩
      cases f with
      | nx => exact ⟨φ4, st4, ρ4, s4', q4, p4⟩
      | cnt => exact ⟨φ4, st4, ρ4, s4', q4, p4⟩
      | brk => exact endS (W := W) (D := D) .nx q4 p4
      | ret d => exact endS (W := W) (D := D) (.ret d) q4 p4
    · have hi' : xs.length ≤ i := by omega
      rw [List.drop_eq_nil_of_le hi'] at p
      obtain ⟨hw, p⟩ := watch_ok p
      exact .inl ⟨(r1 R.hid Hd.refl i φ st H s q.S q.T hw).1 hi', endS .nx q p⟩
end
end Mp
namespace Mp
open PySem PySem.Spec PyProof.Rows L2
section
variable {X : Cx} {R : Rc} {G : Gm} {W : WX} {F : Fr}
theorem _root_.L2.PGs.imp {e : List Expr} {t t' : TGs} (h : PGs X e t) (k : ∀ v σ H Q, t' v σ H Q → t v σ H Q) : PGs X e t' := ⟨fun pins s σ H v u Q I r q => h.run pins s σ H v u Q I r (k v σ H Q q)⟩
theorem gs_nil : PGs X [] (tGs R G W F nilG) :=
  pgs_nil.imp fun v σ H Q ⟨φ, st, ρ, d, S, E, ag, T, r, h⟩ => by
    cases d with
    | nil => exact ⟨r, h φ H _ (Step.refl _ _) S T ⟨E, ag⟩⟩
    | cons x xs => exact False.elim h
theorem gs_cons {e : Expr} {es : List Expr} {mg : PV → Env → M Env} {ms : List PV → Env → M Env} (h1 : PG X e (tG R G W F mg)) (h2 : PGs X es (tGs R G W F ms))
    (hs : (assignEach (e :: es) X.env).map (·.2) = assign e X.env :: (assignEach es X.env).map (·.2)) : PGs X (e :: es) (tGs R G W F (consG mg ms)) :=
  (pgs_cons h1 h2 hs).imp fun v σ H Q ⟨φ, st, ρ, d, S, E, ag, T, r, h⟩ => by
    cases d with
    | nil => exact False.elim h
    | cons x xs =>
      obtain ⟨y, ys, rfl, r1, r2⟩ := r
      have h : Post R (WF W F) [] φ H (RepT R G F) (M.bnd (mg x ρ) (ms xs) st) Q := h
      refine ⟨y, ys, rfl, φ, st, ρ, x, S, E, ag, T, r1, Post.mono (Post.bnd h) fun σ1 H1 ⟨φ1, st1, ρ1, s1, S1, T1, t1, p1⟩ => ?_⟩
      exact ⟨φ1, st1, ρ1, xs, S1, t1.e, t1.ag, T1, RepL.step s1 _ _ r2, p1⟩
theorem g_tup {es : List Expr} {k : Nat} {pos : Pos} {ms : List PV → Env → M Env} {n : Nat} (hK : R.K = X.K) (hc : X.calm = true) (h : PGs X es (tGs R G W F ms))
    (hn : (assignEach es X.env).length = n) (hst : (assignEach es X.env).findIdx? (·.1) = none) : PG X (.Tuple es k pos) (tG R G W F (tupG n ms)) :=
  (pg_tup hc h hn hst).imp fun v σ H Q ⟨φ, st, ρ, d, S, E, ag, T, r, h⟩ => by
    cases d with
    | tup xs =>
      obtain ⟨a, vs, rfl, t, z, q⟩ := r
      have h : Post R (WF W F) [] φ H (RepT R G F) (M.grd (decide (xs.length = n)) (ms xs ρ) st) Q := h
      unfold M.grd at h
      cases e : decide (xs.length = n) with
      | false => rw [e] at h; exact h.elim
      | true =>
        rw [e] at h
        have hx := of_decide_eq_true e
        exact ⟨a, vs, rfl, by rw [← hK]; exact t.sq, by rw [← q.length]; exact hx, φ, st, ρ, xs, S, E, ag, T, q, h⟩
    | _ => exact False.elim h
def AU (φ : List Addr) (H : Hp) (a b : Unit) : Prop := True
def rSet (R : Rc) (m : PV → PV → PV → M Unit) : TSet := fun o i v H Q => ∃ φ st d e x, RepS R φ st H ∧ Tbs R H ∧ RepV R φ H d o ∧ RepV R φ H e i ∧ RepV R φ H x v ∧ PostN R φ H AU (m d e x st) fun _ H' => Q H'
theorem Tbs.upd {R : Rc} {φ : List Addr} {st : Sto} {H : Hp} {n : Nat} {a : Addr} {o : HO} {m : MO} (h : Tbs R H) (S : RepS R φ st H) (e : st[n]? = some m) (ha : φ[n]? = some a) : Tbs R (upd H a o) := by
  intro p hp
  obtain ⟨ps, h1, h2, h3⟩ := h p hp
  have r := S.at_ n m a e ha
  have dif : ∀ b u, H b = some u → (∀ vs, u ≠ .lst vs) → (∀ vs, u ≠ .dK vs) → (∀ vs, u ≠ .dT vs) → (∀ c x y, u ≠ .ins c x y) → b ≠ a := fun b u hb n1 n2 n3 n4 z => by
    subst z
    cases m with
    | lst ds => obtain ⟨vs, q, _⟩ := r; rw [hb] at q; exact n1 _ (Option.some.inj q)
    | dct kvs =>
      rcases r with ⟨gs, q, _⟩ | ⟨gs, q, _⟩
      · rw [hb] at q; exact n2 _ (Option.some.inj q)
      · rw [hb] at q; exact n3 _ (Option.some.inj q)
    | ins c fs => obtain ⟨dx, gs, q, _⟩ := r; rw [hb] at q; exact n4 _ _ _ (Option.some.inj q)
  refine ⟨ps, ?_, h2, fun p' cv hcv => ?_⟩
  · rw [upd_ne (dif _ _ h1 (fun _ z => by cases z) (fun _ z => by cases z) (fun _ z => by cases z) (fun _ _ _ z => by cases z))]
    exact h1
  · obtain ⟨c0, e1, e2⟩ := h3 p' cv hcv
    refine ⟨c0, e1, ?_⟩
    rw [upd_ne (dif _ _ e2 (fun _ z => by unfold LamX.CodeO at z; cases z) (fun _ z => by unfold LamX.CodeO at z; cases z) (fun _ z => by unfold LamX.CodeO at z; cases z) (fun _ _ _ z => by unfold LamX.CodeO at z; cases z))]
    exact e2
theorem pK_inj {a b : Key} (h : pK a = pK b) : a = b := by
  cases a <;> cases b <;> simp_all [pK]
theorem pKs_inj : ∀ {a b : List Key}, a.map pK = b.map pK → a = b
  | [], [], _ => rfl
  | [], _ :: _, h => by cases h
  | _ :: _, [], h => by cases h
  | x :: a, y :: b, h => by
    rw [List.map_cons, List.map_cons] at h
    obtain ⟨h1, h2⟩ := List.cons.inj h
    rw [pK_inj h1, pKs_inj h2]
theorem pT_inj {a b : List Key} (h : pT a = pT b) : a = b := pKs_inj (PV.tup.inj h)
theorem dct_find {φ : List Addr} {H : Hp} {κ : Type} [DecidableEq κ] {kp : κ → PV} {kr : κ → Prop} (inj : ∀ a b, kp a = kp b → a = b) (k : κ) : ∀ {kvs : List (PV × PV)} {gs : List (κ × V)}, DctG R φ H kp kr kvs gs →
    (kfind kvs (kp k) = none ∧ valV gs k = none) ∨ ∃ d v, kfind kvs (kp k) = some d ∧ valV gs k = some v ∧ RepV R φ H d v
  | [], _, h => by cases h; exact .inl ⟨rfl, rfl⟩
  | (p, d) :: r, _, h => by
    obtain ⟨x, v, s, rfl, rfl, _, h2, h3⟩ := h
    by_cases e : x = k
    · subst e
      refine .inr ⟨d, v, ?_, valV_pos rfl, h2⟩
      unfold kfind
      rw [List.find?_cons_of_pos (by simp)]
      rfl
    · have e' : ¬ kp x = kp k := fun z => e (inj _ _ z)
      rw [valV_neg e]
      have : kfind ((kp x, d) :: r) (kp k) = kfind r (kp k) := by
        unfold kfind
        rw [List.find?_cons_of_neg (by simp [e'])]
      rw [this]
      exact dct_find inj k h3
theorem dct_any {φ : List Addr} {H : Hp} {κ : Type} [DecidableEq κ] {kp : κ → PV} {kr : κ → Prop} (inj : ∀ a b, kp a = kp b → a = b) (k : κ) : ∀ {kvs : List (PV × PV)} {gs : List (κ × V)}, DctG R φ H kp kr kvs gs →
    (kvs.any fun p => decide (p.1 = kp k)) = gs.any fun p => decide (p.1 = k)
  | [], _, h => by cases h; rfl
  | (p, d) :: r, _, h => by
    obtain ⟨x, v, s, rfl, rfl, _, h2, h3⟩ := h
    rw [List.any_cons, List.any_cons, dct_any inj k h3]
    have : decide (kp x = kp k) = decide (x = k) := by
      by_cases e : x = k
      · subst e; simp
      · have e' : ¬ kp x = kp k := fun z => e (inj _ _ z)
        rw [decide_eq_false e, decide_eq_false e']
    rw [this]
theorem dct_map {φ : List Addr} {H : Hp} {κ : Type} [DecidableEq κ] {kp : κ → PV} {kr : κ → Prop} (inj : ∀ a b, kp a = kp b → a = b) (k : κ) {d : PV} {v : V} (rv : RepV R φ H d v) : ∀ {kvs : List (PV × PV)} {gs : List (κ × V)}, DctG R φ H kp kr kvs gs →
    DctG R φ H kp kr (kvs.map fun p => if p.1 = kp k then (p.1, d) else p) (gs.map fun p => if p.1 = k then (p.1, v) else p)
  | [], _, h => by cases h; rfl
  | (p, d0) :: r, _, h => by
    obtain ⟨x, v0, s, rfl, rfl, h1, h2, h3⟩ := h
    rw [List.map_cons, List.map_cons]
    by_cases e : x = k
    · subst e
      simp only [if_true]
      exact ⟨x, v, _, rfl, rfl, h1, rv, dct_map inj x rv h3⟩
    · have e' : ¬ kp x = kp k := fun z => e (inj _ _ z)
      simp only [e, e', if_false]
      exact ⟨x, v0, _, rfl, rfl, h1, h2, dct_map inj k rv h3⟩
theorem dct_snoc {φ : List Addr} {H : Hp} {κ : Type} {kp : κ → PV} {kr : κ → Prop} (k : κ) {d : PV} {v : V} (hk : kr k) (rv : RepV R φ H d v) : ∀ {kvs : List (PV × PV)} {gs : List (κ × V)}, DctG R φ H kp kr kvs gs → DctG R φ H kp kr (kvs ++ [(kp k, d)]) (gs ++ [(k, v)])
  | [], _, h => by cases h; exact ⟨k, v, [], rfl, rfl, hk, rv, rfl⟩
  | (p, d0) :: r, _, h => by
    obtain ⟨x, v0, s, rfl, rfl, h1, h2, h3⟩ := h
    exact ⟨x, v0, _, rfl, rfl, h1, h2, dct_snoc k hk rv h3⟩
theorem dct_put {φ : List Addr} {H : Hp} {κ : Type} [DecidableEq κ] {kp : κ → PV} {kr : κ → Prop} (inj : ∀ a b, kp a = kp b → a = b) (k : κ) {d : PV} {v : V} (hk : kr k) (rv : RepV R φ H d v) {kvs : List (PV × PV)} {gs : List (κ × V)} (h : DctG R φ H kp kr kvs gs) :
    DctG R φ H kp kr (kput kvs (kp k) d) (putK gs k v) := by
  unfold kput putK
  rw [dct_any inj k h]
  by_cases e : (gs.any fun p => decide (p.1 = k)) = true
  · rw [if_pos e, if_pos e]
    exact dct_map inj k rv h
  · rw [if_neg e, if_neg e]
    exact dct_snoc k hk rv h
theorem dct_len {φ : List Addr} {H : Hp} {κ : Type} {kp : κ → PV} {kr : κ → Prop} : ∀ {kvs : List (PV × PV)} {gs : List (κ × V)}, DctG R φ H kp kr kvs gs → kvs.length = gs.length
  | [], _, h => by cases h; rfl
  | (p, d0) :: r, _, h => by
    obtain ⟨x, v0, s, rfl, rfl, h1, h2, h3⟩ := h
    simp [dct_len h3]
theorem isK_of {φ : List Addr} {H : Hp} {k : PV} {v : V} (h : isK k = true) (r : RepV R φ H k v) : ∃ x, k = pK x ∧ KR x ∧ v = kV x := by
  cases k with
  | int i => cases r; exact ⟨.inl i, rfl, trivial, rfl⟩
  | str z => obtain ⟨rfl, q⟩ := r; exact ⟨.inr z, rfl, q, rfl⟩
  | _ => cases h
theorem isKs_of {φ : List Addr} {H : Hp} : ∀ {ks : List PV} {vs : List V}, ks.all isK = true → RepL R φ H ks vs → ∃ xs : List Key, ks = xs.map pK ∧ (∀ x ∈ xs, KR x) ∧ vs = xs.map kV
  | [], _, _, r => by cases r; exact ⟨[], rfl, fun _ h => absurd h (by simp), rfl⟩
  | k :: ks, _, h, r => by
    obtain ⟨v, s, rfl, r1, r2⟩ := r
    rw [List.all_cons, Bool.and_eq_true] at h
    obtain ⟨x, h1, h2, h3⟩ := isK_of h.1 r1
    obtain ⟨xs, g1, g2, g3⟩ := isKs_of h.2 r2
    refine ⟨x :: xs, by rw [h1, g1]; rfl, fun y hy => ?_, by rw [h3, g3]; rfl⟩
    rcases List.mem_cons.mp hy with z | z
    · rw [z]; exact h2
    · exact g2 y z
theorem isKT_of {φ : List Addr} {H : Hp} {k : PV} {v : V} (h : isKT k = true) (hc : R.cts.contains k = false) (r : RepV R φ H k v) : ∃ xs b, k = pT xs ∧ KRs xs ∧ v = .ref b ∧ Own R φ H b (.tup (xs.map kV)) := by
  cases k with
  | tup ks =>
    obtain ⟨a, vs, rfl, t, z, q⟩ := r
    obtain ⟨xs, g1, g2, g3⟩ := isKs_of (by unfold isKT at h; exact h) q
    subst g3
    refine ⟨xs, a, by rw [g1]; rfl, ⟨by rw [List.length_map] at z; exact z, g2⟩, rfl, ?_⟩
    rcases t with t | ⟨t, _⟩
    · exact t
    · have m := t h
      rw [List.contains_eq_mem] at hc
      exact absurd m (of_decide_eq_false hc)
  | _ => cases h
theorem dct_allK {φ : List Addr} {H : Hp} : ∀ {kvs : List (PV × PV)} {gs : List (List Key × V)}, DctG R φ H pT KRs kvs gs → (kvs.all fun p => isK p.1) = true → kvs = [] ∧ gs = []
  | [], _, h, _ => by cases h; exact ⟨rfl, rfl⟩
  | (p, d0) :: r, _, h, q => by
    obtain ⟨x, v0, s, rfl, rfl, h1, h2, h3⟩ := h
    rw [List.all_cons, Bool.and_eq_true] at q
    cases q.1
theorem dct_allT {φ : List Addr} {H : Hp} : ∀ {kvs : List (PV × PV)} {gs : List (Key × V)}, DctG R φ H pK KR kvs gs → (kvs.all fun p => isKT p.1) = true → kvs = [] ∧ gs = []
  | [], _, h, _ => by cases h; exact ⟨rfl, rfl⟩
  | (p, d0) :: r, _, h, q => by
    obtain ⟨x, v0, s, rfl, rfl, h1, h2, h3⟩ := h
    rw [List.all_cons, Bool.and_eq_true] at q
    cases x <;> cases q.1
theorem Inv.emptyT {pins : List (Addr × Obj)} {σ : L2.St} {H : Hp} {s : Shared} {a : Addr} (I : Inv X pins σ H s) (h : H a = some (.dK [])) : Inv X pins σ (upd H a (.dT [])) s := by
  obtain ⟨z, hd, vs, rel, dd⟩ := dk_of I.hok h
  obtain ⟨o, es, ep, h1, h2, h3, h4, h5, _⟩ := dd
  cases rel
  have e : es.toList = [] := by
    generalize es.toList = l at h5
    cases h5
    rfl
  exact d_write I (by rw [h]; trivial) (h' := s.heap) (t' := s.toks) ⟨rfl, fun b _ => rfl⟩ ⟨o, h1⟩ ⟨Nat.zero_le _, hd, [], .nil, o, es, ep, h1, h2, h3, by simpa using e, by simp⟩
theorem Inv.emptyK {pins : List (Addr × Obj)} {σ : L2.St} {H : Hp} {s : Shared} {a : Addr} (I : Inv X pins σ H s) (h : H a = some (.dT [])) : Inv X pins σ (upd H a (.dK [])) s := by
  obtain ⟨z, hd, xs, rel, o, es, ep, h1, h2, h3, h4, h5⟩ := I.hok a _ h
  cases rel
  exact d_write I (by rw [h]; trivial) (h' := s.heap) (t' := s.toks) ⟨rfl, fun b _ => rfl⟩ ⟨o, h1⟩ (dk_new (Nat.zero_le _) hd .nil ⟨o, es, ep, h1, h2, h3, by
    have e : es = #[] := by simpa using h4
    subst e
    exact ⟨fun e he => absurd he (by simp), .nil, by simp⟩⟩)
theorem set_at {α : Type} : ∀ {l : List α} {n : Nat} {x : α}, l[n]? = some x → l.set n x = l
  | [], _, _, h => by simp at h
  | a :: l, 0, x, h => by simp at h; subst h; rfl
  | a :: l, n + 1, x, h => by
    rw [List.set_cons_succ, set_at (by simpa using h)]
theorem kOk_split {cts : List PV} {kvs : List (PV × PV)} {k : PV} (h : kOk cts kvs k = true) : (isK k = true ∧ (kvs.all fun p => isK p.1) = true) ∨ isKT k = true ∧ cts.contains k = false ∧ (kvs.all fun p => isKT p.1) = true := by
  unfold kOk at h
  simp only [Bool.or_eq_true, Bool.and_eq_true, Bool.not_eq_true'] at h
  rcases h with h | h
  · exact .inl h
  · exact .inr ⟨h.1.1, h.1.2, h.2⟩
theorem dct_kind {pins : List (Addr × Obj)} {σ : L2.St} {H : Hp} {s : Shared} {φ : List Addr} {st : Sto} {n : Nat} {a : Addr} {kvs : List (PV × PV)} {k : PV} {v : V} (I : Inv X pins σ H s) (S : RepS R φ st H) (T : Tbs R H) (e : st[n]? = some (.dct kvs)) (ha : φ[n]? = some a) (hk : kOk R.cts kvs k = true) (rk : RepV R φ H k v) :
    ∃ H', Inv X pins σ H' s ∧ Step φ H φ H' ∧ RepS R φ st H' ∧ Tbs R H' ∧ (∀ b u, b ≠ a → H b = some u → H' b = some u) ∧
      ((∃ gs x, H' a = some (.dK gs) ∧ gs.length ≤ SZ ∧ DctG R φ H' pK KR kvs gs ∧ k = pK x ∧ KR x ∧ v = kV x) ∨
        ∃ gs xs b, H' a = some (.dT gs) ∧ gs.length ≤ SZ ∧ DctG R φ H' pT KRs kvs gs ∧ k = pT xs ∧ KRs xs ∧ v = .ref b ∧ H' b = some (.tup (xs.map kV))) := by
  have ma := List.mem_of_getElem? ha
  rcases kOk_split hk with ⟨h1, h2⟩ | ⟨h1, hc, h2⟩
  · obtain ⟨x, g1, g2, g3⟩ := isK_of h1 rk
    rcases S.at_ n _ a e ha with ⟨gs, q1, q2, q3⟩ | ⟨gs, q1, q2, q3⟩
    · exact ⟨H, I, Step.refl _ _, S, T, fun _ _ _ h => h, .inl ⟨gs, x, q1, q2, q3, g1, g2, g3⟩⟩
    · obtain ⟨rfl, rfl⟩ := dct_allK q3 h2
      have S' : RepS R φ (st.set n (.dct [])) (upd H a (.dK [])) := S.write ha (.inl ⟨[], upd_same, Nat.zero_le _, rfl⟩)
      rw [set_at e] at S'
      exact ⟨_, Inv.emptyK I q1, step_wr ma, S', T.upd S e ha, fun b u hb h => by rw [upd_ne hb]; exact h, .inl ⟨[], x, upd_same, q2, rfl, g1, g2, g3⟩⟩
  · obtain ⟨xs, b, g1, g2, g3, g4⟩ := isKT_of h1 hc rk
    have nb : b ≠ a := fun z => g4.2.1.1 (by rw [z]; exact ma)
    rcases S.at_ n _ a e ha with ⟨gs, q1, q2, q3⟩ | ⟨gs, q1, q2, q3⟩
    · obtain ⟨rfl, rfl⟩ := dct_allT q3 h2
      have S' : RepS R φ (st.set n (.dct [])) (upd H a (.dT [])) := S.write ha (.inr ⟨[], upd_same, Nat.zero_le _, rfl⟩)
      rw [set_at e] at S'
      exact ⟨_, Inv.emptyT I q1, step_wr ma, S', T.upd S e ha, fun b u hb h => by rw [upd_ne hb]; exact h, .inr ⟨[], xs, b, upd_same, q2, rfl, g1, g2, g3, by rw [upd_ne nb]; exact g4.1⟩⟩
    · exact ⟨H, I, Step.refl _ _, S, T, fun _ _ _ h => h, .inr ⟨gs, xs, b, q1, q2, q3, g1, g2, g3, g4.1⟩⟩
theorem set_ok (hu : X.A.units + 1 < cLine) : PSet X (rSet R (setV R.cts)) := by
  intro pins s σ H o i v ov iv u Q I ro ri rv ⟨φ, st, d, e, x, S, T, rd, re, rx, p⟩
  cases d with
  | loc n =>
    obtain ⟨a, ha, rfl⟩ := rd
    cases q : st[n]? with
    | none =>
      have p : PostN R φ H AU (match st[n]? with | some (.lst xs) => _ | some (.dct kvs) => _ | _ => Out.bad) _ := p
      rw [q] at p
      exact p.elim
    | some m =>
      unfold setV at p
      simp only [q] at p
      cases m with
      | lst xs =>
        simp only at p
        cases e with
        | int k =>
          simp only at p
          cases q2 : Mp.ixN xs.length k with
          | none => rw [q2] at p; exact p.elim
          | some j =>
            rw [q2] at p
            obtain ⟨vs, h1, h2, h3⟩ := S.at_ n _ a q ha
            have ma := List.mem_of_getElem? ha
            refine set_list pins s σ H _ i v ov iv u Q I ro ri rv ⟨a, vs, k, j, rfl, re, h1, by rw [← h3.length]; exact q2, ?_⟩
            exact p φ _ () (step_wr ma) (S.write ha ⟨_, upd_same, by rw [List.length_set]; exact h2, RepL.set (rx.step (step_wr ma)) j (RepL.step (step_wr ma) _ _ h3)⟩) (T.upd S q ha) trivial
        | _ => exact False.elim p
      | dct kvs =>
        simp only at p
        by_cases hk : (kOk R.cts kvs e && decide (kvs.length < SZ)) = true
        · rw [if_pos hk] at p
          rw [Bool.and_eq_true] at hk
          obtain ⟨hk, hl⟩ := hk
          have hl := of_decide_eq_true hl
          have ma := List.mem_of_getElem? ha
          obtain ⟨H', I', s', S', T', _, g⟩ := dct_kind I S T q ha hk re
          rcases g with ⟨gs, y, g1, g2, g3, rfl, g5, rfl⟩ | ⟨gs, ys, b, g1, g2, g3, rfl, g5, rfl, g7⟩
          · have hz : gs.length < sizeLine := by rw [sz_eq, ← dct_len g3]; exact hl
            refine set_dict hu pins s σ H' _ _ v ov iv u Q I' ro ri rv ⟨a, _, rfl, DPut.k g1 hz, ?_⟩
            exact p φ _ () (s'.trans (step_wr ma)) (S'.write ha (.inl ⟨_, upd_same, by
              have := length_putK gs y v
              rw [sz_eq] at hz
              omega, dct_put (fun _ _ z => pK_inj z) y g5 (rx.step (s'.trans (step_wr ma))) (g3.step (step_wr ma))⟩)) (T'.upd S' q ha) trivial
          · have hz : gs.length < sizeLine := by rw [sz_eq, ← dct_len g3]; exact hl
            refine set_dict hu pins s σ H' _ _ v ov iv u Q I' ro ri rv ⟨a, _, rfl, DPut.t g1 g7 hz, ?_⟩
            exact p φ _ () (s'.trans (step_wr ma)) (S'.write ha (.inr ⟨_, upd_same, by
              have := length_putK gs ys v
              rw [sz_eq] at hz
              omega, dct_put (fun _ _ z => pT_inj z) ys g5 (rx.step (s'.trans (step_wr ma))) (g3.step (step_wr ma))⟩)) (T'.upd S' q ha) trivial
        · rw [if_neg hk] at p
          exact p.elim
      | ins c fs => exact False.elim p
  | _ => exact False.elim p
theorem NoX.setV {cts : List PV} {x y v : PV} : NoX (setV cts x y v) := fun st c w s e => by
  unfold Mp.setV at e
  repeat' (first | (cases e; done) | split at e)
theorem g_sub {o i : Expr} {pos : Pos} {mo mi : Env → M PV} (hu : X.A.units + 1 < cLine) (ho : PE X o (tM R G W mo)) (hi : PE X i (tM R G W mi))
    (ha : ∀ v, assign (.Subscript o i pos) X.env v = (do
      let ov ← holding [v] (eval o X.env)
      let iv ← holding [v, ov] (eval i X.env)
      standAt pos
      holding [v, ov, iv] (setItem ov iv v)
      release [v, ov, iv] [])) : PG X (.Subscript o i pos) (tG R G W F fun v ρ => M.bnd (mo ρ) fun x => M.bnd (mi ρ) fun y => M.bnd (setV R.cts x y v) fun _ => M.ret ρ) :=
  (pg_sub ho hi (set_ok (R := R) hu) ha).imp fun v σ H Q ⟨φ, st, ρ, d, S, E, ag, T, r, h⟩ =>
    ⟨φ, st, ρ, S, E, T, Post.mono ((Post.bnd h).wf ag) fun ov H1 ⟨φ1, st1, x, s1, S1, T1, r1, p1⟩ =>
      ⟨φ1, st1, ρ, S1, E.step s1, T1, Post.mono ((Post.bnd p1).wf ag) fun iv H2 ⟨φ2, st2, y, s2, S2, T2, r2, p2⟩ =>
        ⟨φ2, st2, x, y, d, S2, T2, r1.step s2, r2, (r.step s1).step s2, PostN.mono (Post.n (Post.bnd (A := AU) p2) NoX.setV) fun _ H3 ⟨φ3, st3, _, s3, S3, T3, _, p3⟩ =>
          p3 φ3 H3 _ (Step.refl _ _) S3 T3 ⟨((E.step s1).step s2).step s3, ag⟩⟩⟩⟩
structure ClsOk (R : Rc) (fl : List (Nat × List Nat)) : Prop where
  cls : ∀ c f, isFld fl c f = true → Cls R.K (R.cad c) ∧ NoAttr R.K (R.cad c) (R.fnm f) ∧ R.fld.lookup f = some (R.fnm f)
  inj : ∀ f g x, R.fld.lookup f = some x → R.fld.lookup g = some x → f = g
theorem fld_get {φ : List Addr} {H : Hp} (inj : ∀ f g x, R.fld.lookup f = some x → R.fld.lookup g = some x → f = g) {f : Nat} {x : Str} (hx : R.fld.lookup f = some x) : ∀ {fs : List (Nat × PV)} {gs : List (Str × V)} {d : PV}, FldL R φ H fs gs → fs.lookup f = some d → ∃ v, gs.lookup x = some v ∧ RepV R φ H d v
  | [], _, _, _, e => by cases e
  | (g, d0) :: fs, _, d, h, e => by
    obtain ⟨y, v, r, rfl, h1, h2, h3⟩ := h
    by_cases q : f = g
    · subst q
      rw [List.lookup_cons, beq_self_eq_true] at e
      cases e
      rw [h1] at hx
      cases hx
      exact ⟨v, by rw [List.lookup_cons, beq_self_eq_true], h2⟩
    · have q1 : (f == g) = false := by simpa using q
      have q2 : (x == y) = false := by
        cases z : x == y with
        | false => rfl
        | true =>
          have z : x = y := eq_of_beq z
          subst z
          exact absurd (inj f g x hx h1) q
      rw [List.lookup_cons, q1] at e
      obtain ⟨w, w1, w2⟩ := fld_get inj hx h3 e
      exact ⟨w, by rw [List.lookup_cons, q2]; exact w1, w2⟩
theorem fld_put {φ : List Addr} {H : Hp} (inj : ∀ f g x, R.fld.lookup f = some x → R.fld.lookup g = some x → f = g) {f : Nat} {x : Str} (hx : R.fld.lookup f = some x) {d : PV} {v : V} (rv : RepV R φ H d v) : ∀ {fs : List (Nat × PV)} {gs : List (Str × V)}, FldL R φ H fs gs → FldL R φ H (fput f d fs) (putF x v gs)
  | [], _, h => by cases h; exact ⟨x, v, [], rfl, hx, rv, rfl⟩
  | (g, d0) :: fs, _, h => by
    obtain ⟨y, v0, r, rfl, h1, h2, h3⟩ := h
    unfold fput putF
    by_cases q : g = f
    · subst q
      rw [h1] at hx
      cases hx
      rw [if_pos rfl, if_pos rfl]
      exact ⟨_, v, r, rfl, h1, rv, h3⟩
    · have q2 : ¬ y = x := fun z => by subst z; exact q (inj g f _ h1 hx)
      rw [if_neg q, if_neg q2]
      exact ⟨y, v0, _, rfl, h1, h2, fld_put inj hx rv h3⟩
theorem FldL.length {φ : List Addr} {H : Hp} : ∀ {fs : List (Nat × PV)} {gs : List (Str × V)}, FldL R φ H fs gs → fs.length = gs.length
  | [], _, h => by cases h; rfl
  | (g, d0) :: fs, _, h => by
    obtain ⟨y, v0, r, rfl, h1, h2, h3⟩ := h
    simp [FldL.length h3]
theorem st_fld {o e : Expr} {f : Nat} {pos pos' : Pos} {fl : List (Nat × List Nat)} {me mo : Env → M PV} (hK : R.K = X.K) (cl : ClsOk R fl) (he : PE X e (tM R G W me)) (ho : PE X o (tM R G W mo)) (hs : swapsWith e (some (.Attribute o (R.fnm f) pos')) pos.line X.env = pure false) :
    PS X (.Assign [.Attribute o (R.fnm f) pos'] e pos) (tS R G W F fun ρ => M.bnd (me ρ) fun v => M.bnd (M.bnd (mo ρ) fun x => M.bnd (setF fl x f v) fun _ => M.ret ρ) fun ρ' => M.ret (.nx, ρ')) :=
  tS.start (ps_fld ho he hs) fun φ st ρ D σ H p h => p.tM h fun φ1 st1 d v H1 s1 q1 r1 p1 => by
    rw [bnd_ret] at p1
    refine q1.tM p1 fun φ2 st2 x ov H2 s2 q2 r2 p2 => ?_
    rw [bnd_ret] at p2
    unfold M.bnd setF at p2
    cases x with
    | loc n =>
      obtain ⟨a, ha, rfl⟩ := r2
      cases q : st2[n]? with
      | none => simp only [q] at p2; exact p2.elim
      | some m =>
        simp only [q] at p2
        cases m with
        | ins c fs =>
          simp only at p2
          by_cases hk : (isFld fl c f && decide (fs.length < 900)) = true
          · rw [if_pos hk] at p2
            rw [Bool.and_eq_true] at hk
            obtain ⟨k1, k2⟩ := hk
            have k2 := of_decide_eq_true k2
            obtain ⟨c1, c2, c3⟩ := cl.cls c f k1
            obtain ⟨dx, gs, g1, g2⟩ := q2.S.at_ n _ a q ha
            have ma := List.mem_of_getElem? ha
            have st' := step_wr (H := H2) (o := .ins (R.cad c) dx (putF (R.fnm f) v gs)) ma
            refine ⟨a, R.cad c, dx, gs, rfl, g1, by rw [← hK]; exact c1, by rw [← hK]; exact c2, by rw [← g2.length]; omega, ?_⟩
            exact endS .nx (q2.to st' (q2.S.write (m := .ins c (fput f d fs)) ha ⟨dx, _, upd_same, fld_put cl.inj c3 ((r1.step s2).step st') (g2.step st')⟩) (q2.T.upd q2.S q ha)) (p2.step st')
          · rw [if_neg hk] at p2
            exact p2.elim
        | _ => exact False.elim p2
    | _ => exact False.elim p2
theorem st_par {i j : Nat} {x y : Str} {a b : Expr} {px py pt pos : Pos} {kt k2 : Nat} {pt2 : Pos} {ms : Env → M (List PV)} (vi : i ∈ F.vs) (vj : j ∈ F.vs) (hc : X.calm = true) (hN : X.N.Nodup) (hi : X.N[i]? = some x) (hj : X.N[j]? = some y) (hij : i ≠ j)
    (hx : X.env.scope.names.lookup x = some .local) (hy : X.env.scope.names.lookup y = some .local) (ha : PA X [a, b] (tMA' R G W ms))
    (hw : swappedStores [.Tuple [.Name x px, .Name y py] kt pt] (.Tuple [a, b] k2 pt2) X.env = pure (some [x, y])) :
    PS X (.Assign [.Tuple [.Name x px, .Name y py] kt pt] (.Tuple [a, b] k2 pt2) pos) (tS R G W F fun ρ => M.bnd (M.bnd (ms ρ) newT) fun v => M.bnd (tupG 2 (consG (fun v ρ => M.ret (ρ.set i (some v))) (consG (fun v ρ => M.ret (ρ.set j (some v))) nilG)) v ρ) fun ρ' => M.ret (.nx, ρ')) :=
  tS.start (ps_par hc hN hi hj hij hx hy ha hw rfl) fun φ st ρ D σ H p h => by
    rw [bnd_ret] at h
    refine ⟨φ, st, ρ, p.S, p.E, p.T, Post.mono (PostS.bnd (A := RepL R) p.ag h) fun vs H1 ⟨φ1, st1, ds, s1, S1, T1, r1, p1⟩ => ?_⟩
    have q1 := p.to s1 S1 T1
    unfold newT M.bnd M.grd M.ret at p1
    cases hz : decide (ds.length ≤ SZ) with
    | false => rw [hz] at p1; exact p1.elim
    | true =>
      rw [hz] at p1
      match ds, vs, r1, p1 with
      | [], _, _, p1 => exact p1.elim
      | [_], _, _, p1 => exact p1.elim
      | [d, e], vs, r1, p1 =>
        obtain ⟨v, r, rfl, g1, w, r', rfl, g2, rfl⟩ := r1
        exact ⟨v, w, rfl, endS .nx ⟨S1, (q1.E.set i g1.x).set j g2.x, (q1.ag.set vi _).set vj _, T1⟩ p1⟩
      | _ :: _ :: _ :: _, _, _, p1 => exact p1.elim
theorem st_par3 {i j l : Nat} {x y z : Str} {a b c : Expr} {px py pz pt pos : Pos} {kt k2 : Nat} {pt2 : Pos} {ms : Env → M (List PV)} (vi : i ∈ F.vs) (vj : j ∈ F.vs) (vl : l ∈ F.vs) (h0 : PS X (.Assign [.Tuple [.Name x px, .Name y py, .Name z pz] kt pt] (.Tuple [a, b, c] k2 pt2) pos) (tPar3 i j l (tMA' R G W ms))) :
    PS X (.Assign [.Tuple [.Name x px, .Name y py, .Name z pz] kt pt] (.Tuple [a, b, c] k2 pt2) pos) (tS R G W F fun ρ => M.bnd (M.bnd (ms ρ) newT) fun v => M.bnd (tupG 3 (consG (fun v ρ => M.ret (ρ.set i (some v))) (consG (fun v ρ => M.ret (ρ.set j (some v))) (consG (fun v ρ => M.ret (ρ.set l (some v))) nilG))) v ρ) fun ρ' => M.ret (.nx, ρ')) :=
  tS.start h0 fun φ st ρ D σ H p h => by
    rw [bnd_ret] at h
    refine ⟨φ, st, ρ, p.S, p.E, p.T, Post.mono (PostS.bnd (A := RepL R) p.ag h) fun vs H1 ⟨φ1, st1, ds, s1, S1, T1, r1, p1⟩ => ?_⟩
    have q1 := p.to s1 S1 T1
    unfold newT M.bnd M.grd M.ret at p1
    cases hz : decide (ds.length ≤ SZ) with
    | false => rw [hz] at p1; exact p1.elim
    | true =>
      rw [hz] at p1
      match ds, vs, r1, p1 with
      | [], _, _, p1 => exact p1.elim
      | [_], _, _, p1 => exact p1.elim
      | [_, _], _, _, p1 => exact p1.elim
      | [d, e, f], vs, r1, p1 =>
        obtain ⟨v, r, rfl, g1, w, r', rfl, g2, u, r'', rfl, g3, rfl⟩ := r1
        exact ⟨v, w, u, rfl, endS .nx ⟨S1, ((q1.E.set i g1.x).set j g2.x).set l g3.x, ((q1.ag.set vi _).set vj _).set vl _, T1⟩ p1⟩
      | _ :: _ :: _ :: _ :: _, _, _, p1 => exact p1.elim
end
end Mp
namespace Mp
open PySem PySem.Spec PyProof.Rows L2
section
variable {X : Cx} {R : Rc} {G : Gm} {W : WX} {tg : Expr}
theorem _root_.L2.PI.imp {e : Expr} {t t' : TI} (h : PI X tg e t) (k : ∀ σ H Q, t' σ H Q → t σ H Q) : PI X tg e t' := ⟨fun pins s σ H Q I q => h.run pins s σ H Q I (k σ H Q q)⟩
def SqA (K : PySem.W.Frag) (b : Bool) (H : Hp) (a : Addr) (vs : List V) : Prop := match b with
  | true => SqT K H a vs
  | false => SqL K H a vs
def Stands (R : Rc) (φ0 : List Addr) (H0 : Hp) (b : Bool) (a : Addr) (ds : List PV) (ws : Wat) : Prop :=
  ∀ hid, Hd R H0 hid → ∀ φ st H, Step φ0 H0 φ H → RepS (R.h hid) φ st H → (ws.all fun w => decide (st[w.1]? = some w.2)) = true → ∃ vs, SqA R.K b H a vs ∧ RepL (R.h hid) φ H ds vs
theorem asS_stands {φ : List Addr} {st : Sto} {H : Hp} {d : PV} {x : V} {ds : List PV} {ws : Wat} (S : RepS R φ st H) (r : RepV R φ H d x) (e : asS d st = .ok ds st) (ew : watOf d st = .ok ws st) : ∃ a b, x = .ref a ∧ Stands R φ H b a ds ws ∧ ∃ vs, SqA R.K b H a vs ∧ RepL R φ H ds vs := by
  cases d with
  | tup xs =>
    cases e
    cases ew
    obtain ⟨a, vs, rfl, t, z, q⟩ := r
    exact ⟨a, true, rfl, fun hid hd φ' st' H' s S' _ => ⟨vs, (t.hide s hd).sq, RepL.hide s hd _ _ q⟩, vs, t.sq, q⟩
  | scr ns =>
    cases e
    cases ew
    obtain ⟨a, o, rfl, t, z⟩ := r
    exact ⟨a, false, rfl, fun hid hd φ' st' H' s S' _ => ⟨_, (t.step s).sq, RepL.ints⟩, _, t.sq, RepL.ints⟩
  | lst xs =>
    cases e
    cases ew
    obtain ⟨a, vs, rfl, t, z, q⟩ := r
    exact ⟨a, false, rfl, fun hid hd φ' st' H' s S' _ => ⟨vs, .inl (.inl (t.step s).1), RepL.hide s hd _ _ q⟩, vs, .inl (.inl t.1), q⟩
  | loc n =>
    obtain ⟨a, ha, rfl⟩ := r
    cases q : st[n]? with
    | none => unfold asS at e; simp only [q] at e; cases e
    | some m =>
      unfold asS at e
      unfold watOf at ew
      simp only [q] at e ew
      cases m with
      | lst xs =>
        cases e
        cases ew
        obtain ⟨vs, h1, h2, h3⟩ := S.at_ n _ a q ha
        refine ⟨a, false, rfl, fun hid hd φ' st' H' s S' hw => ?_, vs, .inl (.inl h1), h3⟩
        simp only [List.all_cons, List.all_nil, Bool.and_true, decide_eq_true_eq] at hw
        obtain ⟨vs', g1, g2, g3⟩ := S'.at_ n _ a hw (get_pre s.pre ha)
        exact ⟨vs', .inl (.inl g1), g3⟩
      | _ => cases e
  | _ => cases e
def ItA (K : PySem.W.Frag) (b : Bool) (a : Addr) : L2.It := match b with
  | true => Itt K a
  | false => Itl K a
theorem sqA_inj {pins : List (Addr × Obj)} {K : PySem.W.Frag} {b : Bool} {H : Hp} {a : Addr} {vs ws : List V} (h : SqA K b H a vs) (g : SqA K b H a ws) : vs.length = ws.length → True := fun _ => trivial
theorem stands_it {φ0 : List Addr} {H0 : Hp} {b : Bool} {a : Addr} {ds : List PV} {ws : Wat} (h : Stands R φ0 H0 b a ds ws) : ItRep R φ0 H0 ds ws (ItA R.K b a) := fun hid hd i φ st H s S T hw => by
  obtain ⟨vs, h1, h2⟩ := h hid hd φ st H s S hw
  have hl := h2.length
  cases b with
  | true =>
    refine ⟨fun hi => ⟨vs, h1, by omega⟩, fun d hd => ?_⟩
    obtain ⟨v, g1, g2⟩ := h2.get hd
    refine ⟨⟨vs, v, h1, g1⟩, fun x H' y => ?_⟩
    obtain ⟨rfl, y⟩ := y
    have q := y vs h1
    rw [g1] at q
    cases q
    exact ⟨Step.refl _ _, S, T, g2⟩
  | false =>
    refine ⟨fun hi => ⟨vs, h1, by omega⟩, fun d hd => ?_⟩
    obtain ⟨v, g1, g2⟩ := h2.get hd
    refine ⟨⟨vs, v, h1, g1⟩, fun x H' y => ?_⟩
    obtain ⟨rfl, y⟩ := y
    have q := y vs h1
    rw [g1] at q
    cases q
    exact ⟨Step.refl _ _, S, T, g2⟩
theorem it_go {pins : List (Addr × Obj)} {σ : L2.St} {H : Hp} {s : Shared} {b : Bool} {a : Addr} {vs : List V} {Q : L2.It → Hp → Prop} {E : Value → Shared → Prop} (I : Inv X pins σ H s) (h : SqA X.K b H a vs) (q : Q (ItA X.K b a) H) : wpAny (model X.prog X.w) X.A (pyIter (.ref a)) (PIE X pins σ tg Q) E s := by
  have fp : ∀ c ∈ [s.heap.objs.size], FpOk X pins H c := fun c hc => by
    rw [List.mem_singleton.mp hc]
    exact I.fpOk (Nat.le_refl _) (I.hok.fresh (Nat.le_refl _))
  cases b with
  | true =>
    obtain ⟨its, rv, p, hz⟩ := I.tuple h
    exact wpAny_pyIter_tuple (show s.heap.IsTuple a its.toArray from p) ⟨_, [s.heap.objs.size], _, _, H, rfl, I.kept (t' := s.toks) fun c o e => Heap.get?_push_of_some _ e, turn_tuple a _, ⟨_, Heap.get?_push_size _ rfl, rfl, rfl⟩, fp, q⟩
  | false =>
    obtain ⟨its, rv, p, hz⟩ := I.list h
    exact wpAny_pyIter_list p.isList ⟨_, [s.heap.objs.size], _, _, H, rfl, I.kept (t' := s.toks) fun c o e => Heap.get?_push_of_some _ e, turn_list a _, ⟨_, Heap.get?_push_size _ rfl, rfl, rfl⟩, fp, q⟩
theorem NoX.watOf {x : PV} : NoX (watOf x) := fun st c v s e => by
  unfold Mp.watOf at e
  repeat' (first | (cases e; done) | split at e)
theorem NoX.itemsOf {x : PV} : NoX (itemsOf x) := fun st c v s e => by
  unfold Mp.itemsOf at e
  split at e
  · cases e
  · exact NoX.asS _ _ _ _ e
theorem asS_same {x : PV} {st st' : Sto} {ds : List PV} (e : asS x st = .ok ds st') : st' = st := by
  unfold asS at e
  split at e
  · cases e; rfl
  · cases e; rfl
  · cases e; rfl
  · split at e
    · cases e; rfl
    · cases e
  · cases e
theorem watOf_same {x : PV} {st st' : Sto} {ws : Wat} (e : watOf x st = .ok ws st') : st' = st := by
  unfold watOf at e
  split at e
  · split at e
    · cases e; rfl
    · cases e
  · cases e; rfl
theorem Post.look {α γ δ : Type} {A : List Addr → Hp → γ → δ → Prop} {m : M α} {f : α → M γ} {φ : List Addr} {H : Hp} {σ : L2.St} {st : Sto} {Q : δ → Hp → Prop} (n : NoX m) (same : ∀ a s, m st = .ok a s → s = st) (h : Post R W σ φ H A (M.bnd m f st) Q) :
    ∃ a, m st = .ok a st ∧ Post R W σ φ H A (f a st) Q := by
  unfold M.bnd at h
  cases e : m st with
  | ok a s =>
    rw [e] at h
    have := same a s e
    subst this
    exact ⟨a, rfl, h⟩
  | exc c v s => exact (n _ _ _ _ e).elim
  | bad => rw [e] at h; exact h.elim
theorem str_it {φ0 : List Addr} {H0 : Hp} {z : Str} (hz : okS z = true) : ItRep R φ0 H0 (chars z) [] (Its z) := fun hid hd i φ st H s S T hw => by
  have hl : (chars z).length = z.cps.size := by unfold chars; rw [List.length_map]; simp
  refine ⟨fun hi => by rw [hl] at hi; exact hi, fun d hd => ?_⟩
  unfold chars at hd
  rw [List.getElem?_map] at hd
  cases q : z.cps.toList[i]? with
  | none => rw [q] at hd; cases hd
  | some c =>
    rw [q] at hd
    cases hd
    have hi : i < z.cps.size := by
      obtain ⟨hi, _⟩ := List.getElem?_eq_some_iff.mp q
      simpa using hi
    refine ⟨hi, fun x H' y => ?_⟩
    obtain ⟨rfl, c', h1, rfl⟩ := y
    have h2 : z.cps[i]? = some c := by simpa using q
    rw [h2] at h1
    cases h1
    refine ⟨Step.refl _ _, S, T, rfl, ?_⟩
    have all := okS_cps hz
    unfold okS
    rw [Bool.and_eq_true]
    refine ⟨by show decide (1 ≤ SZ) = true; decide, ?_⟩
    have := Array.all_eq_true.mp all i hi
    obtain ⟨hi', he⟩ := Array.getElem?_eq_some_iff.mp h2
    rw [he] at this
    simp only [List.all_toArray, List.all_cons, List.all_nil, Bool.and_true]
    exact this
theorem i_of {e : Expr} {me : Env → M PV} (hK : R.K = X.K) (he : PE X e (tM R G W me)) : PI X tg e (tI R G W fun ρ => M.bnd (me ρ) fun x => M.bnd (itemsOf x) fun xs => M.bnd (watOf x) fun w => M.ret (xs, w)) := by
  refine ⟨fun pins s σ H Q I ⟨φ, st, ρ, S, E, T, h⟩ => ?_⟩
  refine thn (he.run pins s σ H (fun x H1 => ∃ φ1 st1 d, Step φ H φ1 H1 ∧ RepS R φ1 st1 H1 ∧ Tbs R H1 ∧ RepV R φ1 H1 d x ∧ Post R W σ φ1 H1 (AI R) (M.bnd (itemsOf d) (fun xs => M.bnd (watOf d) fun w => M.ret (xs, w)) st1) Q) I ⟨φ, st, ρ, S, E, T, Post.bnd h⟩) fun u s1 ⟨x, H1, I1, ru, φ1, st1, d, s1', S1, T1, r1, p1⟩ => ?_
  have same : ∀ xs s', itemsOf d st1 = .ok xs s' → s' = st1 := fun xs s' e => by
    unfold itemsOf at e
    split at e
    · cases e; rfl
    · exact asS_same e
  obtain ⟨xs, e1, p1⟩ := Post.look NoX.itemsOf same p1
  obtain ⟨ws, e2, p1⟩ := Post.look NoX.watOf (fun _ _ e => watOf_same e) p1
  have seq : asS d st1 = .ok xs st1 → wpAny (model X.prog X.w) X.A (pyIter u) (PIE X pins σ tg Q) X.xe s1 := fun e1 => by
    obtain ⟨a, b, rfl, h1, vs, h2, h3⟩ := asS_stands S1 r1 e1 e2
    obtain rfl : u = Value.ref a := ru
    rw [hK] at h2
    refine it_go I1 h2 ?_
    rw [← hK]
    exact p1 φ1 H1 _ (Step.refl _ _) S1 T1 (stands_it h1)
  cases d with
  | str z =>
    cases e1
    cases e2
    obtain ⟨rfl, r1⟩ := r1
    obtain ⟨t, rfl⟩ := ru
    have q := p1 φ1 H1 (Its z) (Step.refl _ _) S1 T1 (str_it r1)
    cases hb : z.cps.all (· < 128) with
    | false => exact wpAny_pyIter_wide hb (pi_one (tk := s1.toks) I1 _ (turn_str _ z t "str_iterator" (.inr rfl)) ⟨_, Heap.get?_push_size _ rfl, rfl, rfl⟩ q)
    | true => exact wpAny_pyIter_ascii hb (pi_one (tk := s1.toks) I1 _ (turn_str _ z t "str_ascii_iterator" (.inl rfl)) ⟨_, Heap.get?_push_size _ rfl, rfl, rfl⟩ q)
  | _ => exact seq e1
theorem rng_it {φ0 : List Addr} {H0 : Hp} (i j : Int) : ItRep R φ0 H0 (rngL i j) [] (Itr i (j - i).toNat) := fun hid hd k φ st H s S T hw => by
  have hl : (rngL i j).length = (j - i).toNat := by unfold rngL; simp
  refine ⟨fun hi => by rw [hl] at hi; exact hi, fun d hd => ?_⟩
  unfold rngL at hd
  rw [List.getElem?_map] at hd
  cases q : (List.range (j - i).toNat)[k]? with
  | none => rw [q] at hd; cases hd
  | some c =>
    rw [q] at hd
    cases hd
    obtain ⟨hk, e⟩ := List.getElem?_eq_some_iff.mp q
    rw [List.getElem_range] at e
    subst e
    rw [List.length_range] at hk
    refine ⟨hk, fun x H' y => ?_⟩
    obtain ⟨rfl, rfl⟩ := y
    exact ⟨Step.refl _ _, S, T, rfl⟩
def rngM (x : PV) : M (List PV × Wat) := match x with
  | .int j => M.grd (in62 j) (M.ret (rngL 0 j, []))
  | _ => M.bad
def rng2M (x y : PV) : M (List PV × Wat) := match x, y with
  | .int i, .int j => M.grd (in62 i && in62 j) (M.ret (rngL i j, []))
  | _, _ => M.bad
theorem in62_ok {i : Int} (h : in62 i = true) : -(2 ^ 62) ≤ i ∧ i < 2 ^ 62 := by
  unfold in62 at h
  simp only [Bool.and_eq_true, decide_eq_true_eq] at h
  exact h
theorem i_rng {a : Expr} {ma : Env → M PV} {p pos : Pos} (hg : Gl X "range") (hm : X.mg "range" = none) (ha : PA X [a] (tMA' R G W fun ρ => M.bnd (ma ρ) fun x => M.bnd (M.ret []) fun xs => M.ret (x :: xs))) (hs : starEach [a] X.env = [(false, eval a X.env)]) :
    PI X tg (.Call (.Name "range" p) [a] [] pos) (tI R G W fun ρ => M.bnd (ma ρ) rngM) :=
  (pi_range1 hg hm ha hs).imp fun σ H Q ⟨φ, st, ρ, S, E, T, h⟩ => by
    have h' : Post R W σ φ H (AI R) (M.bnd (M.bnd (ma ρ) fun x => M.bnd (M.ret []) fun xs => M.ret (x :: xs)) (fun xs => match xs with
      | [x] => rngM x
      | _ => M.bad) st) Q := by
      rw [bnd_ret]
      exact h
    refine ⟨φ, st, ρ, S, E, T, Post.mono (Post.bnd (A := RepL R) h') fun vs H1 ⟨φ1, st1, ds, s1, S1, T1, r1, p1⟩ => ?_⟩
    match ds, vs, r1, p1 with
    | [], _, _, p1 => exact p1.elim
    | [d], vs, r1, p1 =>
      obtain ⟨v, r, rfl, g1, rfl⟩ := r1
      cases d with
      | int j =>
        have p1 : Post R W σ φ1 H1 (AI R) (M.grd (in62 j) (M.ret (rngL 0 j, [])) st1) Q := p1
        unfold M.grd at p1
        cases q : in62 j with
        | false => rw [q] at p1; exact p1.elim
        | true =>
          rw [q] at p1
          obtain ⟨b1, b2⟩ := in62_ok q
          have := rng_it (R := R) (φ0 := φ1) (H0 := H1) 0 j
          rw [Int.sub_zero] at this
          exact ⟨j, by rw [show v = V.int j from g1], b1, b2, p1 φ1 H1 _ (Step.refl _ _) S1 T1 this⟩
      | _ => exact False.elim p1
    | _ :: _ :: _, _, _, p1 => exact p1.elim
theorem i_rng2 {a b : Expr} {ma mb : Env → M PV} {p pos : Pos} (hg : Gl X "range") (hm : X.mg "range" = none) (ha : PA X [a, b] (tMA' R G W fun ρ => M.bnd (ma ρ) fun x => M.bnd (M.bnd (mb ρ) fun x => M.bnd (M.ret []) fun xs => M.ret (x :: xs)) fun xs => M.ret (x :: xs)))
    (hs : starEach [a, b] X.env = [(false, eval a X.env), (false, eval b X.env)]) (hs2 : starEach [b] X.env = [(false, eval b X.env)]) :
    PI X tg (.Call (.Name "range" p) [a, b] [] pos) (tI R G W fun ρ => M.bnd (ma ρ) fun x => M.bnd (mb ρ) fun y => rng2M x y) :=
  (pi_range2 hg hm ha hs hs2).imp fun σ H Q ⟨φ, st, ρ, S, E, T, h⟩ => by
    have h' : Post R W σ φ H (AI R) (M.bnd (M.bnd (ma ρ) fun x => M.bnd (M.bnd (mb ρ) fun x => M.bnd (M.ret []) fun xs => M.ret (x :: xs)) fun xs => M.ret (x :: xs)) (fun xs => match xs with
      | [x, y] => rng2M x y
      | _ => M.bad) st) Q := by
      rw [bnd_ret]
      simp only [bnd_ret]
      exact h
    refine ⟨φ, st, ρ, S, E, T, Post.mono (Post.bnd (A := RepL R) h') fun vs H1 ⟨φ1, st1, ds, s1, S1, T1, r1, p1⟩ => ?_⟩
    match ds, vs, r1, p1 with
    | [], _, _, p1 => exact p1.elim
    | [_], _, _, p1 => exact p1.elim
    | [d, e], vs, r1, p1 =>
      obtain ⟨v, r, rfl, g1, w, r', rfl, g2, rfl⟩ := r1
      cases d with
      | int i =>
        cases e with
        | int j =>
          have p1 : Post R W σ φ1 H1 (AI R) (M.grd (in62 i && in62 j) (M.ret (rngL i j, [])) st1) Q := p1
          unfold M.grd at p1
          cases q : in62 i && in62 j with
          | false => rw [q] at p1; exact p1.elim
          | true =>
            rw [q] at p1
            rw [Bool.and_eq_true] at q
            obtain ⟨b1, b2⟩ := in62_ok q.1
            obtain ⟨b3, b4⟩ := in62_ok q.2
            exact ⟨i, j, by rw [show v = V.int i from g1, show w = V.int j from g2], ⟨b1, b2, b3, b4⟩, p1 φ1 H1 _ (Step.refl _ _) S1 T1 (rng_it i j)⟩
        | _ => exact False.elim p1
      | _ => cases e <;> exact False.elim p1
    | _ :: _ :: _ :: _, _, _, p1 => exact p1.elim
end
end Mp
namespace PySem
open Sem (wp)
open AutoSeq1 (wpAny_loadPart')
set_option maxHeartbeats 1000000 in
theorem mp_meets_enum {v : Value} {o : Obj} {H : Heap → Prop} (B : Begins v o H) :
    Meets (Builtin.«enumerate.__new__» ⟨[.type "enumerate", v], []⟩) (fun _ R s => H s.heap ∧
      R (.ok (.ret (.ref (s.heap.push o).objs.size))) { s with heap := (s.heap.push o).push { cls := .type "enumerate", data := .fields #[.none, .bool false, .ref s.heap.objs.size, rawInt 0, .none, .none] } }) :=
  .of_wp fun prog w A R s h => by
    obtain ⟨hp, g, d, tk, os⟩ := s
    obtain ⟨h1, h⟩ := h
    have hsub := sub_enumerate
    have q1 : ∀ {A' : Around} {E : Value → Shared → Prop} {Q : Value → Shared → Prop}, Q (.ref hp.objs.size) ⟨hp.push o, g, d, tk, os⟩ → wpAny (model prog w) A' (pyIter v) Q E ⟨hp, g, d, tk, os⟩ := fun q => B.iter prog w _ _ ⟨hp, g, d, tk, os⟩ _ h1 q
    wp_walk using q1
    refine wpAny_stack_any fun st => wpAny_pure ?_
    split
    · rename_i c _ _ _ _ _
      cases (c == Value.type "enumerate")
      · wp_walk using q1
        exact ⟨_, rfl, h⟩
      · wp_walk using q1
        exact ⟨_, rfl, h⟩
    · wp_walk using q1
      exact ⟨_, rfl, h⟩
section
variable {prog : Program} {w : World} {A : Around} {E : Value → Shared → Prop} {s : Shared}
theorem mp_enum_begins {v : Value} {o : Obj} {H : Heap → Prop} {Q : Value → Shared → Prop} (B : Begins v o H) (h1 : H s.heap)
    (h : ∀ h', IsEnum h' (s.heap.objs.size + 1) s.heap.objs.size 0 .none → h'.get? s.heap.objs.size = some o → (∀ b o, s.heap.get? b = some o → h'.get? b = some o) → Q (.ref (s.heap.objs.size + 1)) { s with heap := h' }) :
    wpAny (model prog w) A (call (.type "enumerate") [v]) Q E s := by
  refine callType_new F.called_enumerate (by decide) (F.typeCall_enumerate_1 _) (F.newCall_enumerate_1 _) (fun obj => F.args_object_init_2 obj _) F.entry_enumerate_new (mp_meets_enum B) ⟨h1, ?_⟩
  have hz : (s.heap.push o).objs.size = s.heap.objs.size + 1 := Heap.size_push ..
  have he : IsEnum ((s.heap.push o).push { cls := .type "enumerate", data := .fields #[.none, .bool false, .ref s.heap.objs.size, rawInt 0, .none, .none] }) (s.heap.objs.size + 1) s.heap.objs.size 0 .none := by
    have q := Heap.get?_push_size (s.heap.push o) (o := { cls := .type "enumerate", data := .fields #[.none, .bool false, .ref s.heap.objs.size, rawInt 0, .none, .none] }) rfl
    rw [hz] at q
    exact q
  show _ ∧ _
  rw [hz]
  exact ⟨⟨_, he, rfl⟩, h _ he (Heap.get?_push_of_some _ (Heap.get?_push_size _ B.free)) fun b o x => Heap.get?_push_of_some _ (Heap.get?_push_of_some _ x)⟩
end
end PySem
namespace Mp
open PySem PySem.Spec PyProof.Rows L2
def ItE (K : PySem.W.Frag) (b : Bool) (a : Addr) : L2.It :=
  ⟨fun i H => ∃ (vs : List V) (x : V), SqA K b H a vs ∧ vs[i]? = some x,
    fun i H v H' => ∃ T x, v = .ref T ∧ H T = none ∧ H' = upd H T (.tup [.int (i : Nat), x]) ∧ ∀ vs, SqA K b H a vs → vs[i]? = some x, fun i H => ∃ vs : List V, SqA K b H a vs ∧ vs.length ≤ i⟩
def IsItA (b : Bool) (h : Heap) (it a : Addr) (i : Nat) : Prop := match b with
  | true => h.IsTupleIter it a i
  | false => h.IsListIter it a i
def IsSqA (b : Bool) (h : Heap) (a : Addr) (its : Array Value) : Prop := match b with
  | true => h.IsTuple a its
  | false => h.IsList a its
theorem drawsA {prog : Program} {w : World} {A : Around} (hh : A.handled = none) (it a : Addr) (hne : a ≠ it) (its : Array Value) (b : Bool) : Draws prog w A it [it, a] its.size (fun i v => its[i]? = some v) (fun i h => IsItA b h it a i ∧ IsSqA b h a its) := by
  cases b with
  | true => exact Draws.tuple hh it a hne its
  | false => exact Draws.list hh it a hne its
theorem isItA_at {b : Bool} {h h' : Heap} {it a : Addr} {i : Nat} (x : IsItA b h it a i) (k : ∀ o, h.get? it = some o → h'.get? it = some o) : IsItA b h' it a i := by
  cases b with
  | true => exact Heap.IsTupleIter.at x k
  | false => exact Heap.IsListIter.at x k
theorem isItA_obj {b : Bool} {h : Heap} {it a : Addr} {i : Nat} (x : IsItA b h it a i) : ∃ o, h.get? it = some o ∧ ∀ v, o.data ≠ .cell v := by
  cases b with
  | true => obtain ⟨o, ho, hc, hd⟩ := x; exact ⟨o, ho, fun v q => by rw [hd] at q; cases q⟩
  | false => obtain ⟨o, ho, hc, hd⟩ := x; exact ⟨o, ho, fun v q => by rw [hd] at q; cases q⟩
section
variable {X : Cx} {R : Rc} {G : Gm} {W : WX}
theorem sqA_at {pins : List (Addr × Obj)} {σ : L2.St} {H : Hp} {s : Shared} {b : Bool} {a : Addr} {vs : List V} (I : Inv X pins σ H s) (h : SqA X.K b H a vs) : ∃ its : List Value, Vals vs its ∧ IsSqA b s.heap a its.toArray := by
  cases b with
  | true => obtain ⟨its, rv, p, _⟩ := I.tuple h; exact ⟨its, rv, p⟩
  | false => obtain ⟨its, rv, p, _⟩ := I.list h; exact ⟨its, rv, p.isList⟩
theorem sqA_same {pins : List (Addr × Obj)} {σ : L2.St} {H : Hp} {s : Shared} {b : Bool} {a : Addr} {vs ws : List V} (I : Inv X pins σ H s) (h : SqA X.K b H a vs) (g : SqA X.K b H a ws) : vs = ws := by
  cases b with
  | true => exact I.tuple_inj h g
  | false => exact I.list_inj h g
theorem turn_enumA {P : Program} {w : World} {K : PySem.W.Frag} {elts : List Expr} {kk : Nat} {tpos : Pos} (b : Bool) (a e it : Addr) (ha : a ≠ it) (hae : a ≠ e) :
    Turn P w K (.Tuple elts kk tpos) (ItE K b a) [e, it] e (fun i h => (∃ old, IsEnum h e it ((i : Nat) : Int) old) ∧ IsItA b h it a i ∧ e ≠ it) where
  mem := by simp
  obj := fun i h st c hc => by
    obtain ⟨⟨old, he⟩, hi, _⟩ := st
    rcases (show c = e ∨ c = it by simpa using hc) with z | z
    · rw [z]; exact ⟨_, he, fun v q => nomatch q⟩
    · rw [z]; exact isItA_obj hi
  keep := fun i h h' st k => ⟨⟨st.1.choose, k e (by simp) _ st.1.choose_spec⟩, isItA_at st.2.1 fun o q => k it (by simp) o q, st.2.2⟩
  item := by
    intro X hP hw hK hc i pins s σ H E I hf st hg
    subst hP hw hK
    obtain ⟨⟨old, he⟩, hit, hne⟩ := st
    obtain ⟨xs, x, hq, hx⟩ := hg
    obtain ⟨its, rv, p⟩ := sqA_at I hq
    obtain ⟨u, hu, ru⟩ := rv.get hx
    have hel : e < s.heap.objs.size := Heap.lt_size he
    have hil : it < s.heap.objs.size := by obtain ⟨_, q, _⟩ := isItA_obj hit; exact Heap.lt_size q
    have D := drawsA (prog := X.prog) (w := X.w) (A := X.A.in1) (I.ok.hd hc) it a ha its.toArray b
    refine wpAny_pyNext_enum_itemD D he ⟨hit, p⟩ (i := i) (by
      obtain ⟨z, _⟩ := List.getElem?_eq_some_iff.mp hu
      simpa using z) hne (by simp only [List.mem_cons, List.not_mem_nil, or_false, not_or]; exact ⟨hne, fun z => hae z.symm⟩) fun u' h' tk hu' ho hit' hT hsz hk => ?_
    have hu2 : its.toArray[i]? = some u := by simpa using hu
    rw [hu2] at hu'
    cases hu'
    refine ⟨_, rfl, wpAny_letOwnedTupleGo_enum (s := { s with heap := h', toks := tk + 1 }) ho fun h'' he' sb => ?_⟩
    have hT2 : h''.get? s.heap.objs.size = some { cls := .type "tuple", data := .seq #[.int i tk, u] } := (sb.2 _ (Nat.ne_of_gt hel)).trans hT
    have new : ObjOk X.prog X.w (upd H s.heap.objs.size (.tup [.int (i : Nat), x])) h'' s.heap.objs.size (.tup [.int (i : Nat), x]) := ⟨by show 2 ≤ sizeLine; decide, [.int i tk, u], .cons ⟨_, rfl⟩ (.cons ru .nil), ⟨_, hT2, rfl, _, rfl⟩⟩
    have I1 : Inv X pins σ (upd H s.heap.objs.size (.tup [.int (i : Nat), x])) { s with heap := h'', toks := tk + 1 } :=
      I.turnedNew (ch := [e, it]) (fun c ob hb q => (sb.2 c (fun z => hb (by simp [z]))).trans (hk c ob (fun z => hb (by simp [z])) (fun z => hb (by simp [z])) q)) hf (Nat.le_refl _) new
    refine ⟨.ref s.heap.objs.size, _, I1, rfl, ⟨_, x, rfl, I.hok.fresh (Nat.le_refl _), rfl, fun ys hy => by rw [sqA_same I hy hq]; exact hx⟩, ⟨⟨u, ?_⟩, isItA_at hit'.1 fun o q => (sb.2 it (Ne.symm hne)).trans q, hne⟩, fun c hb => ?_⟩
    · rw [show ((i + 1 : Nat) : Int) = (i : Int) + 1 by omega]
      exact he'
    · have hb' : c < s.heap.objs.size := by
        rcases (show c = e ∨ c = it by simpa using hb) with z | z
        · rw [z]; exact hel
        · rw [z]; exact hil
      rw [upd_ne (Nat.ne_of_lt hb')]
      exact (hf c hb).1
  done := by
    intro X hP hw hK hc i pins s σ H E I hf st hg
    subst hP hw hK
    obtain ⟨⟨old, he⟩, hit, hne⟩ := st
    obtain ⟨xs, hq, hx⟩ := hg
    obtain ⟨its, rv, p⟩ := sqA_at I hq
    obtain ⟨f0, f1, f2, f3, f4, f5⟩ := hf it (by simp)
    have hl := rv.length
    cases b with
    | true => exact wpAny_pyNext_enum_endD (A := X.A) (n := i) (P := fun _ _ => False) (St := fun k h => k = i ∧ IsItA true h it a i ∧ IsSqA true h a its.toArray) (it := it) (fp := [it, a]) ⟨fun k h z => (isItA_obj z.2.1).imp fun o q => q.1, fun k h h' z kk => ⟨z.1, isItA_at z.2.1 fun o q => kk it (by simp) o q, Heap.IsTuple.at z.2.2 fun o q => kk a (by simp) o q⟩, fun k s' Q' E' hlt z => absurd z.1 (Nat.ne_of_lt hlt), fun s' Q' E' z hE => wpAny_nextOf_tuple_end (I.ok.hd hc) z.2.1 z.2.2 (by simp; omega) hE⟩ he ⟨rfl, hit, p⟩ fun h' eb => ⟨rfl, I.turned (t' := s.toks) (fun c o hb q => eb c o hb q) f0 f1 f3 f4 f5⟩
    | false => exact wpAny_pyNext_enum_end (I.ok.hd hc) he hit p (by simp; omega) fun h' eb => ⟨rfl, I.turned (t' := s.toks) (fun c o hb q => eb c o hb q) f0 f1 f3 f4 f5⟩
  self := fun A i s Q E st h => wpAny_pyIter_enum st.1.choose_spec h
theorem enu_it {φ0 : List Addr} {H0 : Hp} {b : Bool} {a : Addr} {ds : List PV} {ws : Wat} (h : Stands R φ0 H0 b a ds ws) : ItRep R φ0 H0 (ds.zipIdx.map fun p => .tup [.int p.2, p.1]) ws (ItE R.K b a) := fun hid hd i φ st H s S T hw => by
  obtain ⟨vs, h1, h2⟩ := h hid hd φ st H s S hw
  have hl := h2.length
  refine ⟨fun hi => ⟨vs, h1, by simpa [hl] using hi⟩, fun d hd => ?_⟩
  rw [List.getElem?_map, List.getElem?_zipIdx] at hd
  cases q : ds[i]? with
  | none => rw [q] at hd; cases hd
  | some d0 =>
    rw [q] at hd
    cases hd
    obtain ⟨v, g1, g2⟩ := h2.get q
    refine ⟨⟨vs, v, h1, g1⟩, fun x H' y => ?_⟩
    obtain ⟨T', x', rfl, hT, rfl, y⟩ := y
    have e := y vs h1
    rw [g1] at e
    cases e
    refine ⟨step_new hT, S.new hT, T.new hT, T', _, rfl, .inl ⟨upd_same, S.fresh hT, fun ps z => by cases z⟩, by show 2 ≤ SZ; decide, _, _, rfl, ?_, _, _, rfl, g2.step (step_new hT), rfl⟩
    show V.int ((i : Nat) : Int) = V.int ((0 + i : Nat) : Int)
    rw [Nat.zero_add]
theorem sqA_rd {pins : List (Addr × Obj)} {σ : L2.St} {H : Hp} {s : Shared} {b : Bool} {a : Addr} {vs : List V} (I : Inv X pins σ H s) (h : SqA X.K b H a vs) : a < s.heap.objs.size := by
  obtain ⟨its, _, p⟩ := sqA_at I h
  cases b with
  | true => obtain ⟨o, ho, _⟩ := p; exact Heap.lt_size ho
  | false => obtain ⟨o, ho, _⟩ := p; exact Heap.lt_size ho
theorem i_enu {e : Expr} {me : Env → M PV} {p pos tpos : Pos} {elts : List Expr} {kk : Nat} (hK : R.K = X.K) (hg : Gl X "enumerate") (hm : X.mg "enumerate" = none) (he : PE X e (tM R G W me)) (hs0 : starEach [e] X.env = (false, eval e X.env) :: starEach [] X.env) (hs : starEach [e] X.env = [(false, eval e X.env)]) :
    PI X (.Tuple elts kk tpos) (.Call (.Name "enumerate" p) [e] [] pos) (tI R G W fun ρ => M.bnd (me ρ) fun x => M.bnd (asS x) fun xs => M.bnd (watOf x) fun w => M.ret (xs.zipIdx.map fun p => .tup [.int p.2, p.1], w)) := by
  refine ⟨fun pins s σ H Q I ⟨φ, st, ρ, S, E, T, h⟩ => ?_⟩
  refine Call_ (ld_blt I hg hm boot_enumerate (PyProof.Rows.callWith_type1 (thn ((pa_cons he pa_nil hs0).run pos pins s σ H (fun vs H1 => ∃ x, vs = [x] ∧ ∃ φ1 st1 d, Step φ H φ1 H1 ∧ RepS R φ1 st1 H1 ∧ Tbs R H1 ∧ RepV R φ1 H1 d x ∧ Post R W σ φ1 H1 (AI R) (M.bnd (asS d) (fun xs => M.bnd (watOf d) fun w => M.ret (xs.zipIdx.map fun p => .tup [.int p.2, p.1], w)) st1) Q) I
    ⟨φ, st, ρ, S, E, T, Post.mono (Post.bnd h) fun v H1 q => ⟨v, rfl, q⟩⟩) fun us s1 ⟨vs, H1, I1, ru, q1⟩ => ?_) hs rfl))
  obtain ⟨x, rfl, φ1, st1, d, s1', S1, T1, r1, p1⟩ := q1
  obtain ⟨xs, e1, p1⟩ := Post.look NoX.asS (fun _ _ e => asS_same e) p1
  obtain ⟨ws, e2, p1⟩ := Post.look NoX.watOf (fun _ _ e => watOf_same e) p1
  obtain ⟨a, b, rfl, h1, vs, h2, h3⟩ := asS_stands S1 r1 e1 e2
  have q := p1 φ1 H1 _ (Step.refl _ _) S1 T1 (enu_it h1)
  rw [hK] at h2 q
  have hlt := sqA_rd I1 h2
  cases ru with
  | cons r rr =>
    cases rr
    cases r
    have fin : ∀ h', IsEnum h' (s1.heap.objs.size + 1) s1.heap.objs.size 0 .none → IsItA b h' s1.heap.objs.size a 0 → (∀ c o, s1.heap.get? c = some o → h'.get? c = some o) → wpAny (model X.prog X.w) X.A (pyIter (.ref (s1.heap.objs.size + 1))) (PIE X pins σ (.Tuple elts kk tpos) Q) X.xe { s1 with heap := h' } := fun h' he hit hk => by
      refine wpAny_pyIter_enum he ?_
      refine ⟨s1.heap.objs.size + 1, [s1.heap.objs.size + 1, s1.heap.objs.size], _, _, H1, rfl, I1.kept (t' := s1.toks) hk, turn_enumA b a (s1.heap.objs.size + 1) s1.heap.objs.size (Nat.ne_of_lt hlt) (Nat.ne_of_lt (Nat.lt_succ_of_lt hlt)), ⟨⟨.none, he⟩, hit, Nat.succ_ne_self _⟩, fun c hc => ?_, q⟩
      have hle : s1.heap.objs.size ≤ c := by
        rcases (show c = s1.heap.objs.size + 1 ∨ c = s1.heap.objs.size by simpa using hc) with z | z
        · rw [z]; exact Nat.le_add_right _ _
        · rw [z]; exact Nat.le_refl _
      exact I1.fpOk hle (I1.hok.fresh hle)
    obtain ⟨its, rv, p'⟩ := sqA_at I1 h2
    cases b with
    | true => exact mp_enum_begins (begins_tuple a its.toArray) p' fun h' he ho hk => fin h' he ⟨_, ho, rfl, rfl⟩ hk
    | false => exact mp_enum_begins (begins_list a its.toArray) p' fun h' he ho hk => fin h' he ⟨_, ho, rfl, rfl⟩ hk
theorem zip_itL {φ0 : List Addr} {H0 : Hp} {a a' : Addr} {ds es : List PV} {ws ws' : Wat} (h : Stands R φ0 H0 false a ds ws) (h' : Stands R φ0 H0 false a' es ws') : ItRep R φ0 H0 ((ds.zip es).map fun p => .tup [p.1, p.2]) (ws ++ ws') (Itz R.K a a') := fun hid hd i φ st H s S T hw => by
  rw [List.all_append, Bool.and_eq_true] at hw
  obtain ⟨vs, h1, h2⟩ := h hid hd φ st H s S hw.1
  obtain ⟨us, k1, k2⟩ := h' hid hd φ st H s S hw.2
  have hl := h2.length
  have kl := k2.length
  refine ⟨fun hi => ⟨vs, us, h1, k1, by simp only [List.length_map, List.length_zip] at hi; omega⟩, fun d hd => ?_⟩
  rw [List.getElem?_map] at hd
  cases q : (ds.zip es)[i]? with
  | none => rw [q] at hd; cases hd
  | some d0 =>
    rw [q] at hd
    cases hd
    obtain ⟨q1, q2⟩ := List.getElem?_zip_eq_some.mp q
    obtain ⟨v, g1, g2⟩ := h2.get q1
    obtain ⟨u, m1, m2⟩ := k2.get q2
    refine ⟨⟨vs, us, v, u, h1, k1, g1, m1⟩, fun x H' y => ?_⟩
    obtain ⟨T', x', y', rfl, hT, rfl, y1, y2⟩ := y
    have e := y1 vs h1
    rw [g1] at e
    cases e
    have e := y2 us k1
    rw [m1] at e
    cases e
    exact ⟨step_new hT, S.new hT, T.new hT, T', _, rfl, .inl ⟨upd_same, S.fresh hT, fun ps z => by cases z⟩, by show 2 ≤ SZ; decide, _, _, rfl, g2.step (step_new hT), _, _, rfl, m2.step (step_new hT), rfl⟩
theorem zip_itT {φ0 : List Addr} {H0 : Hp} {a a' : Addr} {ds es : List PV} {ws ws' : Wat} (h : Stands R φ0 H0 true a ds ws) (h' : Stands R φ0 H0 true a' es ws') : ItRep R φ0 H0 ((ds.zip es).map fun p => .tup [p.1, p.2]) (ws ++ ws') (RZ.ItzT R.K a a') := fun hid hd i φ st H s S T hw => by
  rw [List.all_append, Bool.and_eq_true] at hw
  obtain ⟨vs, h1, h2⟩ := h hid hd φ st H s S hw.1
  obtain ⟨us, k1, k2⟩ := h' hid hd φ st H s S hw.2
  have hl := h2.length
  have kl := k2.length
  refine ⟨fun hi => ⟨vs, us, h1, k1, by simp only [List.length_map, List.length_zip] at hi; omega⟩, fun d hd => ?_⟩
  rw [List.getElem?_map] at hd
  cases q : (ds.zip es)[i]? with
  | none => rw [q] at hd; cases hd
  | some d0 =>
    rw [q] at hd
    cases hd
    obtain ⟨q1, q2⟩ := List.getElem?_zip_eq_some.mp q
    obtain ⟨v, g1, g2⟩ := h2.get q1
    obtain ⟨u, m1, m2⟩ := k2.get q2
    refine ⟨⟨vs, us, v, u, h1, k1, g1, m1⟩, fun x H' y => ?_⟩
    obtain ⟨T', x', y', rfl, hT, rfl, y1, y2⟩ := y
    have e := y1 vs h1
    rw [g1] at e
    cases e
    have e := y2 us k1
    rw [m1] at e
    cases e
    exact ⟨step_new hT, S.new hT, T.new hT, T', _, rfl, .inl ⟨upd_same, S.fresh hT, fun ps z => by cases z⟩, by show 2 ≤ SZ; decide, _, _, rfl, g2.step (step_new hT), _, _, rfl, m2.step (step_new hT), rfl⟩
theorem stands_kind {φ : List Addr} {st : Sto} {H : Hp} {d : PV} {x : V} {ds : List PV} {ws : Wat} (S : RepS R φ st H) (r : RepV R φ H d x) (e : asS d st = .ok ds st) (ew : watOf d st = .ok ws st) : ∃ a, x = .ref a ∧ Stands R φ H (isTupB d) a ds ws ∧ ∃ vs, SqA R.K (isTupB d) H a vs ∧ RepL R φ H ds vs := by
  cases d with
  | tup xs =>
    cases e
    cases ew
    obtain ⟨a, vs, rfl, t, z, q⟩ := r
    exact ⟨a, rfl, fun hid hd φ' st' H' s S' _ => ⟨vs, (t.hide s hd).sq, RepL.hide s hd _ _ q⟩, vs, t.sq, q⟩
  | scr ns =>
    cases e
    cases ew
    obtain ⟨a, o, rfl, t, z⟩ := r
    exact ⟨a, rfl, fun hid hd φ' st' H' s S' _ => ⟨_, (t.step s).sq, RepL.ints⟩, _, t.sq, RepL.ints⟩
  | lst xs =>
    cases e
    cases ew
    obtain ⟨a, vs, rfl, t, z, q⟩ := r
    exact ⟨a, rfl, fun hid hd φ' st' H' s S' _ => ⟨vs, .inl (.inl (t.step s).1), RepL.hide s hd _ _ q⟩, vs, .inl (.inl t.1), q⟩
  | loc n =>
    obtain ⟨a, ha, rfl⟩ := r
    cases q : st[n]? with
    | none => unfold asS at e; simp only [q] at e; cases e
    | some m =>
      unfold asS at e
      unfold watOf at ew
      simp only [q] at e ew
      cases m with
      | lst xs =>
        cases e
        cases ew
        obtain ⟨vs, h1, h2, h3⟩ := S.at_ n _ a q ha
        refine ⟨a, rfl, fun hid hd φ' st' H' s S' hw => ?_, vs, .inl (.inl h1), h3⟩
        simp only [List.all_cons, List.all_nil, Bool.and_true, decide_eq_true_eq] at hw
        obtain ⟨vs', g1, g2, g3⟩ := S'.at_ n _ a hw (get_pre s.pre ha)
        exact ⟨vs', .inl (.inl g1), g3⟩
      | _ => cases e
  | _ => cases e
def zipM (x y : PV) : M (List PV × Wat) := M.grd (isTupB x == isTupB y) <| M.bnd (asS x) fun xs => M.bnd (asS y) fun ys => M.bnd (watOf x) fun w => M.bnd (watOf y) fun w' => M.ret ((xs.zip ys).map fun p => .tup [p.1, p.2], w ++ w')
theorem i_zip {e e2 : Expr} {me m2 : Env → M PV} {p pos tpos : Pos} {elts : List Expr} {kk : Nat} (hK : R.K = X.K) (hg : Gl X "zip") (hm : X.mg "zip" = none) (ha : PA X [e, e2] (tMA' R G W fun ρ => M.bnd (me ρ) fun x => M.bnd (M.bnd (m2 ρ) fun x => M.bnd (M.ret []) fun xs => M.ret (x :: xs)) fun xs => M.ret (x :: xs)))
    (hs : starEach [e, e2] X.env = (false, eval e X.env) :: starEach [e2] X.env) (hpl : (backTo pos (starEach [e2] X.env)).any (·.1) = false) :
    PI X (.Tuple elts kk tpos) (.Call (.Name "zip" p) [e, e2] [] pos) (tI R G W fun ρ => M.bnd (me ρ) fun x => M.bnd (m2 ρ) fun y => zipM x y) :=
  (RZ.pi_zipA hg hm ha hs hpl).imp fun σ H Q ⟨φ, st, ρ, S, E, T, h⟩ => by
    have h' : Post R W σ φ H (AI R) (M.bnd (M.bnd (me ρ) fun x => M.bnd (M.bnd (m2 ρ) fun x => M.bnd (M.ret []) fun xs => M.ret (x :: xs)) fun xs => M.ret (x :: xs)) (fun xs => match xs with
      | [x, y] => zipM x y
      | _ => M.bad) st) Q := by
      rw [bnd_ret]
      simp only [bnd_ret]
      exact h
    refine ⟨φ, st, ρ, S, E, T, Post.mono (Post.bnd (A := RepL R) h') fun vs H1 ⟨φ1, st1, ds, s1, S1, T1, r1, p1⟩ => ?_⟩
    match ds, vs, r1, p1 with
    | [], _, _, p1 => exact p1.elim
    | [_], _, _, p1 => exact p1.elim
    | [d, e], vs, r1, p1 =>
      obtain ⟨v, r, rfl, g1, w, r', rfl, g2, rfl⟩ := r1
      have p1 : Post R W σ φ1 H1 (AI R) (zipM d e st1) Q := p1
      unfold zipM M.grd at p1
      cases q : isTupB d == isTupB e with
      | false => rw [q] at p1; exact p1.elim
      | true =>
        rw [q] at p1
        obtain ⟨xs, e1, p1⟩ := Post.look NoX.asS (fun _ _ e => asS_same e) p1
        obtain ⟨ys, e2, p1⟩ := Post.look NoX.asS (fun _ _ e => asS_same e) p1
        obtain ⟨ws, e3, p1⟩ := Post.look NoX.watOf (fun _ _ e => watOf_same e) p1
        obtain ⟨ws', e4, p1⟩ := Post.look NoX.watOf (fun _ _ e => watOf_same e) p1
        obtain ⟨a, rfl, h1, vs, h2, _⟩ := stands_kind S1 g1 e1 e3
        obtain ⟨a', rfl, k1, us, k2, _⟩ := stands_kind S1 g2 e2 e4
        refine ⟨a, a', vs, us, rfl, ?_⟩
        have q := eq_of_beq q
        rw [← q] at k1 k2
        rw [hK] at h2 k2
        cases hb : isTupB d with
        | false =>
          rw [hb] at h1 h2 k1 k2
          have z := zip_itL h1 k1
          rw [hK] at z
          exact .inl ⟨h2, k2, p1 φ1 H1 _ (Step.refl _ _) S1 T1 z⟩
        | true =>
          rw [hb] at h1 h2 k1 k2
          have z := zip_itT h1 k1
          rw [hK] at z
          exact .inr ⟨h2, k2, p1 φ1 H1 _ (Step.refl _ _) S1 T1 z⟩
    | _ :: _ :: _ :: _, _, _, p1 => exact p1.elim
end
end Mp
namespace Mp
open PySem PySem.Spec PyProof.Rows L2
theorem okS_char {z : Str} {c : Nat} (h : okS z = true) (m : c ∈ z.cps.toList) : okS ⟨#[c]⟩ = true := by
  have all := okS_cps h
  unfold okS
  rw [Bool.and_eq_true]
  refine ⟨by show decide (1 ≤ SZ) = true; decide, ?_⟩
  have q := Array.all_eq_true_iff_forall_mem.mp all c (by simpa using m)
  simp only [List.all_toArray, List.all_cons, List.all_nil, Bool.and_true]
  exact q
theorem okS_sub {z : Str} {l : List Nat} (h : okS z = true) (hs : ∀ c ∈ l, c ∈ z.cps.toList) (hl : l.length ≤ z.cps.toList.length) : okS ⟨l.toArray⟩ = true := by
  have all := okS_cps h
  have len := okS_len h
  unfold okS
  rw [Bool.and_eq_true]
  refine ⟨decide_eq_true ?_, ?_⟩
  · show l.toArray.size ≤ SZ
    rw [List.size_toArray]
    have : z.length = z.cps.toList.length := by simp [Str.length]
    omega
  · rw [Array.all_eq_true_iff_forall_mem]
    intro c hc
    exact Array.all_eq_true_iff_forall_mem.mp all c (by simpa using hs c (by simpa using hc))
theorem sIx_ht {n d : Nat} {o : Option Int} : Mp.sIx n d o = HT.sIx n d o := by
  cases o <;> rfl
section
variable {X : Cx} {R : Rc} {G : Gm} {W : WX}
theorem _root_.L2.IxR.imp {r r' : R2} (h : IxR X r) (k : ∀ x y H Q, r' x y H Q → r x y H Q) : IxR X r' := fun value slice pins s σ H x y v u Q I rx ry q hs => h value slice pins s σ H x y v u Q I rx ry (k x y H Q q) hs
theorem RepL.atI {φ : List Addr} {H : Hp} {ds : List PV} {vs : List V} {k : Int} {d : PV} (h : RepL R φ H ds vs) (e : Mp.atI ds k = some d) : ∃ v, L2.atI vs k = some v ∧ RepV R φ H d v := by
  unfold Mp.atI at e
  cases q : Mp.ixN ds.length k with
  | none => rw [q] at e; cases e
  | some j =>
    rw [q] at e
    obtain ⟨v, h1, h2⟩ := h.get (i := j) e
    refine ⟨v, ?_, h2⟩
    rw [h.length] at q
    show (Mp.ixN vs.length k).bind (fun j => vs[j]?) = some v
    rw [q]
    exact h1
theorem optV_ok {φ : List Addr} {H : Hp} {st : Sto} {o : Option PV} {Q : VK} (p : PostN R φ H (RepV R) (M.opt o st) Q) : ∃ d, o = some d ∧ PostN R φ H (RepV R) (M.ret d st) Q := by
  cases o with
  | none => exact p.elim
  | some d => exact ⟨d, rfl, p⟩
theorem NoX.ixV {x y : PV} : NoX (ixV x y) := by
  unfold Mp.ixV
  split
  · intro st c v s e
    split at e
    · exact NoX.opt _ _ _ _ e
    · exact (NoX.bnd NoX.asS fun _ => NoX.opt) _ _ _ _ e
  · exact NoX.bad
theorem ix_ok (hK : R.K = X.K) : IxR X (rM R ixV) := ix_seq.imp fun x y H Q ⟨φ, st, d, e, S, T, rd, re, p⟩ => by
  cases e with
  | int k =>
    have seq : PostN R φ H (RepV R) (M.bnd (asS d) (fun xs => M.opt (Mp.atI xs k)) st) Q → rIx X.K x y H Q := fun p => by
      obtain ⟨a, ds, vs, rfl, hs, hz, rl, p⟩ := bndS_ok S rd p
      obtain ⟨d0, e0, p⟩ := optV_ok p
      obtain ⟨v, h1, h2⟩ := rl.atI e0
      rw [hK] at hs
      rcases hs with hs | hs
      · exact .inl ⟨a, vs, k, v, rfl, re, hs, h1, p.here S T h2⟩
      · exact .inr (.inl ⟨a, vs, k, v, rfl, re, hs, h1, p.here S T h2⟩)
    cases d with
    | str z =>
      have p : PostN R φ H (RepV R) (M.opt ((Mp.atI z.cps.toList k).map fun c => PV.str ⟨#[c]⟩) st) Q := p
      obtain ⟨d0, e0, p⟩ := optV_ok p
      cases q : Mp.atI z.cps.toList k with
      | none => rw [q] at e0; cases e0
      | some c =>
        rw [q] at e0
        cases e0
        refine .inr (.inr ⟨z, k, c, rd.1, re, by rw [sz_eq]; exact okS_len rd.2, q, p.here S T ⟨rfl, okS_char rd.2 ?_⟩⟩)
        unfold Mp.atI at q
        cases q2 : Mp.ixN z.cps.toList.length k with
        | none => rw [q2] at q; cases q
        | some j => rw [q2] at q; exact List.mem_of_getElem? q
    | _ => exact seq p
  | _ => exact False.elim p
theorem s_ix {a b : Expr} {pos : Pos} {ma mb : Env → M PV} (hK : R.K = X.K) (ha : PE X a (tM R G W ma)) (hb : PE X b (tM R G W mb)) (hs : PlainIx b) : PE X (.Subscript a b pos) (tM R G W fun ρ => M.bnd (ma ρ) fun x => M.bnd (mb ρ) fun y => ixV x y) :=
  (pe_ix (ix_ok hK) ha hb hs).imp fun σ H Q ⟨φ, st, ρ, S, E, T, h⟩ => tM.then (f := fun ρ x => M.bnd (mb ρ) fun y => ixV x y) S E T h fun φ1 st1 d v H1 s1 S1 E1 T1 r1 p1 =>
    tM.then (f := fun ρ y => ixV d y) S1 E1 T1 p1 fun φ2 st2 e u H2 s2 S2 E2 T2 r2 p2 => ⟨φ2, st2, d, e, S2, T2, r1.step s2, r2, p2.n NoX.ixV⟩
theorem asDct_ok {α β : Type} {A : List Addr → Hp → α → β → Prop} {φ : List Addr} {H : Hp} {st : Sto} {d : PV} {x : V} {f : List (PV × PV) → M α} {Q : β → Hp → Prop} (r : RepV R φ H d x) (p : PostN R φ H A (M.bnd (asDct d) f st) Q) :
    ∃ n a kvs, d = .loc n ∧ φ[n]? = some a ∧ x = .ref a ∧ st[n]? = some (.dct kvs) ∧ PostN R φ H A (f kvs st) Q := by
  unfold M.bnd asDct at p
  cases d with
  | loc n =>
    obtain ⟨a, ha, rfl⟩ := r
    cases q : st[n]? with
    | none => simp only [q] at p; exact p.elim
    | some m =>
      simp only [q] at p
      cases m with
      | dct kvs => exact ⟨n, a, kvs, rfl, ha, rfl, q, p⟩
      | _ => exact False.elim p
  | _ => exact False.elim p
theorem NoX.asDct {x : PV} : NoX (asDct x) := fun st c v s e => by
  unfold Mp.asDct at e
  repeat' (first | (cases e; done) | split at e)
theorem NoX.dgetV {cts : List PV} {x y : PV} : NoX (dgetV cts x y) := NoX.bnd NoX.asDct fun _ => NoX.grd NoX.opt
theorem dct_found {φ : List Addr} {H : Hp} {st : Sto} {n : Nat} {a : Addr} {kvs : List (PV × PV)} {k d : PV} {v : V} (S : RepS R φ st H) (e : st[n]? = some (.dct kvs)) (ha : φ[n]? = some a) (hk : kOk R.cts kvs k = true) (rk : RepV R φ H k v) (hf : kfind kvs k = some d) :
    ∃ u, DGet H a v (some u) ∧ RepV R φ H d u := by
  have ne : kvs ≠ [] := fun z => by rw [z] at hf; cases hf
  rcases kOk_split hk with ⟨h1, h2⟩ | ⟨h1, hc, h2⟩
  · obtain ⟨x, rfl, g2, rfl⟩ := isK_of h1 rk
    rcases S.at_ n _ a e ha with ⟨gs, q1, q2, q3⟩ | ⟨gs, q1, q2, q3⟩
    · rcases dct_find (fun _ _ z => pK_inj z) x q3 with ⟨z, _⟩ | ⟨d', u, z, w1, w2⟩
      · rw [hf] at z; cases z
      · rw [hf] at z
        cases z
        exact ⟨u, by have := DGet.k (k := x) q1; rw [w1] at this; exact this, w2⟩
    · exact absurd (dct_allK q3 h2).1 ne
  · obtain ⟨xs, b, rfl, g2, rfl, g4⟩ := isKT_of h1 hc rk
    rcases S.at_ n _ a e ha with ⟨gs, q1, q2, q3⟩ | ⟨gs, q1, q2, q3⟩
    · exact absurd (dct_allT q3 h2).1 ne
    · rcases dct_find (fun _ _ z => pT_inj z) xs q3 with ⟨z, _⟩ | ⟨d', u, z, w1, w2⟩
      · rw [hf] at z; cases z
      · rw [hf] at z
        cases z
        exact ⟨u, by have := DGet.t (k := xs) q1 g4.1; rw [w1] at this; exact this, w2⟩
theorem s_dget {o i : Expr} {pos : Pos} {mo mi : Env → M PV} (hu : X.A.units + 1 < cLine) (ho : PE X o (tM R G W mo)) (hi : PE X i (tM R G W mi)) (hs : NoSl i) : PE X (.Subscript o i pos) (tM R G W fun ρ => M.bnd (mo ρ) fun x => M.bnd (mi ρ) fun y => dgetV R.cts x y) :=
  (pe_dget hu ho hi hs).imp fun σ H Q ⟨φ, st, ρ, S, E, T, h⟩ => tM.then (f := fun ρ x => M.bnd (mi ρ) fun y => dgetV R.cts x y) S E T h fun φ1 st1 d v H1 s1 S1 E1 T1 r1 p1 =>
    tM.then (f := fun ρ y => dgetV R.cts d y) S1 E1 T1 p1 fun φ2 st2 e u H2 s2 S2 E2 T2 r2 p2 => by
      obtain ⟨n, a, kvs, rfl, ha, rfl, q, p3⟩ := asDct_ok (r1.step s2) (p2.n NoX.dgetV)
      obtain ⟨hk, p3⟩ := grd_ok p3
      obtain ⟨d0, hf, p3⟩ := optV_ok p3
      obtain ⟨w, g1, g2⟩ := dct_found S2 q ha hk r2 hf
      exact ⟨a, w, rfl, g1, p3.here S2 T2 g2⟩
theorem dct_has {pins : List (Addr × Obj)} {σ : L2.St} {H : Hp} {s : Shared} {φ : List Addr} {st : Sto} {n : Nat} {a : Addr} {kvs : List (PV × PV)} {k : PV} {v : V} (I : Inv X pins σ H s) (S : RepS R φ st H) (T : Tbs R H) (e : st[n]? = some (.dct kvs)) (ha : φ[n]? = some a) (hk : kOk R.cts kvs k = true) (rk : RepV R φ H k v) :
    ∃ H' o, Inv X pins σ H' s ∧ Step φ H φ H' ∧ RepS R φ st H' ∧ Tbs R H' ∧ DGet H' a v o ∧ ((kfind kvs k = none ∧ o = none) ∨ ∃ d u, kfind kvs k = some d ∧ o = some u ∧ RepV R φ H' d u) := by
  obtain ⟨H', I', s', S', T', _, g⟩ := dct_kind I S T e ha hk rk
  rcases g with ⟨gs, x, q1, q2, q3, rfl, q5, rfl⟩ | ⟨gs, xs, b, q1, q2, q3, rfl, q5, rfl, q7⟩
  · refine ⟨H', _, I', s', S', T', DGet.k q1, ?_⟩
    rcases dct_find (fun _ _ z => pK_inj z) x q3 with ⟨z, w⟩ | ⟨d', u, z, w1, w2⟩
    · exact .inl ⟨z, w⟩
    · exact .inr ⟨d', u, z, w1, w2⟩
  · refine ⟨H', _, I', s', S', T', DGet.t q1 q7, ?_⟩
    rcases dct_find (fun _ _ z => pT_inj z) xs q3 with ⟨z, w⟩ | ⟨d', u, z, w1, w2⟩
    · exact .inl ⟨z, w⟩
    · exact .inr ⟨d', u, z, w1, w2⟩
def tMO (R : Rc) (G : Gm) (W : WX) (m : Env → M (Option Int)) : TO := fun σ H Q => ∃ φ st ρ, RepS R φ st H ∧ RepE R G φ H ρ σ ∧ Tbs R H ∧ Post R W σ φ H (fun _ _ (a b : Option Int) => a = b) (m ρ st) Q
theorem _root_.L2.PO.imp {e : Option Expr} {t t' : TO} (h : PO X e t) (k : ∀ σ H Q, t' σ H Q → t σ H Q) : PO X e t' := ⟨fun pins s σ H Q I q => h.run pins s σ H Q I (k σ H Q q)⟩
theorem o_none : PO X none (tMO R G W fun _ => M.ret none) := po_none.imp fun σ H Q ⟨φ, st, ρ, S, E, T, h⟩ => h φ H none (Step.refl _ _) S T rfl
def partM (x : PV) : M (Option Int) := match x with
  | .int i => M.ret (some i)
  | _ => M.bad
theorem o_some {e : Expr} {me : Env → M PV} (he : PE X e (tM R G W me)) : PO X (some e) (tMO R G W fun ρ => M.bnd (me ρ) partM) :=
  (po_some he).imp fun σ H Q ⟨φ, st, ρ, S, E, T, h⟩ => ⟨φ, st, ρ, S, E, T, Post.mono (Post.bnd h) fun v H1 ⟨φ1, st1, d, s1, S1, T1, r1, p1⟩ => by
    cases d with
    | int i => exact ⟨i, r1, p1 φ1 H1 _ (Step.refl _ _) S1 T1 rfl⟩
    | _ => exact False.elim p1⟩
theorem NoX.asL2 {x : PV} : NoX (asL2 x) := by
  unfold Mp.asL2
  split
  · exact NoX.ret _
  · exact NoX.asL
theorem NoX.slcV {m : Bool} {x : PV} {lo hi : Option Int} : NoX (slcV m x lo hi) := by
  unfold Mp.slcV
  split
  · exact NoX.ret _
  · exact NoX.ret _
  · exact NoX.bnd NoX.asL2 fun _ => NoX.newL
theorem asL2_ok {φ : List Addr} {H : Hp} {st : Sto} {d : PV} {x : V} {f : List PV → M PV} {Q : VK} (S : RepS R φ st H) (r : RepV R φ H d x) (p : PostN R φ H (RepV R) (M.bnd (asL2 d) f st) Q) :
    ∃ a ds vs, x = .ref a ∧ SqL R.K H a vs ∧ vs.length ≤ SZ ∧ RepL R φ H ds vs ∧ PostN R φ H (RepV R) (f ds st) Q := by
  have norm : PostN R φ H (RepV R) (M.bnd (asL d) f st) Q → ∃ a ds vs, x = .ref a ∧ SqL R.K H a vs ∧ vs.length ≤ SZ ∧ RepL R φ H ds vs ∧ PostN R φ H (RepV R) (f ds st) Q := fun p => by
    obtain ⟨a, ds, vs, h1, h2, h3, h4, h5⟩ := bndL_ok S r p
    exact ⟨a, ds, vs, h1, .inl (.inl h2), h3, h4, h5⟩
  cases d with
  | scr ns =>
    obtain ⟨a, o, rfl, t, z⟩ := r
    exact ⟨a, _, _, rfl, t.sq, by rw [List.length_map]; exact z, RepL.ints, p⟩
  | _ => exact norm p
theorem RepL.cut {φ : List Addr} {H : Hp} {ds : List PV} {vs : List V} {lo hi : Option Int} (h : RepL R φ H ds vs) : RepL R φ H (Mp.cut ds lo hi) (cutV vs lo hi) := by
  unfold Mp.cut cutV
  rw [sIx_ht, sIx_ht, h.length]
  exact (h.drop _).take _
theorem cut_all {ds : List PV} {vs : List V} {lo hi : Option Int} (hl : ds.length = vs.length) (h : HT.sIx vs.length 0 lo = 0 ∧ HT.sIx vs.length vs.length hi = vs.length) : Mp.cut ds lo hi = ds := by
  unfold Mp.cut
  rw [sIx_ht, sIx_ht, hl, h.1, h.2, List.drop_zero, Nat.sub_zero, ← hl, List.take_length]
theorem cut_mem {α : Type} {xs : List α} {lo hi : Option Int} {x : α} (h : x ∈ Mp.cut xs lo hi) : x ∈ xs := List.mem_of_mem_drop (List.mem_of_mem_take h)
theorem cut_len {α : Type} {xs : List α} {lo hi : Option Int} : (Mp.cut xs lo hi).length ≤ xs.length := by
  unfold Mp.cut
  rw [List.length_take, List.length_drop]
  omega
theorem slc_ok (hK : R.K = X.K) (m : Bool) : SlR X fun x lo hi H Q => ∃ φ st d, RepS R φ st H ∧ Tbs R H ∧ RepV R φ H d x ∧ PostN R φ H (RepV R) (slcV m d lo hi st) Q := by
  intro pins s σ H x v vl vu lo hi sl Q I rx hs pl pu ⟨φ, st, d, S, T, rd, p⟩
  have lists : PostN R φ H (RepV R) (M.bnd (asL2 d) (fun xs => newL m (Mp.cut xs lo hi)) st) Q → ∃ T id, typeLookup (.type T) "__getitem__" = pure (some (.builtin id)) ∧ s.TypeIs v T ∧ wpAny (model X.prog X.w) X.A (getItem v (.ref sl)) (EP X pins σ Q) X.xe s := fun p => by
    obtain ⟨a, ds, vs, rfl, h1, h2, h3, p⟩ := asL2_ok S rd p
    obtain ⟨_, q⟩ := newL_ok S T h3.cut p
    rw [hK] at h1
    exact sl_list pins s σ H _ v vl vu lo hi sl Q I rx hs pl pu ⟨a, vs, rfl, h1, q⟩
  cases d with
  | str z =>
    obtain ⟨rfl, hz⟩ := rd
    refine sl_str pins s σ H _ v vl vu lo hi sl Q I rx hs pl pu ⟨z, rfl, by rw [sz_eq]; exact okS_len hz, ?_⟩
    have e : cutS z lo hi = (⟨(Mp.cut z.cps.toList lo hi).toArray⟩ : Str) := by
      unfold Mp.cut cutS
      rw [sIx_ht, sIx_ht]
      have : z.cps.toList.length = z.length := by simp [Str.length]
      rw [this]
    rw [e]
    exact p φ H _ (Step.refl _ _) S T ⟨rfl, okS_sub hz (fun c hc => cut_mem hc) cut_len⟩
  | tup xs =>
    have rd0 := rd
    obtain ⟨a, vs, rfl, t, z, q⟩ := rd
    refine sl_tupA pins s σ H _ v vl vu lo hi sl Q I rx hs pl pu ⟨a, vs, rfl, by rw [← hK]; exact t.sq, fun e => ?_, fun e b hb => ?_⟩
    · have e2 := cut_all (ds := xs) q.length e
      have p : PostN R φ H (RepV R) (M.ret (.tup (Mp.cut xs lo hi)) st) Q := p
      rw [e2] at p
      exact p.here S T rd0
    · refine p φ _ _ (step_new hb) (S.new hb) (T.new hb) ⟨b, _, rfl, .inl ⟨upd_same, S.fresh hb, fun ps z => by cases z⟩, Nat.le_trans (cutV_length vs lo hi) z, ?_⟩
      exact (RepL.step (step_new hb) _ _ q).cut
  | _ => exact lists p
theorem s_slc {m : Bool} {e : Expr} {lo hi : Option Expr} {pos p2 : Pos} {me : Env → M PV} {ml mh : Env → M (Option Int)} (hK : R.K = X.K) (he : PE X e (tM R G W me)) (hl : PO X lo (tMO R G W ml)) (hh : PO X hi (tMO R G W mh)) :
    PE X (.Subscript e (.Slice lo hi none p2) pos) (tM R G W fun ρ => M.bnd (me ρ) fun x => M.bnd (ml ρ) fun l => M.bnd (mh ρ) fun h => slcV m x l h) :=
  (pe_slice (slc_ok (R := R) hK m) he hl hh).imp fun σ H Q ⟨φ, st, ρ, S, E, T, h⟩ => tM.then (f := fun ρ x => M.bnd (ml ρ) fun l => M.bnd (mh ρ) fun h => slcV m x l h) S E T h fun φ1 st1 d v H1 s1 S1 E1 T1 r1 p1 =>
    ⟨φ1, st1, ρ, S1, E1, T1, Post.mono (Post.bnd p1) fun l H2 ⟨φ2, st2, l', s2, S2, T2, r2, p2⟩ => by
      have r2 : l' = l := r2
      subst r2
      exact ⟨φ2, st2, ρ, S2, E1.step s2, T2, Post.mono (Post.bnd p2) fun h H3 ⟨φ3, st3, h', s3, S3, T3, r3, p3⟩ => by
        have r3 : h' = h := r3
        subst r3
        exact ⟨φ3, st3, d, S3, T3, (r1.step s2).step s3, p3.n NoX.slcV⟩⟩⟩
end
end Mp
namespace Mp
open PySem PySem.Spec PyProof.Rows L2
section
variable {X : Cx} {R : Rc}
theorem inD_ok {φ : List Addr} {H : Hp} {st : Sto} {d e : PV} {x y : V} {Q : Bool → Hp → Prop} (S : RepS R φ st H) (T : Tbs R H) (rd : RepV R φ H d x) (re : RepV R φ H e y) (p : PostN R φ H AB (inD d e st) Q) :
    ∃ (C D : PyData) (es : List PyData), Dp R.K H y C ∧ C.canLay0 = true ∧ Dp R.K H x D ∧ D.canLay0 = true ∧ D.depth ≤ 60 ∧ (C = .list es ∨ C = .tuple es) ∧ Q (es.any fun e => PyData.eqv e D) H := by
  unfold inD at p
  obtain ⟨C, h1, h2, p⟩ := bndD_ok S re p
  obtain ⟨D, g1, g2, p⟩ := bndD_ok S rd p
  obtain ⟨hd, p⟩ := grdB_ok p
  have hd := of_decide_eq_true hd
  cases C with
  | list es => exact ⟨_, D, es, h1, h2, g1, g2, hd, .inl rfl, p.hereB S T⟩
  | tuple es => exact ⟨_, D, es, h1, h2, g1, g2, hd, .inr rfl, p.hereB S T⟩
  | _ => exact False.elim p
theorem dct0 {pins : List (Addr × Obj)} {σ : L2.St} {H : Hp} {s : Shared} {φ : List Addr} {st : Sto} {d : PV} {x : V} (I : Inv X pins σ H s) (S : RepS R φ st H) (T : Tbs R H) (r : RepV R φ H d x) (h : isD0 st d = true) :
    ∃ H' a, x = .ref a ∧ Inv X pins σ H' s ∧ Step φ H φ H' ∧ RepS R φ st H' ∧ Tbs R H' ∧ (∀ b, H b = some (.dK []) → H' b = some (.dK [])) ∧ H' a = some (.dK []) := by
  cases d with
  | loc n =>
    unfold isD0 at h
    obtain ⟨a, ha, rfl⟩ := r
    cases e : st[n]? with
    | none => simp [e] at h
    | some m =>
      cases m with
      | dct kvs =>
        cases kvs with
        | nil =>
          rcases S.at_ n _ a e ha with ⟨gs, q1, q2, q3⟩ | ⟨gs, q1, q2, q3⟩
          · obtain rfl : gs = [] := q3
            exact ⟨H, a, rfl, I, Step.refl _ _, S, T, fun _ h => h, q1⟩
          · obtain rfl : gs = [] := q3
            have S' : RepS R φ (st.set n (.dct [])) (upd H a (.dK [])) := S.write ha (.inl ⟨[], upd_same, Nat.zero_le _, rfl⟩)
            rw [set_at e] at S'
            refine ⟨_, a, rfl, Inv.emptyK I q1, step_wr (List.mem_of_getElem? ha), S', T.upd S e ha, fun b h => ?_, upd_same⟩
            by_cases hb : b = a
            · rw [hb, upd_same]
            · rw [upd_ne hb]; exact h
        | cons _ _ => simp [e] at h
      | _ => simp [e] at h
  | _ => cases h
theorem eq_ok {cts : List PV} (hK : R.K = X.K) (hu : X.A.units + 64 < cLine) : OpR X (compareOp .Eq) (rMB R (cmpV cts .eq)) := by
  intro pins s σ H x y v u Q I rx ry ⟨φ, st, d, e, S, T, rd, re, p⟩
  unfold cmpV at p
  simp only at p
  by_cases hz : (isD0 st d && isD0 st e) = true
  · rw [if_pos hz] at p
    rw [Bool.and_eq_true] at hz
    obtain ⟨H1, a, rfl, I1, s1, S1, T1, k1, q1⟩ := dct0 I S T rd hz.1
    obtain ⟨H2, b, rfl, I2, s2, S2, T2, k2, q2⟩ := dct0 I1 S1 T1 (RepV.step s1 e y re) hz.2
    exact op_eq_dictA (by omega) pins s σ H2 _ _ v u Q I2 rx ry ⟨a, b, [], [], rfl, rfl, k2 a q1, q2, rfl, fun p hp => absurd hp (by simp), p φ H2 _ (s1.trans s2) S2 T2 rfl⟩
  · rw [if_neg hz] at p
    exact eqv_ok hK hu pins s σ H x y v u Q I rx ry ⟨φ, st, d, e, S, T, rd, re, p⟩
theorem min_le {a b n : Nat} (h : b ≤ n) : min a b ≤ n := Nat.le_trans (Nat.min_le_right _ _) h
theorem in_ok (hK : R.K = X.K) (hu : X.A.units + 64 < cLine) : OpR X (compareOp .In) (rMB R (inV R.cts)) := by
  intro pins s σ H x y v u Q I rx ry ⟨φ, st, d, e, S, T, rd, re, p⟩
  have data : PostN R φ H AB (inD d e st) (fun k H' => Q (.bl k) H') → wpAny (model X.prog X.w) X.A (compareOp .In v u) (EP X pins σ Q) X.xe s := fun p => by
    obtain ⟨C, D, es, h1, h2, g1, g2, hd, hc, q⟩ := inD_ok S T rd re p
    rw [hK] at h1 g1
    obtain ⟨as, r1⟩ := Dp.reads I C y u h1 ry
    obtain ⟨bs, r2⟩ := Dp.reads I D x v g1 rx
    rcases hc with rfl | rfl
    · exact SeqAt.in_list_reads r1 r2 h2 g2 (by have := min_le (a := PyData.depthAll es) hd; omega) ⟨.bl _, H, I, rfl, q⟩
    · exact SeqAt.in_tuple_reads r1 r2 h2 g2 (by have := min_le (a := PyData.depthAll es) hd; omega) ⟨.bl _, H, I, rfl, q⟩
  cases e with
  | str z =>
    have p : PostN R φ H AB (inT z d st) fun k H' => Q (.bl k) H' := p
    unfold inT at p
    split at p
    · rename_i c _
      exact op_in_sign pins s σ H x y v u Q I rx ry ⟨c, z, rd.1, re.1, p.hereB S T⟩
    · exact p.elim
  | loc n =>
    have p : PostN R φ H AB ((match st[n]? with
      | some (.dct kvs) => M.grd (kOk R.cts kvs d) (M.ret (kfind kvs d).isSome) st
      | _ => inD d (.loc n) st)) fun k H' => Q (.bl k) H' := p
    split at p
    · rename_i kvs q
      obtain ⟨hk, p⟩ := grdB_ok p
      obtain ⟨a, ha, rfl⟩ := re
      obtain ⟨H', o, I', s', S', T', dg, g⟩ := dct_has I S T q ha hk rd
      have hu2 : X.A.units + 1 < cLine := by omega
      obtain rfl : u = Value.ref a := ry
      refine d_in hu2 I' dg rx fun s2 I2 => ⟨.bl o.isSome, H', I2, rfl, ?_⟩
      have e : (kfind kvs d).isSome = o.isSome := by
        rcases g with ⟨g1, g2⟩ | ⟨_, _, g1, g2, _⟩
        · rw [g1, g2]
          rfl
        · rw [g1, g2]
          rfl
      rw [← e]
      exact p φ H' _ s' S' T' rfl
    · exact data p
  | _ => exact data p
theorem notin_ok (hK : R.K = X.K) (hu : X.A.units + 64 < cLine) : OpR X (compareOp .NotIn) (rMB R fun x y => M.bnd (inV R.cts x y) fun b => M.ret (!b)) := by
  intro pins s σ H x y v u Q I rx ry ⟨φ, st, d, e, S, T, rd, re, p⟩
  have p : PostN R φ H AB (inV R.cts d e st) fun k H' => Q (.bl (!k)) H' := by
    have p : PostN R φ H AB ((M.bnd (inV R.cts d e) fun b => M.ret (!b)) st) fun k H' => Q (.bl k) H' := p
    unfold M.bnd at p
    cases q : inV R.cts d e st with
    | ok k st' =>
      rw [q] at p
      intro φ' H' k' a b c r
      have r : k = k' := r
      subst r
      exact p φ' H' _ a b c rfl
    | exc c vs st' => exact (NoX.inV _ _ _ _ q).elim
    | bad => rw [q] at p; exact p.elim
  have data : PostN R φ H AB (inD d e st) (fun k H' => Q (.bl (!k)) H') → wpAny (model X.prog X.w) X.A (compareOp .NotIn v u) (EP X pins σ Q) X.xe s := fun p => by
    obtain ⟨C, D, es, h1, h2, g1, g2, hd, hc, q⟩ := inD_ok S T rd re p
    rw [hK] at h1 g1
    obtain ⟨as, r1⟩ := Dp.reads I C y u h1 ry
    obtain ⟨bs, r2⟩ := Dp.reads I D x v g1 rx
    rcases hc with rfl | rfl
    · exact SeqAt.notIn_list_reads r1 r2 h2 g2 (by have := min_le (a := PyData.depthAll es) hd; omega) ⟨.bl _, H, I, rfl, q⟩
    · exact SeqAt.notIn_tuple_reads r1 r2 h2 g2 (by have := min_le (a := PyData.depthAll es) hd; omega) ⟨.bl _, H, I, rfl, q⟩
  cases e with
  | str z =>
    have p : PostN R φ H AB (inT z d st) fun k H' => Q (.bl (!k)) H' := p
    unfold inT at p
    split at p
    · rename_i c _ _
      exact op_notIn_sign pins s σ H x y v u Q I rx ry ⟨c, z, rd.1, re.1, p.hereB S T⟩
    · exact p.elim
  | loc n =>
    have p : PostN R φ H AB ((match st[n]? with
      | some (.dct kvs) => M.grd (kOk R.cts kvs d) (M.ret (kfind kvs d).isSome) st
      | _ => inD d (.loc n) st)) fun k H' => Q (.bl (!k)) H' := p
    split at p
    · rename_i kvs q
      obtain ⟨hk, p⟩ := grdB_ok p
      obtain ⟨a, ha, rfl⟩ := re
      obtain ⟨H', o, I', s', S', T', dg, g⟩ := dct_has I S T q ha hk rd
      have hu2 : X.A.units + 1 < cLine := by omega
      obtain rfl : u = Value.ref a := ry
      refine d_notIn hu2 I' dg rx fun s2 I2 => ⟨.bl (!o.isSome), H', I2, rfl, ?_⟩
      have e : (kfind kvs d).isSome = o.isSome := by
        rcases g with ⟨g1, g2⟩ | ⟨_, _, g1, g2, _⟩
        · rw [g1, g2]
          rfl
        · rw [g1, g2]
          rfl
      rw [← e]
      exact p φ H' _ s' S' T' rfl
    · exact data p
  | _ => exact data p
theorem lt_ok {cts : List PV} (hK : R.K = X.K) (hu : X.A.units + 64 < cLine) : OpR X (compareOp .Lt) (rMB R (cmpV cts .lt)) := by
  intro pins s σ H x y v u Q I rx ry ⟨φ, st, d, e, S, T, rd, re, p⟩
  have data : PostN R φ H AB (M.bnd (asD d) (fun d => M.bnd (asD e) fun e => M.opt (lt2 d e)) st) (fun k H' => Q (.bl k) H') → wpAny (model X.prog X.w) X.A (compareOp .Lt v u) (EP X pins σ Q) X.xe s := fun p => by
    obtain ⟨D, h1, h2, p⟩ := bndD_ok S rd p
    obtain ⟨E, g1, g2, p⟩ := bndD_ok S re p
    rw [hK] at h1 g1
    obtain ⟨as, r1⟩ := Dp.reads I D x v h1 rx
    obtain ⟨bs, r2⟩ := Dp.reads I E y u g1 ry
    unfold lt2 at p
    by_cases hc : (PySem.W.alike D E && decide (min D.depth E.depth ≤ 60)) = true
    · rw [if_pos hc] at p
      rw [Bool.and_eq_true] at hc
      have hd := of_decide_eq_true hc.2
      have go : D ≠ .none → PostN R φ H AB (M.ret (PySem.W.dataLt D E) st) (fun k H' => Q (.bl k) H') → wpAny (model X.prog X.w) X.A (compareOp .Lt v u) (EP X pins σ Q) X.xe s := fun hn p => by
        exact PySem.W.rcLt_alike D E X.A s v u as bs r1 r2 hc.1 hn (by omega) X.prog X.w X.xe _ ⟨.bl _, H, I, rfl, p.hereB S T⟩
      cases D with
      | none => exact False.elim p
      | _ => exact go (fun z => by cases z) p
    · rw [if_neg hc] at p
      exact False.elim p
  cases d with
  | int i =>
    cases e with
    | int j => exact op_lt pins s σ H x y v u Q I rx ry ⟨i, j, rd, re, PostN.hereB S T p⟩
    | _ => exact data p
  | _ => cases e <;> exact data p
end
end Mp
namespace Mp
open PySem PySem.Spec PyProof.Rows L2
def rBF (R : Rc) (m : List PV → M PV) : List V → Hp → VK → Prop := fun xs H Q => ∃ φ st ds, RepS R φ st H ∧ Tbs R H ∧ RepL R φ H ds xs ∧ PostN R φ H (RepV R) (m ds st) Q
section
variable {X : Cx} {R : Rc} {G : Gm} {W : WX}
theorem _root_.L2.CallR.imp {f : Value} {r r' : List V → Hp → VK → Prop} (h : CallR X f r) (k : ∀ xs H Q, r' xs H Q → r xs H Q) : CallR X f r' := fun pins s σ H xs us Q I rx q => h pins s σ H xs us Q I rx (k xs H Q q)
theorem rBF.one {m : PV → M PV} {n : List PV → M PV} (hn : ∀ ds, n ds = match ds with
    | [d] => m d
    | _ => M.bad) {xs : List V} {H : Hp} {Q : VK} (h : rBF R n xs H Q) : ∃ φ st d x, xs = [x] ∧ RepS R φ st H ∧ Tbs R H ∧ RepV R φ H d x ∧ PostN R φ H (RepV R) (m d st) Q := by
  obtain ⟨φ, st, ds, S, T, r, p⟩ := h
  rw [hn] at p
  match ds, xs, r, p with
  | [], _, _, p => exact p.elim
  | [d], xs, r, p =>
    obtain ⟨v, r, rfl, g1, rfl⟩ := r
    exact ⟨φ, st, d, v, rfl, S, T, g1, p⟩
  | _ :: _ :: _, _, _, p => exact p.elim
theorem rBF.two {m : PV → PV → M PV} {n : List PV → M PV} (hn : ∀ ds, n ds = match ds with
    | [d, e] => m d e
    | _ => M.bad) {xs : List V} {H : Hp} {Q : VK} (h : rBF R n xs H Q) : ∃ φ st d e x y, xs = [x, y] ∧ RepS R φ st H ∧ Tbs R H ∧ RepV R φ H d x ∧ RepV R φ H e y ∧ PostN R φ H (RepV R) (m d e st) Q := by
  obtain ⟨φ, st, ds, S, T, r, p⟩ := h
  rw [hn] at p
  match ds, xs, r, p with
  | [], _, _, p => exact p.elim
  | [_], _, _, p => exact p.elim
  | [d, e], xs, r, p =>
    obtain ⟨v, r, rfl, g1, w, r', rfl, g2, rfl⟩ := r
    exact ⟨φ, st, d, e, v, w, rfl, S, T, g1, g2, p⟩
  | _ :: _ :: _ :: _, _, _, p => exact p.elim
theorem f_abs {m : Bool} : CallR X (.builtin "abs") (rBF R (bfV .abs m)) := call_abs.imp fun xs H Q h => by
  obtain ⟨φ, st, d, x, rfl, S, T, r, p⟩ := rBF.one (m := absV) (fun ds => by rcases ds with _ | ⟨d, _ | ⟨e, r⟩⟩ <;> rfl) h
  cases d with
  | int i => exact ⟨i, by rw [show x = V.int i from r], PostN.here S T p rfl⟩
  | _ => exact False.elim p
theorem f_int {m : Bool} : CallR X (.type "int") (rBF R (bfV .int m)) := call_int1.imp fun xs H Q h => by
  obtain ⟨φ, st, d, x, rfl, S, T, r, p⟩ := rBF.one (m := intV) (fun ds => by rcases ds with _ | ⟨d, _ | ⟨e, r⟩⟩ <;> rfl) h
  cases d with
  | int i => exact .inl ⟨i, by rw [show x = V.int i from r], PostN.here S T p rfl⟩
  | bl k => exact .inr ⟨k, by rw [show x = V.bl k from r], PostN.here S T p rfl⟩
  | _ => exact False.elim p
theorem two_ok {f : Int → Int → M PV} {φ : List Addr} {H : Hp} {st : Sto} {d e : PV} {Q : VK} (p : PostN R φ H (RepV R) (two f d e st) Q) : ∃ i j, d = .int i ∧ e = .int j ∧ PostN R φ H (RepV R) (f i j st) Q := by
  cases d with
  | int i =>
    cases e with
    | int j => exact ⟨i, j, rfl, rfl, p⟩
    | _ => exact False.elim p
  | _ => cases e <;> exact False.elim p
theorem f_min2 {m : Bool} (hc : X.calm = true) : CallR X (.builtin "min") (rBF R (bfV .min2 m)) := (call_min2 hc).imp fun xs H Q h => by
  obtain ⟨φ, st, d, e, x, y, rfl, S, T, r, r', p⟩ := rBF.two (m := two fun i j => M.ret (.int (if j < i then j else i))) (fun ds => by rcases ds with _ | ⟨d, _ | ⟨e, _ | ⟨f, r⟩⟩⟩ <;> rfl) h
  obtain ⟨i, j, rfl, rfl, p⟩ := two_ok p
  exact ⟨i, j, by rw [show x = V.int i from r, show y = V.int j from r'], PostN.here S T p rfl⟩
theorem f_max2 {m : Bool} (hc : X.calm = true) : CallR X (.builtin "max") (rBF R (bfV .max2 m)) := (call_max2 hc).imp fun xs H Q h => by
  obtain ⟨φ, st, d, e, x, y, rfl, S, T, r, r', p⟩ := rBF.two (m := two fun i j => M.ret (.int (if j > i then j else i))) (fun ds => by rcases ds with _ | ⟨d, _ | ⟨e, _ | ⟨f, r⟩⟩⟩ <;> rfl) h
  obtain ⟨i, j, rfl, rfl, p⟩ := two_ok p
  exact ⟨i, j, by rw [show x = V.int i from r, show y = V.int j from r'], PostN.here S T p rfl⟩
theorem f_divmod {m : Bool} : CallR X (.builtin "divmod") (rBF R (bfV .divmod m)) := call_divmod.imp fun xs H Q h => by
  obtain ⟨φ, st, d, e, x, y, rfl, S, T, r, r', p⟩ := rBF.two (m := two divmodV) (fun ds => by rcases ds with _ | ⟨d, _ | ⟨e, _ | ⟨f, r⟩⟩⟩ <;> rfl) h
  obtain ⟨i, j, rfl, rfl, p⟩ := two_ok p
  obtain ⟨hk, p⟩ := grd_ok p
  simp only [Bool.and_eq_true, decide_eq_true_eq] at hk
  refine ⟨i, j, by rw [show x = V.int i from r, show y = V.int j from r'], ⟨hk.1, by omega⟩, fun a ha => ?_⟩
  refine p φ _ _ (step_new ha) (S.new ha) (T.new ha) ⟨a, _, rfl, .inl ⟨upd_same, S.fresh ha, fun ps z => by cases z⟩, by show 2 ≤ SZ; decide, _, _, rfl, ?_, _, _, rfl, ?_, rfl⟩
  · show V.int (i / j) = V.int (i.fdiv j)
    rw [Int.fdiv_eq_ediv_of_nonneg _ (by omega)]
  · show V.int (i % j) = V.int (i.fmod j)
    rw [Int.fmod_eq_emod_of_nonneg _ (by omega)]
theorem loc_or {n : Nat} {st : Sto} {f g : Out PV} {φ : List Addr} {H : Hp} {Q : VK} (kk : List (PV × PV) → Out PV) (p : PostN R φ H (RepV R) (match st[n]? with
    | some (.dct kvs) => kk kvs
    | _ => g) Q) : (∃ kvs, st[n]? = some (.dct kvs) ∧ PostN R φ H (RepV R) (kk kvs) Q) ∨ PostN R φ H (RepV R) g Q := by
  cases q : st[n]? with
  | none => rw [q] at p; exact .inr p
  | some m =>
    rw [q] at p
    cases m with
    | dct kvs => exact .inl ⟨kvs, rfl, p⟩
    | lst xs => exact .inr p
    | ins c fs => exact .inr p
theorem f_len {m : Bool} (hK : R.K = X.K) : CallR X (.builtin "len") (rBF R (bfV .len m)) := by
  intro pins s σ H xs us Q I rx h
  obtain ⟨φ, st, d, x, rfl, S, T, r, p⟩ := rBF.one (m := lenV) (fun ds => by rcases ds with _ | ⟨d, _ | ⟨e, r⟩⟩ <;> rfl) h
  have seq : PostN R φ H (RepV R) (M.bnd (asS d) (fun ys => M.ret (.int ys.length)) st) Q → wpAny (model X.prog X.w) X.A (call (.builtin "len") us) (EP X pins σ Q) X.xe s := fun p => by
    obtain ⟨a, ds, vs, rfl, h1, h2, h3, p⟩ := bndS_ok S r p
    rw [hK] at h1
    refine call_len_seq pins s σ H _ us Q I rx ⟨a, vs, rfl, h1, ?_⟩
    rw [← h3.length]
    exact PostN.here S T p rfl
  cases d with
  | str z => exact call_len_str pins s σ H _ us Q I rx ⟨z, by rw [r.1], by rw [sz_eq]; exact okS_len r.2, PostN.here S T p rfl⟩
  | loc n =>
    rcases loc_or (f := .bad) (fun kvs => .ok (.int kvs.length) st) p with ⟨kvs, q, p⟩ | p
    · obtain ⟨a, ha, rfl⟩ := r
      rcases S.at_ n _ a q ha with ⟨gs, q1, q2, q3⟩ | ⟨gs, q1, q2, q3⟩
      · exact call_lenD pins s σ H _ us Q I rx ⟨a, gs, rfl, q1, by rw [← dct_len q3]; exact p φ H _ (Step.refl _ _) S T rfl⟩
      · exact call_len_dT pins s σ H _ us Q I rx ⟨a, gs, rfl, q1, by rw [← dct_len q3]; exact p φ H _ (Step.refl _ _) S T rfl⟩
    · exact seq p
  | _ => exact seq p
theorem ints_of {φ : List Addr} {H : Hp} : ∀ {ds : List PV} {vs : List V} {ns : List Int}, RepL R φ H ds vs → asInts ds = some ns → vs = ns.map V.int
  | [], _, _, r, e => by cases r; cases e; rfl
  | d :: ds, _, ns, r, e => by
    obtain ⟨v, r, rfl, g1, g2⟩ := r
    cases d with
    | int i =>
      unfold asInts at e
      cases q : asInts ds with
      | none => rw [q] at e; cases e
      | some ms =>
        rw [q] at e
        cases e
        rw [ints_of g2 q, show v = V.int i from g1]
        rfl
    | _ => cases e
theorem bls_of {φ : List Addr} {H : Hp} : ∀ {ds : List PV} {vs : List V} {ns : List Bool}, RepL R φ H ds vs → asBls ds = some ns → vs = ns.map V.bl
  | [], _, _, r, e => by cases r; cases e; rfl
  | d :: ds, _, ns, r, e => by
    obtain ⟨v, r, rfl, g1, g2⟩ := r
    cases d with
    | bl i =>
      unfold asBls at e
      cases q : asBls ds with
      | none => rw [q] at e; cases e
      | some ms =>
        rw [q] at e
        cases e
        rw [bls_of g2 q, show v = V.bl i from g1]
        rfl
    | _ => cases e
theorem opt_ok {α β γ : Type} {A : List Addr → Hp → α → β → Prop} {φ : List Addr} {H : Hp} {st : Sto} {o : Option γ} {f : γ → M α} {Q : β → Hp → Prop} (p : PostN R φ H A (M.bnd (M.opt o) f st) Q) : ∃ d, o = some d ∧ PostN R φ H A (f d st) Q := by
  cases o with
  | none => exact p.elim
  | some d => exact ⟨d, rfl, p⟩
theorem f_sum {m : Bool} (hK : R.K = X.K) (hc : X.calm = true) : CallR X (.builtin "sum") (rBF R (bfV .sum m)) := (cr_sum hc).imp fun xs H Q h => by
  obtain ⟨φ, st, d, x, rfl, S, T, r, p⟩ := rBF.one (m := fun x => M.bnd (asL2 x) fun ys => M.bnd (M.opt (asInts ys)) fun ns => M.ret (.int ns.sum)) (fun ds => by rcases ds with _ | ⟨d, _ | ⟨e, r⟩⟩ <;> rfl) h
  obtain ⟨a, ds, vs, rfl, h1, h2, h3, p⟩ := asL2_ok S r p
  obtain ⟨ns, e, p⟩ := opt_ok p
  rw [hK, ints_of h3 e] at h1
  exact ⟨a, ns, rfl, h1, PostN.here S T p rfl⟩
theorem f_all {m : Bool} (hK : R.K = X.K) (hc : X.calm = true) : CallR X (.builtin "all") (rBF R (bfV .all m)) := (cr_all hc).imp fun xs H Q h => by
  obtain ⟨φ, st, d, x, rfl, S, T, r, p⟩ := rBF.one (m := fun x => M.bnd (asL2 x) fun ys => M.bnd (M.opt (asBls ys)) fun ns => M.ret (.bl (ns.all id))) (fun ds => by rcases ds with _ | ⟨d, _ | ⟨e, r⟩⟩ <;> rfl) h
  obtain ⟨a, ds, vs, rfl, h1, h2, h3, p⟩ := asL2_ok S r p
  obtain ⟨ns, e, p⟩ := opt_ok p
  rw [hK, bls_of h3 e] at h1
  exact ⟨a, ns, rfl, h1, PostN.here S T p rfl⟩
theorem f_any {m : Bool} (hK : R.K = X.K) (hc : X.calm = true) : CallR X (.builtin "any") (rBF R (bfV .any m)) := (cr_any hc).imp fun xs H Q h => by
  obtain ⟨φ, st, d, x, rfl, S, T, r, p⟩ := rBF.one (m := fun x => M.bnd (asL2 x) fun ys => M.bnd (M.opt (asBls ys)) fun ns => M.ret (.bl (ns.any id))) (fun ds => by rcases ds with _ | ⟨d, _ | ⟨e, r⟩⟩ <;> rfl) h
  obtain ⟨a, ds, vs, rfl, h1, h2, h3, p⟩ := asL2_ok S r p
  obtain ⟨ns, e, p⟩ := opt_ok p
  rw [hK, bls_of h3 e] at h1
  exact ⟨a, ns, rfl, h1, PostN.here S T p rfl⟩
theorem minF {l : List Int} : ∀ (i : Int), (l.foldl (fun a b => if b < a then b else a) i ∈ i :: l) ∧ ∀ y ∈ i :: l, l.foldl (fun a b => if b < a then b else a) i ≤ y := by
  induction l with
  | nil => intro i; simp
  | cons b l ih =>
    intro i
    rw [List.foldl_cons]
    obtain ⟨h1, h2⟩ := ih (if b < i then b else i)
    by_cases hb : b < i
    · rw [if_pos hb] at h1 h2 ⊢
      refine ⟨List.mem_cons_of_mem _ h1, fun y hy => ?_⟩
      rcases List.mem_cons.mp hy with rfl | hy
      · exact Int.le_trans (h2 b (List.mem_cons_self ..)) (Int.le_of_lt hb)
      · exact h2 y hy
    · rw [if_neg hb] at h1 h2 ⊢
      refine ⟨?_, fun y hy => ?_⟩
      · rcases List.mem_cons.mp h1 with z | z
        · rw [z]; exact List.mem_cons_self ..
        · exact List.mem_cons_of_mem _ (List.mem_cons_of_mem _ z)
      · rcases List.mem_cons.mp hy with rfl | hy
        · exact h2 y (List.mem_cons_self ..)
        · rcases List.mem_cons.mp hy with rfl | hy
          · exact Int.le_trans (h2 i (List.mem_cons_self ..)) (Int.not_lt.mp hb)
          · exact h2 y (List.mem_cons_of_mem _ hy)
theorem maxF {l : List Int} : ∀ (i : Int), (l.foldl (fun a b => if b > a then b else a) i ∈ i :: l) ∧ ∀ y ∈ i :: l, y ≤ l.foldl (fun a b => if b > a then b else a) i := by
  induction l with
  | nil => intro i; simp
  | cons b l ih =>
    intro i
    rw [List.foldl_cons]
    obtain ⟨h1, h2⟩ := ih (if b > i then b else i)
    by_cases hb : b > i
    · rw [if_pos hb] at h1 h2 ⊢
      refine ⟨List.mem_cons_of_mem _ h1, fun y hy => ?_⟩
      rcases List.mem_cons.mp hy with rfl | hy
      · exact Int.le_trans (Int.le_of_lt hb) (h2 b (List.mem_cons_self ..))
      · exact h2 y hy
    · rw [if_neg hb] at h1 h2 ⊢
      refine ⟨?_, fun y hy => ?_⟩
      · rcases List.mem_cons.mp h1 with z | z
        · rw [z]; exact List.mem_cons_self ..
        · exact List.mem_cons_of_mem _ (List.mem_cons_of_mem _ z)
      · rcases List.mem_cons.mp hy with rfl | hy
        · exact h2 y (List.mem_cons_self ..)
        · rcases List.mem_cons.mp hy with rfl | hy
          · exact Int.le_trans (Int.not_lt.mp hb) (h2 i (List.mem_cons_self ..))
          · exact h2 y (List.mem_cons_of_mem _ hy)
theorem f_minL {m : Bool} (hK : R.K = X.K) (hc : X.calm = true) : CallR X (.builtin "min") (rBF R (bfV .minL m)) := (cr_min hc).imp fun xs H Q h => by
  obtain ⟨φ, st, d, x, rfl, S, T, r, p⟩ := rBF.one (m := fun x => M.bnd (asL2 x) fun ys => M.bnd (M.opt ((asInts ys).bind minI)) fun i => M.ret (.int i)) (fun ds => by rcases ds with _ | ⟨d, _ | ⟨e, r⟩⟩ <;> rfl) h
  obtain ⟨a, ds, vs, rfl, h1, h2, h3, p⟩ := asL2_ok S r p
  obtain ⟨i, e, p⟩ := opt_ok p
  cases q : asInts ds with
  | none => rw [q] at e; cases e
  | some ns =>
    rw [q] at e
    rw [hK, ints_of h3 q] at h1
    cases ns with
    | nil => cases e
    | cons n ns =>
      cases e
      obtain ⟨g1, g2⟩ := minF (l := ns) n
      refine ⟨a, n :: ns, rfl, h1, Nat.succ_pos _, fun k hk1 hk2 => ?_⟩
      have : k = ns.foldl (fun a b => if b < a then b else a) n := Int.le_antisymm (hk2 _ g1) (g2 k hk1)
      rw [this]
      exact PostN.here S T p rfl
theorem f_maxL {m : Bool} (hK : R.K = X.K) (hc : X.calm = true) : CallR X (.builtin "max") (rBF R (bfV .maxL m)) := (cr_max hc).imp fun xs H Q h => by
  obtain ⟨φ, st, d, x, rfl, S, T, r, p⟩ := rBF.one (m := fun x => M.bnd (asL2 x) fun ys => M.bnd (M.opt ((asInts ys).bind maxI)) fun i => M.ret (.int i)) (fun ds => by rcases ds with _ | ⟨d, _ | ⟨e, r⟩⟩ <;> rfl) h
  obtain ⟨a, ds, vs, rfl, h1, h2, h3, p⟩ := asL2_ok S r p
  obtain ⟨i, e, p⟩ := opt_ok p
  cases q : asInts ds with
  | none => rw [q] at e; cases e
  | some ns =>
    rw [q] at e
    rw [hK, ints_of h3 q] at h1
    cases ns with
    | nil => cases e
    | cons n ns =>
      cases e
      obtain ⟨g1, g2⟩ := maxF (l := ns) n
      refine ⟨a, n :: ns, rfl, h1, Nat.succ_pos _, fun k hk1 hk2 => ?_⟩
      have : k = ns.foldl (fun a b => if b > a then b else a) n := Int.le_antisymm (g2 k hk1) (hk2 _ g1)
      rw [this]
      exact PostN.here S T p rfl
theorem f_tuple {m : Bool} (hK : R.K = X.K) : CallR X (.type "tuple") (rBF R (bfV .tuple m)) := call_tuple_of.imp fun xs H Q h => by
  obtain ⟨φ, st, d, x, rfl, S, T, r, p⟩ := rBF.one (m := fun x => M.bnd (asS x) fun ys => M.ret (.tup ys)) (fun ds => by rcases ds with _ | ⟨d, _ | ⟨e, r⟩⟩ <;> rfl) h
  have new : ∀ {a : Addr} {ds : List PV} {vs : List V}, vs.length ≤ SZ → RepL R φ H ds vs → PostN R φ H (RepV R) (M.ret (.tup ds) st) Q → ∀ l, H l = none → Q (.ref l) (upd H l (.tup vs)) := fun {a ds vs} hz hl p l hn =>
    p φ _ _ (step_new hn) (S.new hn) (T.new hn) ⟨l, vs, rfl, .inl ⟨upd_same, S.fresh hn, fun ps z => by cases z⟩, hz, RepL.step (step_new hn) _ _ hl⟩
  cases d with
  | tup xs =>
    have r0 := r
    obtain ⟨a, vs, rfl, t, z, q⟩ := r
    exact ⟨a, vs, rfl, .inr ⟨by rw [← hK]; exact t.sq, PostN.here S T p r0⟩⟩
  | scr ns =>
    obtain ⟨a, o, rfl, t, z⟩ := r
    exact ⟨a, _, rfl, .inl ⟨by rw [← hK]; exact t.sq, new (a := a) (by rw [List.length_map]; exact z) RepL.ints p⟩⟩
  | lst xs =>
    obtain ⟨a, vs, rfl, t, z, q⟩ := r
    exact ⟨a, vs, rfl, .inl ⟨.inl (.inl t.1), new (a := a) z q p⟩⟩
  | loc n =>
    obtain ⟨a, ha, rfl⟩ := r
    have p : PostN R φ H (RepV R) (M.bnd (asS (.loc n)) (fun ys => M.ret (.tup ys)) st) Q := p
    cases q : st[n]? with
    | none =>
      unfold M.bnd asS at p
      simp only [q] at p
      exact p.elim
    | some m =>
      unfold M.bnd asS at p
      simp only [q] at p
      cases m with
      | lst xs =>
        obtain ⟨vs, h1, h2, h3⟩ := S.at_ n _ a q ha
        exact ⟨a, vs, rfl, .inl ⟨.inl (.inl h1), new (a := a) h2 h3 p⟩⟩
      | _ => exact False.elim p
  | _ => exact False.elim p
end
end Mp
namespace Mp
open PySem PySem.Spec PyProof.Rows L2
section
variable {X : Cx} {R : Rc} {G : Gm} {W : WX}
theorem keysK {φ : List Addr} {H : Hp} : ∀ {kvs : List (PV × PV)} {gs : List (Key × V)}, DctG R φ H pK KR kvs gs → RepL R φ H (kvs.map (·.1)) (gs.map fun kv => kV kv.1)
  | [], _, h => by cases h; rfl
  | (p, d) :: r, _, h => by
    obtain ⟨x, v, s, rfl, rfl, h1, h2, h3⟩ := h
    refine ⟨_, _, rfl, ?_, keysK h3⟩
    cases x with
    | inl i => exact rfl
    | inr z => exact ⟨rfl, h1⟩
theorem keysT {φ : List Addr} {H : Hp} : ∀ {kvs : List (PV × PV)} {gs : List (List Key × V)} {bs : List Addr}, (∀ b ∈ bs, Off R φ b) → DctG R φ H pT KRs kvs gs → IsKeys H gs bs → RepL R φ H (kvs.map (·.1)) (bs.map V.ref)
  | [], _, bs, _, h, k => by
    cases h
    cases k
    rfl
  | (p, d) :: r, _, bs, hn, h, k => by
    obtain ⟨x, v, s, rfl, rfl, h1, h2, h3⟩ := h
    cases k with
    | cons k1 k2 =>
      rename_i b bs
      refine ⟨_, _, rfl, ⟨b, x.map kV, rfl, .inl ⟨k1, hn b (List.mem_cons_self ..), fun ps z => by cases z⟩, by rw [List.length_map]; exact h1.1, ?_⟩, keysT (fun c hc => hn c (List.mem_cons_of_mem _ hc)) h3 k2⟩
      have : ∀ {ys : List Key}, (∀ y ∈ ys, KR y) → RepL R φ H (ys.map pK) (ys.map kV) := fun {ys} => by
        induction ys with
        | nil => intro _; rfl
        | cons y ys ih =>
          intro hy
          refine ⟨_, _, rfl, ?_, ih fun z hz => hy z (List.mem_cons_of_mem _ hz)⟩
          cases y with
          | inl i => exact rfl
          | inr z => exact ⟨rfl, hy _ (List.mem_cons_self ..)⟩
      exact this h1.2
theorem RepO.notup {φ : List Addr} {H : Hp} {a : Addr} {m : MO} {xs : List V} (r : RepO R φ H a m) : H a ≠ some (.tup xs) := fun e => by
  cases m with
  | lst ds => obtain ⟨vs, h, _⟩ := r; rw [e] at h; cases h
  | dct kvs => rcases r with ⟨gs, h, _⟩ | ⟨gs, h, _⟩ <;> (rw [e] at h; cases h)
  | ins c fs => obtain ⟨dx, gs, h, _⟩ := r; rw [e] at h; cases h
theorem RepS.notup {φ : List Addr} {st : Sto} {H : Hp} {a : Addr} {xs : List V} (S : RepS R φ st H) (e : H a = some (.tup xs)) : Off R φ a := by
  refine ⟨fun m => ?_, fun m => ?_⟩
  · obtain ⟨n, hn⟩ := List.mem_iff_getElem?.mp m
    obtain ⟨hl, _⟩ := List.getElem?_eq_some_iff.mp hn
    have hl2 := S.len
    exact (S.at_ n st[n] a (List.getElem?_eq_getElem (by omega)) hn).notup e
  · obtain ⟨_, vs, z⟩ := S.hd a m
    rw [e] at z
    cases z
theorem isKeys_mem {H : Hp} : ∀ {gs : List (List Key × V)} {bs : List Addr}, IsKeys H gs bs → ∀ b ∈ bs, ∃ xs, H b = some (.tup xs)
  | _, _, .nil, _, h => absurd h (by simp)
  | _, _, .cons k r, b, h => by
    rcases List.mem_cons.mp h with rfl | h
    · exact ⟨_, k⟩
    · exact isKeys_mem r b h
theorem isKeys_len {H : Hp} {gs : List (List Key × V)} {bs : List Addr} (h : IsKeys H gs bs) : gs.length = bs.length := Paired.length h
theorem f_list {m : Bool} (hK : R.K = X.K) (hc : X.calm = true) : CallR X (.type "list") (rBF R (bfV .list m)) := by
  intro pins s σ H xs us Q I rx h
  obtain ⟨φ, st, d, x, rfl, S, T, r, p⟩ := rBF.one (m := listV m) (fun ds => by rcases ds with _ | ⟨d, _ | ⟨e, r⟩⟩ <;> rfl) h
  have seq : PostN R φ H (RepV R) (M.bnd (asS d) (newL m) st) Q → wpAny (model X.prog X.w) X.A (call (.type "list") us) (EP X pins σ Q) X.xe s := fun p => by
    obtain ⟨a, ds, vs, rfl, h1, h2, h3, p⟩ := bndS_ok S r p
    rw [hK] at h1
    exact call_list_of pins s σ H _ us Q I rx ⟨a, vs, rfl, h1, (newL_ok S T h3 p).2⟩
  cases d with
  | loc n =>
    rcases loc_or (f := .bad) (fun kvs => newL m (kvs.map (·.1)) st) p with ⟨kvs, q, p⟩ | p
    · obtain ⟨a, ha, rfl⟩ := r
      rcases S.at_ n _ a q ha with ⟨gs, q1, q2, q3⟩ | ⟨gs, q1, q2, q3⟩
      · exact call_listD hc pins s σ H _ us Q I rx ⟨a, gs, rfl, .inl q1, (newL_ok S T (keysK q3) p).2⟩
      · refine call_list_dT hc pins s σ H _ us Q I rx ⟨a, gs, rfl, .inl q1, fun l bs hl hb => (newL_ok S T (keysT (fun b hb' => ?_) q3 hb) p).2 l hl⟩
        obtain ⟨xs, e⟩ := isKeys_mem hb b hb'
        exact S.notup e
    · exact seq p
  | _ => exact seq p
theorem toDs_len : ∀ {ys : List PV} {ds : List PyData}, PV.toDs ys = some ds → ys.length = ds.length
  | [], _, e => by cases e; rfl
  | y :: ys, ds, e => by
    unfold PV.toDs at e
    cases q1 : y.toD with
    | none => rw [q1] at e; cases e
    | some D =>
      cases q2 : PV.toDs ys with
      | none => rw [q1, q2] at e; cases e
      | some Ds =>
        rw [q1, q2] at e
        cases e
        simp [toDs_len q2]
theorem sort_each {φ : List Addr} {H : Hp} : ∀ {ys : List PV} {ds : List PyData} {vs : List V} {us : List Value}, PV.toDs ys = some ds → RepL R φ H ys vs → Vals vs us → PySem.W.EachIs (fun u (b : PV × PyData) => ∃ x, RelV x u ∧ RepV R φ H b.1 x ∧ b.1.toD = some b.2) us (ys.zip ds)
  | [], _, _, _, e, r, rv => by
    cases e
    cases r
    cases rv
    exact .nil
  | y :: ys, ds, _, _, e, r, rv => by
    obtain ⟨v, s, rfl, g1, g2⟩ := r
    unfold PV.toDs at e
    cases q1 : y.toD with
    | none => rw [q1] at e; cases e
    | some D =>
      cases q2 : PV.toDs ys with
      | none => rw [q1, q2] at e; cases e
      | some Ds =>
        rw [q1, q2] at e
        cases e
        cases rv with
        | cons r1 r2 => exact .cons ⟨v, r1, g1, q1⟩ (sort_each q2 g2 r2)
theorem each_back {φ : List Addr} {H : Hp} : ∀ {bs : List (PV × PyData)} {us : List Value}, PySem.W.EachIs (fun u (b : PV × PyData) => ∃ x, RelV x u ∧ RepV R φ H b.1 x ∧ b.1.toD = some b.2) us bs → ∃ vs, RepL R φ H (bs.map (·.1)) vs ∧ Vals vs us
  | [], _, h => by cases h; exact ⟨[], rfl, .nil⟩
  | b :: bs, _, h => by
    cases h with
    | cons h1 h2 =>
      obtain ⟨x, r1, r2, _⟩ := h1
      obtain ⟨vs, g1, g2⟩ := each_back h2
      exact ⟨x :: vs, ⟨x, vs, rfl, r2, g1⟩, .cons r1 g2⟩
theorem zip_snd {ys : List PV} {ds : List PyData} (h : ys.length = ds.length) : (ys.zip ds).map (·.2) = ds := by
  rw [List.map_snd_zip (by omega)]
theorem sortable_ok {ds : List PyData} (h : sortable ds = true) : PySem.W.AllAlike ds ∧ PySem.W.Sortable ds ∧ ∀ d ∈ ds, d.depth ≤ 60 := by
  unfold sortable at h
  simp only [Bool.and_eq_true, Bool.or_eq_true, List.all_eq_true, decide_eq_true_eq] at h
  obtain ⟨⟨h1, h2⟩, h3⟩ := h
  refine ⟨h1, ?_, h2⟩
  rcases h3 with h3 | h3
  · refine .inl fun d hd => ?_
    have := h3 d hd
    cases d with
    | tuple xs =>
      cases xs with
      | nil => cases this
      | cons x r => exact ⟨x, r, rfl⟩
    | _ => cases this
  · refine .inr fun d hd => ?_
    have := h3 d hd
    cases d with
    | none => cases this
    | tuple xs => cases this
    | _ => exact ⟨fun z => (by cases z), fun xs z => (by cases z)⟩
theorem f_sorted {m : Bool} (hK : R.K = X.K) (hu : X.A.units + 64 < cLine) : CallR X (.builtin "sorted") (rBF R (bfV .sorted m)) := by
  intro pins s σ H xs us Q I rx h
  obtain ⟨φ, st, d, x, rfl, S, T, r, p⟩ := rBF.one (m := sortedV m) (fun ds => by rcases ds with _ | ⟨d, _ | ⟨e, r⟩⟩ <;> rfl) h
  obtain ⟨a, ys, vs, rfl, h1, h2, h3, p⟩ := bndL_ok S r p
  obtain ⟨ds, e, p⟩ := opt_ok p
  obtain ⟨hs, p⟩ := grd_ok p
  obtain ⟨al, so, dp⟩ := sortable_ok hs
  have hl := toDs_len e
  obtain ⟨its, rv, hL, hz⟩ := I.list (.inl (.inl h1))
  rw [Vals.ref1 rx]
  have e1 := sort_each e h3 rv
  have zs := zip_snd hl
  have lz : (ys.zip ds).length = ys.length := by rw [List.length_zip, ← hl, Nat.min_self]
  have er : PySem.W.EachIs (fun u (b : PV × PyData) => ∃ as, Reads s.heap u b.2 as) its (ys.zip ds) := e1.mono fun u b ⟨x, r1, r2, r3⟩ => by
    obtain ⟨g1, _⟩ := rep_dp _ _ _ r2 r3
    rw [hK] at g1
    exact Dp.reads I _ _ _ g1 r1
  refine PySem.W.sorted_data (enc := fun b : PV × PyData => b.2) hL.isList e1 er (by rw [zs]; exact al) (by rw [zs]; exact so) (by rw [lz, h3.length, sz_eq]; exact h2) (fun b hb => ?_) fun out ho eo => ?_
  · have := dp b.2 (by rw [← zs]; exact List.mem_map_of_mem hb)
    omega
  · obtain ⟨ws, g1, g2⟩ := each_back eo
    obtain ⟨ep, he'⟩ := sortedAll_at s.heap its out.toArray
    obtain ⟨hzz, q⟩ := newL_ok S T g1 p
    exact ⟨.ref _, upd H (s.heap.objs.size + 1) (.lst ws), I.laid (t' := s.toks) (fun _ _ => sortedAll_old) (Nat.le_succ _) ⟨by rw [sz_eq]; exact hzz, out, ep, g2, he'⟩, rfl, q _ (I.hok.fresh (Nat.le_succ _))⟩
theorem s_bf {f : Bf} {m : Bool} {id : String} {x : Str} {p pos : Pos} {e : Expr} {es : List Expr} {ms : Env → M (List PV)} (hf : CallR X (.builtin id) (rBF R (bfV f m))) (n : ∀ xs, NoX (bfV f m xs)) (hg : Gl X x) (hm : X.mg x = none) (hv : bootBuiltins x = some (.builtin id)) (ha : PA X (e :: es) (tMA' R G W ms))
    (hn : x ≠ "__name__") (hdb : (x == ("__debug__" : Str)) = false) (he : starEach (e :: es) X.env = (false, eval e X.env) :: starEach es X.env) (hpl : (backTo pos (starEach es X.env)).any (·.1) = false) :
    PE X (.Call (.Name x p) (e :: es) [] pos) (tM R G W fun ρ => M.bnd (ms ρ) (bfV f m)) :=
  (pe_callB hf hg hm hv ha hn hdb he hpl).imp fun σ H Q ⟨φ, st, ρ, S, E, T, h⟩ => ⟨φ, st, ρ, S, E, T, Post.mono (Post.bnd (A := RepL R) h) fun vs H1 ⟨φ1, st1, ds, s1, S1, T1, r1, p1⟩ => ⟨φ1, st1, ds, S1, T1, r1, p1.n (n ds)⟩⟩
theorem s_bfT {f : Bf} {m : Bool} {id : String} {x : Str} {p pos : Pos} {e : Expr} {es : List Expr} {ms : Env → M (List PV)} (hf : CallR X (.type id) (rBF R (bfV f m))) (n : ∀ xs, NoX (bfV f m xs)) (hg : Gl X x) (hm : X.mg x = none) (hv : bootBuiltins x = some (.type id)) (ha : PA X (e :: es) (tMA' R G W ms))
    (hn : x ≠ "__name__") (hdb : (x == ("__debug__" : Str)) = false) (he : starEach (e :: es) X.env = (false, eval e X.env) :: starEach es X.env) (hpl : (backTo pos (starEach es X.env)).any (·.1) = false) :
    PE X (.Call (.Name x p) (e :: es) [] pos) (tM R G W fun ρ => M.bnd (ms ρ) (bfV f m)) :=
  (pe_callTy hf hg hm hv ha hn hdb he hpl).imp fun σ H Q ⟨φ, st, ρ, S, E, T, h⟩ => ⟨φ, st, ρ, S, E, T, Post.mono (Post.bnd (A := RepL R) h) fun vs H1 ⟨φ1, st1, ds, s1, S1, T1, r1, p1⟩ => ⟨φ1, st1, ds, S1, T1, r1, p1.n (n ds)⟩⟩
theorem NoX.loc {n : Nat} {kk : List (PV × PV) → M PV} {g : M PV} (h1 : ∀ kvs, NoX (kk kvs)) (h2 : NoX g) : NoX fun s => match s[n]? with
    | some (.dct kvs) => kk kvs s
    | _ => g s := fun st c v s e => by
  dsimp only at e
  split at e
  · exact h1 _ _ _ _ _ e
  · exact h2 _ _ _ _ e
theorem NoX.two {f : Int → Int → M PV} (h : ∀ i j, NoX (f i j)) {x y : PV} : NoX (two f x y) := by
  unfold Mp.two
  split
  · exact h _ _
  · exact NoX.bad
theorem NoX.bfV {f : Bf} {m : Bool} {xs : List PV} : NoX (bfV f m xs) := by
  unfold Mp.bfV
  split
  · unfold Mp.lenV
    split
    · exact NoX.ret _
    · exact NoX.loc (kk := fun kvs => M.ret (.int kvs.length)) (fun kvs => NoX.ret _) (NoX.bnd NoX.asS fun _ => NoX.ret _)
    · exact NoX.bnd NoX.asS fun _ => NoX.ret _
  · unfold Mp.absV
    split <;> first | exact NoX.ret _ | exact NoX.bad
  · unfold Mp.intV
    split <;> first | exact NoX.ret _ | exact NoX.bad
  · exact NoX.two fun i j => NoX.grd (NoX.ret _)
  · exact NoX.two fun i j => NoX.ret _
  · exact NoX.two fun i j => NoX.ret _
  · exact NoX.bnd NoX.asL2 fun _ => NoX.bnd NoX.opt fun _ => NoX.ret _
  · exact NoX.bnd NoX.asL2 fun _ => NoX.bnd NoX.opt fun _ => NoX.ret _
  · exact NoX.bnd NoX.asL2 fun _ => NoX.bnd NoX.opt fun _ => NoX.ret _
  · exact NoX.bnd NoX.asL2 fun _ => NoX.bnd NoX.opt fun _ => NoX.ret _
  · exact NoX.bnd NoX.asL2 fun _ => NoX.bnd NoX.opt fun _ => NoX.ret _
  · exact NoX.bnd NoX.asL fun _ => NoX.bnd NoX.opt fun _ => NoX.grd NoX.newL
  · unfold Mp.listV
    split
    · exact NoX.loc (kk := fun kvs => Mp.newL m (kvs.map (·.1))) (fun kvs => NoX.newL) (NoX.bnd NoX.asS fun _ => NoX.newL)
    · exact NoX.bnd NoX.asS fun _ => NoX.newL
  · exact NoX.bnd NoX.asS fun _ => NoX.ret _
  · exact NoX.bad
end
end Mp
namespace Mp
open PySem PySem.Spec PyProof.Rows L2
def tyAns (t : Ty) (n : String) : Bool := match t with
  | .bool => n == "bool"
  | .int => n == "bool" || n == "int"
  | .str => n == "str"
  | .tup => n == "tuple"
  | .lst => n == "list"
  | .dct => n == "dict"
  | .own _ => false
  | .xc _ => false
structure ClsI (K : PySem.W.Frag) (C : Addr) : Prop where
  cl : Cls K C
  ha : PySem.W.findIn K (.ref C) "__class__" = some (some (.builtin "object.__class__"))
  hn : PySem.W.specialIn K (.builtin "object.__class__") "__get__" = some (some (.builtin "getset_descriptor.__get__"))
  htk : PySem.W.takesIn K (.builtin "object.__class__") = some true
  hm : PySem.W.mroIn K C (.type "object") = some true
structure XcF (K : PySem.W.Frag) (C : Addr) : Prop where
  ox : OexC K C
  xf : XfC K C
  ec : ExcC K C
def XclOk (R : Rc) : Prop := ∀ c ∈ R.xcl, XcF R.K (R.cad c)
structure IsaF (R : Rc) (cl : List (Nat × Nat)) (t : Ty) (u : Value) : Prop where
  ty : ∀ n ∈ ["NoneType", "bool", "int", "str", "tuple", "list", "dict"], PySem.W.kitOne R.K (.type n) u = some (tyAns t n)
  ins : ∀ c, (cl.lookup c).isSome = true → ClsI R.K (R.cad c) ∧ PySem.W.kitOne R.K (.ref (R.cad c)) u = some (ownAns t c)
  exn : ∀ cs, t = .xc cs → ∀ c ∈ R.xcl, PySem.W.kitOne R.K (.ref (R.cad c)) u = some (decide (c ∈ cs))
def rIsX (K : PySem.W.Frag) : List V → Hp → VK → Prop := fun xs H Q => ∃ (a C : Addr) (d : Option Addr) (c : V) (u : Value) (b : Bool), xs = [.ref a, c] ∧ H a = some (exo a C d) ∧ (∀ dd, d = some dd → ∃ fs, H dd = some (exd dd fs)) ∧ ExcC K C ∧ OexC K C ∧ ClsV c u ∧ PySem.W.kitOne K (.ref C) u = some b ∧ Q (.bl b) H
theorem exo_inst {P : Program} {w : World} {H : Hp} {h : Heap} {a C : Addr} {d : Option Addr} (hok : HOk P w H h) (e : H a = some (exo a C d)) (hd : ∀ dd, d = some dd → ∃ fs, H dd = some (exd dd fs)) : ∃ ox od, PySem.W.InstAt h a ox C od := by
  obtain ⟨t1, ho⟩ := exo_at hok e
  cases d with
  | none => exact ⟨_, none, ho, rfl, rfl, trivial⟩
  | some dd =>
    obtain ⟨fs, hf⟩ := hd dd rfl
    obtain ⟨mA, hns, _⟩ := exd_at hok hf
    obtain ⟨od, h1, _⟩ := lookIn_ns hns
    exact ⟨_, some od, ho, rfl, rfl, h1⟩
theorem OexC.isCls {K : PySem.W.Frag} {C : Addr} (T : OexC K C) : (PySem.W.clsIn K C).isSome = true := by
  obtain ⟨nm, q, N, bs, bm, sn, sub, ab, col, dd, k0, k1, k2, k3, k5, hC, hbm⟩ := T.cls
  unfold PySem.W.clsIn
  rw [hC]
  rfl
theorem call_isX {X : Cx} : CallR X (.builtin "isinstance") (rIsX X.K) := by
  intro pins s σ H xs us Q I r h
  obtain ⟨a, C, d, c, u, b, rfl, e1, e2, T, O, k, e, q⟩ := h
  obtain ⟨u1, u2, rfl, r1, r2⟩ := vals2 r
  obtain rfl : u1 = Value.ref a := r1
  have ec := k.eq r2
  subst ec
  obtain ⟨ox, od, J⟩ := exo_inst I.hok e1 e2
  exact PySem.W.kia_one (PySem.W.kitx_exc (OexC.isCls O) T.hg T.hk T.hs T.ha T.hn T.ht T.hm) I.kIn J e (fun z => nomatch z) fun tk => ⟨.bl b, H, I.tok tk, rfl, q⟩
def rIsA (K : PySem.W.Frag) : List V → Hp → VK → Prop := fun xs H Q => rIsi K xs H Q ∨ rIsX K xs H Q
theorem call_isA {X : Cx} : CallR X (.builtin "isinstance") (rIsA X.K) := by
  intro pins s σ H xs us Q I r h
  rcases h with h | h
  · exact call_isi pins s σ H xs us Q I r h
  · exact call_isX pins s σ H xs us Q I r h
section
variable {X : Cx} {R : Rc} {G : Gm} {W : WX}
theorem isB_ok {cl : List (Nat × Nat)} {t : Ty} {u : Value} {cv : V} {φ : List Addr} {H : Hp} {st : Sto} {d : PV} {x : V} {Q : Bool → Hp → Prop} (xk : XclOk R) (S : RepS R φ st H) (T : Tbs R H) (f : IsaF R cl t u) (r : RepV R φ H d x) (p : PostN R φ H AB (isB cl d t st) Q) :
    (∃ ty b, TyX R.K H x ty ∧ PySem.W.kitOne R.K ty u = some b ∧ Q b H) ∨ ∃ (a C : Addr) (dd : Option Addr) (b : Bool), x = .ref a ∧ H a = some (exo a C dd) ∧ (∀ dx, dd = some dx → ∃ fs, H dx = some (exd dx fs)) ∧ ExcC R.K C ∧ OexC R.K C ∧ PySem.W.kitOne R.K (.ref C) u = some b ∧ Q b H := by
  have go : ∀ n ∈ ["NoneType", "bool", "int", "str", "tuple", "list", "dict"], TyX R.K H x (.type n) → PostN R φ H AB (.ok (tyAns t n) st) Q → (∃ ty b, TyX R.K H x ty ∧ PySem.W.kitOne R.K ty u = some b ∧ Q b H) ∨ ∃ (a C : Addr) (dd : Option Addr) (b : Bool), x = .ref a ∧ H a = some (exo a C dd) ∧ (∀ dx, dd = some dx → ∃ fs, H dx = some (exd dx fs)) ∧ ExcC R.K C ∧ OexC R.K C ∧ PySem.W.kitOne R.K (.ref C) u = some b ∧ Q b H := fun n hn ty p => .inl ⟨_, _, ty, f.ty n hn, p φ H _ (Step.refl _ _) S T rfl⟩
  cases d with
  | non => cases r; exact go "NoneType" (by simp) (.base .non) (by cases t <;> exact p)
  | bl b => cases r; exact go "bool" (by simp) (.base (.bl b)) (by cases t <;> exact p)
  | int i => cases r; exact go "int" (by simp) (.base (.int i)) (by cases t <;> exact p)
  | str z => obtain ⟨rfl, _⟩ := r; exact go "str" (by simp) (.base (.str z)) (by cases t <;> exact p)
  | tup xs =>
    obtain ⟨a, vs, rfl, tt, z, q⟩ := r
    refine go "tuple" (by simp) ?_ (by cases t <;> exact p)
    rcases tt with tt | ⟨_, o, its, n, h1, h2, _⟩
    · exact .base (.tup tt.1)
    · exact .kTuple h1 h2
  | lst xs =>
    obtain ⟨a, vs, rfl, tt, z, q⟩ := r
    exact go "list" (by simp) (.base (.lst tt.1)) (by cases t <;> exact p)
  | loc n =>
    obtain ⟨a, ha, rfl⟩ := r
    cases q : st[n]? with
    | none => unfold isB at p; simp only [q] at p; exact p.elim
    | some m =>
      unfold isB at p
      simp only [q] at p
      have ro := S.at_ n _ a q ha
      cases m with
      | lst xs =>
        obtain ⟨vs, h1, _⟩ := ro
        exact go "list" (by simp) (.base (.lst h1)) (by cases t <;> exact p)
      | dct kvs =>
        rcases ro with ⟨gs, h1, _⟩ | ⟨gs, h1, _⟩
        · exact go "dict" (by simp) (.base (.dK h1)) (by cases t <;> exact p)
        · exact go "dict" (by simp) (.base (.dT h1)) (by cases t <;> exact p)
      | ins c fs =>
        obtain ⟨dx, gs, h1, _⟩ := ro
        obtain ⟨hk, p⟩ := grdB_ok p
        obtain ⟨ci, e⟩ := f.ins c hk
        exact .inl ⟨_, _, .base (.ins h1 ci.cl ci.ha ci.hn ci.htk ci.hm), e, p φ H _ (Step.refl _ _) S T rfl⟩
  | scr ns =>
    obtain ⟨a, o, rfl, tt, z⟩ := r
    exact False.elim p
  | exn c g ds =>
    obtain ⟨a, ws, rfl, ⟨hc, tt⟩, _⟩ := r
    have k := xk c hc
    cases t with
    | xc cs =>
      have e := f.exn cs rfl c hc
      rcases tt with ⟨_, h1⟩ | ⟨w, d, y, _, _, _, h1, h2⟩
      · exact .inr ⟨a, _, none, _, rfl, h1.1, (fun dx z => by cases z), k.ec, k.ox, e, p φ H _ (Step.refl _ _) S T rfl⟩
      · exact .inr ⟨a, _, some d, _, rfl, h1.1, (fun dx z => by cases z; exact ⟨_, h2.1⟩), k.ec, k.ox, e, p φ H _ (Step.refl _ _) S T rfl⟩
    | _ => exact False.elim p
  | _ => exact False.elim p
theorem NoX.isB {cl : List (Nat × Nat)} {t : Ty} {x : PV} : NoX (isB cl x t) := fun st c v s e => by
  unfold Mp.isB at e
  repeat' (first | (cases e; done) | exact (NoX.grd (NoX.ret _)) _ _ _ _ e | split at e)
theorem s_isi {cl : List (Nat × Nat)} {t : Ty} {u : Value} {cv : V} {a c : Expr} {p pos : Pos} {ma : Env → M PV} (hK : R.K = X.K) (xk : XclOk R) (hg : Gl X "isinstance") (hm : X.mg "isinstance" = none) (f : IsaF R cl t u) (kv : ClsV cv u) (ha : PE X a (tM R G W ma)) (hc : PE X c (tC cv))
    (h1 : starEach [a, c] X.env = (false, eval a X.env) :: starEach [c] X.env) (h2 : starEach [c] X.env = (false, eval c X.env) :: starEach [] X.env) (hpl : (backTo pos (starEach [c] X.env)).any (·.1) = false) :
    PE X (.Call (.Name "isinstance" p) [a, c] [] pos) (tM R G W fun ρ => M.bnd (ma ρ) fun x => M.bnd (isB cl x t) fun k => M.ret (PV.bl k)) :=
  (pe_callB call_isA hg hm (by rfl) (pa_cons ha (pa_cons hc pa_nil h2) h1) (by decide) (by decide) h1 hpl).imp fun σ H Q ⟨φ, st, ρ, S, E, T, h⟩ => tM.then (f := fun ρ x => M.bnd (isB cl x t) fun k => M.ret (PV.bl k)) S E T h fun φ1 st1 d v H1 s1 S1 E1 T1 r1 p1 => by
    rcases isB_ok (cv := cv) xk S1 T1 f r1 (rMB_of S1 NoX.isB p1) with ⟨ty, b, g1, g2, g3⟩ | ⟨a, C, dd, b, rfl, g1, g2, g3, g4, g5, g6⟩
    · rw [hK] at g1 g2
      exact .inl ⟨v, cv, ty, u, b, rfl, kv, g1, g2, g3⟩
    · rw [hK] at g3 g4 g5
      exact .inr ⟨a, C, dd, cv, u, b, rfl, g1, g2, g3, g4, kv, g5, g6⟩
structure PropM (P : Program) (w : World) (K : PySem.W.Frag) (mg : Str → Option Value) (base : Heap) (R : Rc) (k c f : Nat) (m : List PV → M PV) : Prop where
  ex : ∃ (p g : Addr) (fd : FuncData) (ps : List Str), Cls K (R.cad c) ∧ PropOf K (R.cad c) (R.fnm f) p g ∧ FnM P w K mg base R k g fd ps m ∧ Binds K fd ps [] ∧ ps.length = 1
theorem clsOf_ok {α β : Type} {A : List Addr → Hp → α → β → Prop} {φ : List Addr} {H : Hp} {st : Sto} {σ : L2.St} {d : PV} {x : V} {f : Nat → M α} {Q : β → Hp → Prop} (S : RepS R φ st H) (r : RepV R φ H d x) (p : Post R W σ φ H A (M.bnd (clsOf d) f st) Q) :
    ∃ n a c fs dx gs, d = .loc n ∧ φ[n]? = some a ∧ x = .ref a ∧ st[n]? = some (.ins c fs) ∧ H a = some (.ins (R.cad c) dx gs) ∧ FldL R φ H fs gs ∧ Post R W σ φ H A (f c st) Q := by
  unfold M.bnd clsOf at p
  cases d with
  | loc n =>
    obtain ⟨a, ha, rfl⟩ := r
    cases q : st[n]? with
    | none => simp only [q] at p; exact p.elim
    | some m =>
      simp only [q] at p
      cases m with
      | ins c fs =>
        obtain ⟨dx, gs, h1, h2⟩ := S.at_ n _ a q ha
        exact ⟨n, a, c, fs, dx, gs, rfl, ha, rfl, q, h1, h2, p⟩
      | _ => exact False.elim p
  | _ => exact False.elim p
theorem s_atr {G : Gm} {P : Prog} {C : Call} {k : Nat} {a : Expr} {f : Nat} {pos : Pos} {ma : Env → M PV} (hK : R.K = X.K) (xk : XclOk R) (cl : ClsOk R P.flds) (pr : ∀ c g j, P.props.lookup (c, g) = some j → PropM X.prog X.w X.K X.mg X.base R k c g (C.low j)) (hr : Room (k + 1) X.A)
    (ha : PE X a (tM R G W ma)) (hb : attributeBase a (R.fnm f) X.env (eval a X.env) = eval a X.env) : PE X (.Attribute a (R.fnm f) pos) (tM R G W fun ρ => M.bnd (ma ρ) fun x => atrV P C x f) := by
  refine ⟨fun pins s σ H Q I ⟨φ, st, ρ, S, E, T, h⟩ => ?_⟩
  refine attr_of hb (thn (ha.run pins s σ H _ I (tM.then (f := fun ρ x => atrV P C x f) (Q1 := fun x H1 => ∃ φ1 st1 d, RepS R φ1 st1 H1 ∧ Tbs R H1 ∧ RepV R φ1 H1 d x ∧ Post R W σ φ1 H1 (RepV R) (atrV P C d f st1) Q) S E T h fun φ1 st1 d v H1 s1 S1 E1 T1 r1 p1 => ⟨φ1, st1, d, S1, T1, r1, p1⟩)) fun u s1 ⟨x, H1, I1, rx, φ1, st1, d, S1, T1, r1, p1⟩ => ?_)
  by_cases nx : ∃ c g ds, d = .exn c g ds
  · obtain ⟨c, g, ds, rfl⟩ := nx
    obtain ⟨a', ws, rfl, ⟨hc, tt⟩, rl⟩ := r1
    obtain rfl : u = Value.ref a' := rx
    have k := xk c hc
    unfold atrV at p1
    simp only at p1
    unfold M.grd at p1
    by_cases eg : g = f
    · subst eg
      simp only [decide_true, if_true] at p1
      cases ds with
      | nil => exact p1.elim
      | cons d0 dr =>
        obtain ⟨v0, vr, ev, rv0, _⟩ := rl
        rcases tt with ⟨z, _⟩ | ⟨w, d, y, ew, hy, hno, h1, h2⟩
        · rw [z] at ev; cases ev
        · rw [ew] at ev
          cases ev
          obtain ⟨t1, ho⟩ := exo_at I1.hok h1.1
          obtain ⟨mA, hns, hr'⟩ := exd_at I1.hok h2.1
          obtain ⟨od, ho2, hl⟩ := lookIn_ns hns
          have ey : R.fnm g = y := by unfold Rc.fnm; rw [hy]; rfl
          obtain ⟨u, hu, ru⟩ := RelO.some_of (v := v0) (o := mA y) (by
            have := hr' y
            rw [show List.lookup y [(y, v0)] = some v0 from by simp [List.lookup]] at this
            exact this)
          rw [hK] at hno
          have J : PySem.W.InstAt s1.heap a' _ (R.cad c) (some od) := ⟨ho, rfl, rfl, ho2⟩
          have T := k.xf
          rw [hK] at T
          rw [ey]
          exact PySem.HandSPX.exc_get I1.kIn J T.ga T.gg T.exC (PySem.W.findObj_own T.hdC hno rfl (by rw [hl, hu])) (handed_of ru) ⟨v0, H1, I1.tok _, ru, p1 φ1 H1 v0 (Step.refl _ _) S1 T1 rv0⟩
    · simp only [eg, decide_false, Bool.false_eq_true, if_false] at p1
      exact p1.elim
  have ea : atrV P C d f = M.bnd (clsOf d) fun c => (match P.props.lookup (c, f) with
    | some k => M.nox (C.low k [d])
    | none => fldV P.flds d f) := by
    cases d with
    | exn c g ds => exact absurd ⟨c, g, ds, rfl⟩ nx
    | _ => rfl
  rw [ea] at p1
  obtain ⟨n, a', c, fs, dx, gs, rfl, hn, rfl, q, g1, g2, p1⟩ := clsOf_ok S1 r1 p1
  obtain rfl : u = Value.ref a' := rx
  cases q2 : P.props.lookup (c, f) with
  | none =>
    rw [q2] at p1
    unfold fldV at p1
    simp only [q] at p1
    unfold M.grd at p1
    cases q3 : isFld P.flds c f with
    | false => rw [q3] at p1; exact p1.elim
    | true =>
      rw [q3] at p1
      obtain ⟨c1, c2, c3⟩ := cl.cls c f q3
      rw [hK] at c1 c2
      cases q4 : fs.lookup f with
      | none => rw [q4] at p1; exact p1.elim
      | some e =>
        rw [q4] at p1
        obtain ⟨v, v1, v2⟩ := fld_get cl.inj c3 g2 q4
        exact getattr_ok I1 g1 c1 c2 v1 fun u' s2 I2 ru => ⟨v, H1, I2, ru, p1 φ1 H1 v (Step.refl _ _) S1 T1 v2⟩
  | some j =>
    rw [q2] at p1
    obtain ⟨p, g, fd, ps, k1, k2, k3, k4, k5⟩ := (pr c f j q2).ex
    refine getprop_ok (E := fun _ _ _ => False) I1 g1 k1 k2 k3.ok hr k4 .nil (fun pins σ H s e s' I hq => ?_) ⟨φ1, st1, [.loc n], k5.symm, S1, T1, ⟨_, _, rfl, ⟨a', hn, rfl⟩, rfl⟩, ?_⟩
    · obtain ⟨_, _, _, _, _, _, _, _, _, _, _, _, z⟩ := hq
      exact z
    · have p1 : Post R W σ φ1 H1 (RepV R) (M.nox (C.low j [.loc n]) st1) Q := p1
      unfold M.nox at p1
      cases z : C.low j [.loc n] st1 with
      | ok d st2 => rw [z] at p1; exact p1
      | exc c v s2 => rw [z] at p1; exact p1.elim
      | bad => rw [z] at p1; exact p1
end
end Mp
namespace Mp
open PySem PySem.Spec PyProof.Rows L2
section
variable {X : Cx} {R : Rc} {G : Gm} {W : WX}
def rMt (R : Rc) (m : PV → List PV → M PV) : V → List V → Hp → VK → Prop := fun x xs H Q => ∃ φ st d ds, RepS R φ st H ∧ Tbs R H ∧ RepV R φ H d x ∧ RepL R φ H ds xs ∧ PostN R φ H (RepV R) (m d ds st) Q
theorem _root_.L2.MtR.imp {id : String} {r r' : V → List V → Hp → VK → Prop} (h : MtR X id r) (k : ∀ x xs H Q, r' x xs H Q → r x xs H Q) : MtR X id r' := fun pins s σ H x xs v us Q I rx rs q => h pins s σ H x xs v us Q I rx rs (k x xs H Q q)
theorem lstAt_ok {φ : List Addr} {H : Hp} {st : Sto} {n : Nat} {f : List PV → M PV} {Q : VK} (p : PostN R φ H (RepV R) (lstAt n f st) Q) : ∃ ys, st[n]? = some (.lst ys) ∧ PostN R φ H (RepV R) (f ys st) Q := by
  unfold lstAt at p
  cases q : st[n]? with
  | none => rw [q] at p; exact p.elim
  | some m =>
    rw [q] at p
    cases m with
    | lst ys => exact ⟨ys, rfl, p⟩
    | _ => exact False.elim p
theorem wrL_ok {φ : List Addr} {H : Hp} {st : Sto} {n : Nat} {a : Addr} {ys zs : List PV} {vs : List V} {d : PV} {v : V} {Q : VK} (S : RepS R φ st H) (T : Tbs R H) (e : st[n]? = some (.lst ys)) (ha : φ[n]? = some a) (hz : vs.length ≤ SZ) (hl : RepL R φ H zs vs) (hv : RepV R φ H d v)
    (p : PostN R φ H (RepV R) (wrL n zs d st) Q) : Q v (upd H a (.lst vs)) := by
  have s := step_wr (H := H) (o := .lst vs) (List.mem_of_getElem? ha)
  exact p φ _ v s (S.write (m := .lst zs) ha ⟨vs, upd_same, hz, RepL.step s _ _ hl⟩) (T.upd S e ha) (hv.step s)
theorem m_append {cts : List PV} {m : Bool} : MtR X "list.append" (rMt R (bmV cts .append m)) := MtR.imp (r := rAppend) mt_append fun x xs H Q ⟨φ, st, d, ds, S, T, rd, rs, p⟩ => by
  match d, ds, xs, rd, rs, p with
  | .loc n, [y], xs, rd, rs, p =>
    obtain ⟨v, r, rfl, g1, rfl⟩ := rs
    obtain ⟨a, ha, rfl⟩ := rd
    obtain ⟨ys, e, p⟩ := lstAt_ok (f := fun ys => M.grd (decide (ys.length < SZ)) (wrL n (ys ++ [y]) .non)) p
    obtain ⟨hk, p⟩ := grd_ok p
    have hk := of_decide_eq_true hk
    obtain ⟨vs, h1, h2, h3⟩ := S.at_ n _ a e ha
    rw [h3.length] at hk
    exact ⟨a, vs, v, rfl, rfl, h1, by rw [sz_eq]; exact hk, wrL_ok S T e ha (by rw [List.length_append]; exact hk) (h3.append (RepL.one g1)) (d := .non) rfl p⟩
  | .loc _, [], _, _, _, p => exact p.elim
  | .loc _, _ :: _ :: _, _, _, _, p => exact p.elim
  | .non, _, _, _, _, p => exact p.elim
  | .bl _, _, _, _, _, p => exact p.elim
  | .int _, _, _, _, _, p => exact p.elim
  | .str _, _, _, _, _, p => exact p.elim
  | .tup _, _, _, _, _, p => exact p.elim
  | .lst _, _, _, _, _, p => exact p.elim
  | .glo _, _, _, _, _, p => exact p.elim
  | .scr _, _, _, _, _, p => exact p.elim
  | .clo _ _, _, _, _, _, p => exact p.elim
theorem m_extend {cts : List PV} {m : Bool} : MtR X "list.extend" (rMt R (bmV cts .extend m)) := MtR.imp (r := rExtend) mt_extend fun x xs H Q ⟨φ, st, d, ds, S, T, rd, rs, p⟩ => by
  match d, ds, xs, rd, rs, p with
  | .loc n, [y], xs, rd, rs, p =>
    obtain ⟨v, r, rfl, g1, rfl⟩ := rs
    obtain ⟨a, ha, rfl⟩ := rd
    obtain ⟨ys, e, p⟩ := lstAt_ok (f := fun ys => M.bnd (asL y) fun zs => M.grd (decide (ys.length + zs.length ≤ SZ)) (wrL n (ys ++ zs) .non)) p
    obtain ⟨b, zs, ws, rfl, k1, k2, k3, p⟩ := bndL_ok S g1 p
    obtain ⟨hk, p⟩ := grd_ok p
    have hk := of_decide_eq_true hk
    obtain ⟨vs, h1, h2, h3⟩ := S.at_ n _ a e ha
    rw [h3.length, k3.length] at hk
    exact ⟨a, b, vs, ws, rfl, rfl, h1, k1, by rw [sz_eq]; exact hk, wrL_ok S T e ha (by rw [List.length_append]; exact hk) (h3.append k3) (d := .non) rfl p⟩
  | .loc _, [], _, _, _, p => exact p.elim
  | .loc _, _ :: _ :: _, _, _, _, p => exact p.elim
  | .non, _, _, _, _, p => exact p.elim
  | .bl _, _, _, _, _, p => exact p.elim
  | .int _, _, _, _, _, p => exact p.elim
  | .str _, _, _, _, _, p => exact p.elim
  | .tup _, _, _, _, _, p => exact p.elim
  | .lst _, _, _, _, _, p => exact p.elim
  | .glo _, _, _, _, _, p => exact p.elim
  | .scr _, _, _, _, _, p => exact p.elim
  | .clo _ _, _, _, _, _, p => exact p.elim
theorem RepL.dropLast {φ : List Addr} {H : Hp} {ds : List PV} {vs : List V} (h : RepL R φ H ds vs) : RepL R φ H ds.dropLast vs.dropLast := by
  rw [List.dropLast_eq_take, List.dropLast_eq_take, h.length]
  exact h.take _
theorem RepL.erase {φ : List Addr} {H : Hp} : ∀ {ds : List PV} {vs : List V} (k : Nat), RepL R φ H ds vs → RepL R φ H (ds.eraseIdx k) (vs.eraseIdx k)
  | [], _, _, h => by cases h; rfl
  | d :: ds, _, 0, h => by
    obtain ⟨v, r, rfl, _, h2⟩ := h
    exact h2
  | d :: ds, _, k + 1, h => by
    obtain ⟨v, r, rfl, h1, h2⟩ := h
    exact ⟨v, _, rfl, h1, h2.erase k⟩
theorem m_pop {cts : List PV} {m : Bool} : MtR X "list.pop" (rMt R (bmV cts .pop m)) := MtR.imp (r := rPop) mt_pop fun x xs H Q ⟨φ, st, d, ds, S, T, rd, rs, p⟩ => by
  match d, ds, xs, rd, rs, p with
  | .loc n, [], xs, rd, rs, p =>
    cases rs
    obtain ⟨a, ha, rfl⟩ := rd
    obtain ⟨ys, e, p⟩ := lstAt_ok (f := fun ys => M.bnd (M.opt ys[ys.length - 1]?) fun y => wrL n ys.dropLast y) p
    obtain ⟨y, hy, p⟩ := opt_ok p
    obtain ⟨vs, h1, h2, h3⟩ := S.at_ n _ a e ha
    obtain ⟨v, g1, g2⟩ := h3.get hy
    rw [h3.length] at g1
    exact ⟨a, vs, v, rfl, rfl, h1, g1, wrL_ok S T e ha (by rw [List.length_dropLast]; omega) h3.dropLast g2 p⟩
  | .loc _, _ :: _, _, _, _, p => exact p.elim
  | .non, _, _, _, _, p => exact p.elim
  | .bl _, _, _, _, _, p => exact p.elim
  | .int _, _, _, _, _, p => exact p.elim
  | .str _, _, _, _, _, p => exact p.elim
  | .tup _, _, _, _, _, p => exact p.elim
  | .lst _, _, _, _, _, p => exact p.elim
  | .glo _, _, _, _, _, p => exact p.elim
  | .scr _, _, _, _, _, p => exact p.elim
  | .clo _ _, _, _, _, _, p => exact p.elim
theorem strs_rep {φ : List Addr} {H : Hp} : ∀ {zs : List Str}, zs.all okS = true → RepL R φ H (zs.map .str) (zs.map V.str)
  | [], _ => rfl
  | z :: zs, h => by
    rw [List.all_cons, Bool.and_eq_true] at h
    exact ⟨_, _, rfl, ⟨rfl, h.1⟩, strs_rep h.2⟩
theorem m_split {cts : List PV} {m : Bool} : MtR X "str.split" (rMt R (bmV cts .split m)) := mt_split.imp fun x xs H Q ⟨φ, st, d, ds, S, T, rd, rs, p⟩ => by
  match d, ds, xs, rd, rs, p with
  | .str z, [.str y], xs, rd, rs, p =>
    obtain ⟨v, r, rfl, g1, rfl⟩ := rs
    have p : PostN R φ H (RepV R) (M.grd (decide (y.length ≠ 0) && decide (z.length + 2 ≤ SZ) && (PySem.Txt.split z y).all okS) (newL m ((PySem.Txt.split z y).map .str)) st) Q := p
    obtain ⟨hk, p⟩ := grd_ok p
    simp only [Bool.and_eq_true, decide_eq_true_eq] at hk
    exact ⟨z, y, rd.1, by rw [g1.1], by simpa using hk.1.1, by rw [sz_eq]; exact hk.1.2, (newL_ok S T (strs_rep hk.2) p).2⟩
  | .str _, [], _, _, _, p => exact p.elim
  | .str _, [.non], _, _, _, p => exact p.elim
  | .str _, [.bl _], _, _, _, p => exact p.elim
  | .str _, [.int _], _, _, _, p => exact p.elim
  | .str _, [.tup _], _, _, _, p => exact p.elim
  | .str _, [.lst _], _, _, _, p => exact p.elim
  | .str _, [.loc _], _, _, _, p => exact p.elim
  | .str _, [.glo _], _, _, _, p => exact p.elim
  | .str _, [.scr _], _, _, _, p => exact p.elim
  | .str _, [.clo _ _], _, _, _, p => exact p.elim
  | .str _, a :: _ :: _, _, _, _, p => cases a <;> exact p.elim
  | .loc _, _, _, _, _, p => exact p.elim
  | .non, _, _, _, _, p => exact p.elim
  | .bl _, _, _, _, _, p => exact p.elim
  | .int _, _, _, _, _, p => exact p.elim
  | .tup _, _, _, _, _, p => exact p.elim
  | .lst _, _, _, _, _, p => exact p.elim
  | .glo _, _, _, _, _, p => exact p.elim
  | .scr _, _, _, _, _, p => exact p.elim
  | .clo _ _, _, _, _, _, p => exact p.elim
def bmN : Bm → String
  | .split => "str"
  | .append => "list"
  | .extend => "list"
  | .pop => "list"
  | .popAt => "list"
  | _ => "dict"
theorem NoX.bmT {f : Bm} {x : PV} : NoX (bmT f x) := fun st c v s e => by
  unfold Mp.bmT at e
  repeat' (first | (cases e; done) | split at e)
theorem bmT_ok {f : Bm} {φ : List Addr} {H : Hp} {st st' : Sto} {d : PV} {x : V} (S : RepS R φ st H) (r : RepV R φ H d x) (h : bmT f d st = .ok () st') : st' = st ∧ tyV R.K (bmN f) x H := by
  have str : ∀ {z : Str}, d = .str z → tyV R.K "str" x H := fun {z} e => by
    subst e
    rw [r.1]
    rfl
  have lst : ∀ {n : Nat} {ys : List PV}, d = .loc n → st[n]? = some (.lst ys) → tyV R.K "list" x H := fun {n ys} e q => by
    subst e
    obtain ⟨a, ha, rfl⟩ := r
    obtain ⟨vs, h1, _⟩ := S.at_ n _ a q ha
    exact .inl ⟨rfl, vs, .inl (.inl h1)⟩
  have dct : ∀ {n : Nat} {ys : List (PV × PV)}, d = .loc n → st[n]? = some (.dct ys) → tyV R.K "dict" x H := fun {n ys} e q => by
    subst e
    obtain ⟨a, ha, rfl⟩ := r
    rcases S.at_ n _ a q ha with ⟨gs, h1, _⟩ | ⟨gs, h1, _⟩
    · exact .inr (.inr (.inl ⟨rfl, .inl ⟨gs, h1⟩⟩))
    · exact .inr (.inr (.inl ⟨rfl, .inr ⟨gs, h1⟩⟩))
  unfold bmT at h
  split at h
  · cases h; exact ⟨rfl, str rfl⟩
  · split at h
    · rename_i q; cases h; exact ⟨rfl, lst rfl q⟩
    · cases h
  · split at h
    · rename_i q; cases h; exact ⟨rfl, lst rfl q⟩
    · cases h
  · split at h
    · rename_i q; cases h; exact ⟨rfl, lst rfl q⟩
    · cases h
  · split at h
    · rename_i q; cases h; exact ⟨rfl, lst rfl q⟩
    · cases h
  · split at h
    · rename_i q; cases h; exact ⟨rfl, dct rfl q⟩
    · cases h
  · split at h
    · rename_i q; cases h; exact ⟨rfl, dct rfl q⟩
    · cases h
  · split at h
    · rename_i q; cases h; exact ⟨rfl, dct rfl q⟩
    · cases h
  · cases h
theorem NoX.lstAt {n : Nat} {f : List PV → M PV} (h : ∀ ys, NoX (f ys)) : NoX (lstAt n f) := fun st c v s e => by
  unfold Mp.lstAt at e
  split at e
  · exact h _ _ _ _ _ e
  · cases e
theorem NoX.wrL {n : Nat} {ys : List PV} {d : PV} : NoX (wrL n ys d) := fun st c v s e => by cases e
theorem NoX.bmV {cts : List PV} {f : Bm} {m : Bool} {o : PV} {xs : List PV} : NoX (bmV cts f m o xs) := by
  unfold Mp.bmV
  split
  · exact NoX.lstAt fun _ => NoX.grd NoX.wrL
  · exact NoX.lstAt fun _ => NoX.bnd NoX.asL fun _ => NoX.grd NoX.wrL
  · exact NoX.lstAt fun _ => NoX.bnd NoX.opt fun _ => NoX.wrL
  · exact NoX.lstAt fun _ => NoX.bnd NoX.opt fun _ => NoX.bnd NoX.opt fun _ => NoX.wrL
  · exact NoX.grd NoX.newL
  · exact NoX.bnd NoX.asDct fun _ => NoX.grd (NoX.ret _)
  · exact NoX.bnd NoX.asDct fun _ => NoX.grd (NoX.ret _)
  · refine NoX.bnd NoX.asDct fun _ => NoX.grd fun st c v s e => ?_
    repeat' (first | (cases e; done) | split at e)
  · exact NoX.bad
theorem RepV.mt {φ : List Addr} {H : Hp} {d : PV} {x : V} (r : RepV R φ H d x) : True := trivial
theorem s_bm {f : Bm} {m : Bool} {id : String} {name : Str} {apos cpos : Pos} {o e : Expr} {es : List Expr} {mo : Env → M PV} {ms : Env → M (List PV)} (hK : R.K = X.K) (pa : PlainAttrs (bmN f)) (slot : Slot (bmN f) name id) (hty : typeOf (.builtin id) = pure (.type "method_descriptor")) (hm : MtR X id (rMt R (bmV R.cts f m)))
    (ho : PE X o (tM R G W mo)) (ha : PA X (e :: es) (tMA' R G W ms)) (hbase : attributeBase o name X.env (eval o X.env) = eval o X.env)
    (hfew : ((backTo cpos (starEach (e :: es) X.env)).all (fun x => !x.1) && (backToKw cpos (keywordEach [] X.env)).all (fun x => x.1.isSome)
      && decide ((e :: es).length + ([] : List Keyword).length + (if ([] : List Keyword).isEmpty then 0 else 1) < 30)) = true)
    (hline : (apos.endLine == cpos.line) = true) (hs : starEach (e :: es) X.env = (false, eval e X.env) :: starEach es X.env) (hplain : (backTo cpos (starEach es X.env)).any (·.1) = false) :
    PE X (.Call (.Attribute o name apos) (e :: es) [] cpos) (tM R G W fun ρ => M.bnd (mo ρ) fun x => M.bnd (bmT f x) fun _ => M.bnd (ms ρ) (bmV R.cts f m x)) :=
  (pe_bm pa slot hty hm ho ha hbase hfew hline hs hplain).imp fun σ H Q ⟨φ, st, ρ, S, E, T, h⟩ => tM.then (f := fun ρ x => M.bnd (bmT f x) fun _ => M.bnd (ms ρ) (bmV R.cts f m x)) S E T h fun φ1 st1 d v H1 s1 S1 E1 T1 r1 p1 => by
    obtain ⟨_, q, p1⟩ := Post.look NoX.bmT (fun _ _ e => (bmT_ok S1 r1 e).1) p1
    have ty := (bmT_ok S1 r1 q).2
    rw [hK] at ty
    exact ⟨ty, φ1, st1, ρ, S1, E1, T1, Post.mono (Post.bnd (A := RepL R) p1) fun vs H2 ⟨φ2, st2, ds, s2, S2, T2, r2, p2⟩ => ⟨φ2, st2, d, ds, S2, T2, r1.step s2, r2, p2.n NoX.bmV⟩⟩
theorem s_bm0 {f : Bm} {m : Bool} {id : String} {name : Str} {apos cpos : Pos} {o : Expr} {mo : Env → M PV} (hK : R.K = X.K) (pa : PlainAttrs (bmN f)) (slot : Slot (bmN f) name id) (hty : typeOf (.builtin id) = pure (.type "method_descriptor")) (hm : MtR X id (rMt R (bmV R.cts f m)))
    (ho : PE X o (tM R G W mo)) (hbase : attributeBase o name X.env (eval o X.env) = eval o X.env) (hline : (apos.endLine == cpos.line) = true) :
    PE X (.Call (.Attribute o name apos) [] [] cpos) (tM R G W fun ρ => M.bnd (mo ρ) fun x => M.bnd (bmT f x) fun _ => M.bnd (M.ret []) (bmV R.cts f m x)) :=
  (pe_bm0 pa slot hty hm ho hbase hline).imp fun σ H Q ⟨φ, st, ρ, S, E, T, h⟩ => tM.then (f := fun ρ x => M.bnd (bmT f x) fun _ => M.bnd (M.ret []) (bmV R.cts f m x)) S E T h fun φ1 st1 d v H1 s1 S1 E1 T1 r1 p1 => by
    obtain ⟨_, q, p1⟩ := Post.look NoX.bmT (fun _ _ e => (bmT_ok S1 r1 e).1) p1
    have ty := (bmT_ok S1 r1 q).2
    rw [hK] at ty
    have p1 : Post R W σ φ1 H1 (RepV R) (bmV R.cts f m d [] st1) Q := p1
    exact ⟨ty, φ1, st1, d, [], S1, T1, r1, rfl, p1.n NoX.bmV⟩
end
end Mp
namespace Mp
open PySem PySem.Spec PyProof.Rows L2
def W0 : WX := fun _ _ _ _ => False
theorem map_len {ws : Wat} {f : PV → M (Option PV)} : ∀ {xs acc ys : List PV} {st st' : Sto}, mapM ws f xs acc st = .ok ys st' → acc.length ≤ ys.length
  | [], acc, ys, st, st', e => by
    unfold mapM M.bnd watch at e
    split at e
    · rename_i q
      split at q
      · cases e; exact Nat.le_refl _
      · cases q
    · cases e
    · cases e
  | x :: xs, acc, ys, st, st', e => by
    unfold mapM M.bnd at e
    split at e
    · rename_i q
      dsimp only at e
      split at e
      · rename_i o s1 q1
        refine Nat.le_trans ?_ (map_len e)
        unfold addO
        cases o with
        | none => exact Nat.le_refl _
        | some y => rw [List.length_append]; exact Nat.le_add_right _ _
      · cases e
      · cases e
    · cases e
    · cases e
theorem noClo_get {ρ : Env} {i : Nat} {d : PV} (h : (noClo ρ)[i]? = some (some d)) : ρ[i]? = some (some d) ∧ isClo d = false := by
  unfold noClo at h
  rw [List.getElem?_map] at h
  cases q : ρ[i]? with
  | none => rw [q] at h; cases h
  | some o =>
    rw [q] at h
    cases o with
    | none => cases h
    | some e => cases e <;> first | (cases h; exact ⟨rfl, rfl⟩) | cases h
theorem wipe_get {ρ : Env} {i : Nat} {d : PV} : ∀ {own : List Nat}, (Mp.wipe own ρ)[i]? = some (some d) → i ∉ own ∧ ρ[i]? = some (some d) ∧ isClo d = false
  | [], h => ⟨by simp, noClo_get h⟩
  | j :: own, h => by
    have h : ((Mp.wipe own ρ).set j none)[i]? = some (some d) := h
    by_cases e : j = i
    · subst e
      by_cases hl : j < (Mp.wipe own ρ).length
      · rw [List.getElem?_set_self hl] at h; cases h
      · rw [List.getElem?_eq_none (by rw [List.length_set]; omega)] at h; cases h
    · rw [List.getElem?_set_ne e] at h
      obtain ⟨h1, h2⟩ := wipe_get h
      refine ⟨fun m => ?_, h2⟩
      rcases List.mem_cons.mp m with z | z
      · exact e z.symm
      · exact h1 z
theorem wipe_len {ρ : Env} : ∀ {own : List Nat}, (Mp.wipe own ρ).length = ρ.length
  | [] => by
    show (noClo ρ).length = ρ.length
    unfold noClo
    rw [List.length_map]
  | j :: own => by
    show ((Mp.wipe own ρ).set j none).length = ρ.length
    rw [List.length_set]
    exact wipe_len
section
variable {X : Cx} {R : Rc} {G : Gm} {W : WX}
theorem RepE.block {φ φ' : List Addr} {H H' : Hp} {hid : List Addr} {ρ : Env} {σ : L2.St} {G' : Gm} {own : List Nat} (h : RepE R G φ H ρ σ) (s : Step φ H φ' H') (hd : Hd R H hid) : RepE (R.h hid) G' φ' H' (Mp.wipe own ρ) (L2.wipe σ own) := by
  refine ⟨by rw [wipe_len, L2.wipe_length]; exact h.len, fun i d e => ?_⟩
  obtain ⟨h1, h2, h3⟩ := wipe_get e
  obtain ⟨v, g1, g2⟩ := h.at_ i d h2
  exact ⟨v, by rw [wipe_out h1]; exact g1, ((g2.v h3).hide s hd).x⟩
theorem Own.updD {φ : List Addr} {H : Hp} {D : Addr} {o u : HO} (hD : D ∈ R.hid) {a : Addr} (h : Own R φ H a u) : Own R φ (upd H D o) a u :=
  ⟨by rw [upd_ne (fun z : a = D => h.2.1.2 (by rw [z]; exact hD))]; exact h.1, h.2⟩
theorem ScrAt.updD {φ : List Addr} {H : Hp} {D : Addr} {o : HO} (hD : D ∈ R.hid) {a : Addr} {ns : List Int} (h : ScrAt R φ H a ns) : ScrAt R φ (upd H D o) a ns := h.elim (fun ⟨o, h, e⟩ => .inl ⟨o, h.updD hD, e⟩) .inr
theorem ExnAt.updD {φ : List Addr} {H : Hp} {D : Addr} {o : HO} (hD : D ∈ R.hid) {a : Addr} {c f : Nat} {ws : List V} (h : ExnAt R φ H a c f ws) : ExnAt R φ (upd H D o) a c f ws := by
  rcases h with ⟨hc, ⟨e, h⟩ | ⟨w, d, x, e, hx, hf, h1, h2⟩⟩
  · exact ⟨hc, .inl ⟨e, h.updD hD⟩⟩
  · exact ⟨hc, .inr ⟨w, d, x, e, hx, hf, h1.updD hD, h2.updD hD⟩⟩
mutual
theorem RepV.updD {φ : List Addr} {H : Hp} {D : Addr} {o : HO} (hD : D ∈ R.hid) : ∀ (d : PV) (v : V), RepV R φ H d v → RepV R φ (upd H D o) d v
  | .non, _, h => h
  | .bl _, _, h => h
  | .int _, _, h => h
  | .str _, _, h => h
  | .tup ds, v, h => by
    obtain ⟨a, vs, e, t, z, r⟩ := h
    exact ⟨a, vs, e, t.elim (fun t => .inl (t.updD hD)) .inr, z, RepL.updD hD ds vs r⟩
  | .lst ds, v, h => by
    obtain ⟨a, vs, e, t, z, r⟩ := h
    exact ⟨a, vs, e, t.updD hD, z, RepL.updD hD ds vs r⟩
  | .loc n, v, h => h
  | .glo _, _, h => h
  | .scr ns, v, h => by
    obtain ⟨a, o, e, t, z⟩ := h
    exact ⟨a, o, e, t.updD hD, z⟩
  | .clo _ _, _, h => h
  | .exn c f ds, v, h => by
    obtain ⟨a, ws, e, t, r⟩ := h
    exact ⟨a, ws, e, t.updD hD, RepL.updD hD ds ws r⟩
theorem RepL.updD {φ : List Addr} {H : Hp} {D : Addr} {o : HO} (hD : D ∈ R.hid) : ∀ (ds : List PV) (vs : List V), RepL R φ H ds vs → RepL R φ (upd H D o) ds vs
  | [], _, h => h
  | d :: ds, vs, h => by
    obtain ⟨v, r, e, h1, h2⟩ := h
    exact ⟨v, r, e, RepV.updD hD d v h1, RepL.updD hD ds r h2⟩
end
theorem FldL.updD {φ : List Addr} {H : Hp} {D : Addr} {o : HO} (hD : D ∈ R.hid) : ∀ {fs : List (Nat × PV)} {gs : List (Str × V)}, FldL R φ H fs gs → FldL R φ (upd H D o) fs gs
  | [], _, h => h
  | (f, d) :: fs, _, h => by
    obtain ⟨x, v, r, e, h1, h2, h3⟩ := h
    exact ⟨x, v, r, e, h1, h2.updD hD, h3.updD hD⟩
theorem DctG.updD {φ : List Addr} {H : Hp} {D : Addr} {o : HO} (hD : D ∈ R.hid) {κ : Type} {kp : κ → PV} {kr : κ → Prop} : ∀ {fs : List (PV × PV)} {gs : List (κ × V)}, DctG R φ H kp kr fs gs → DctG R φ (upd H D o) kp kr fs gs
  | [], _, h => h
  | (f, d) :: fs, _, h => by
    obtain ⟨x, v, r, e, h1, h2, h3, h4⟩ := h
    exact ⟨x, v, r, e, h1, h2, h3.updD hD, h4.updD hD⟩
theorem RepO.updD {φ : List Addr} {H : Hp} {D a : Addr} {o : HO} {m : MO} (hD : D ∈ R.hid) (ne : a ≠ D) (h : RepO R φ H a m) : RepO R φ (upd H D o) a m := by
  cases m with
  | lst ds =>
    obtain ⟨vs, h1, h2, h3⟩ := h
    exact ⟨vs, by rw [upd_ne ne]; exact h1, h2, RepL.updD hD _ _ h3⟩
  | dct _ =>
    rcases h with ⟨gs, h1, h2, h3⟩ | ⟨gs, h1, h2, h3⟩
    · exact .inl ⟨gs, by rw [upd_ne ne]; exact h1, h2, h3.updD hD⟩
    · exact .inr ⟨gs, by rw [upd_ne ne]; exact h1, h2, h3.updD hD⟩
  | ins c fs =>
    obtain ⟨dx, gs, h1, h2⟩ := h
    exact ⟨dx, gs, by rw [upd_ne ne]; exact h1, h2.updD hD⟩
theorem RepS.updD {φ : List Addr} {st : Sto} {H : Hp} {D : Addr} {vs : List V} (hD : D ∈ R.hid) (S : RepS R φ st H) : RepS R φ st (upd H D (.lst vs)) :=
  ⟨S.len, S.nd, fun n m a e1 e2 => (S.at_ n m a e1 e2).updD hD (fun z => (S.hd D hD).1 (by rw [← z]; exact List.mem_of_getElem? e2)), fun C hC => by
    obtain ⟨h1, ws, h2⟩ := S.hd C hC
    by_cases e : C = D
    · subst e
      exact ⟨h1, vs, upd_same⟩
    · exact ⟨h1, ws, by rw [upd_ne e]; exact h2⟩⟩
theorem Tbs.updD {H : Hp} {D : Addr} {o : HO} {vs : List V} (T : Tbs R H) (hD : H D = some (.lst vs)) : Tbs R (L2.upd H D o) := by
  intro p hp
  obtain ⟨ps, h1, h2, h3⟩ := T p hp
  have dif : ∀ b u, H b = some u → (∀ vs, u ≠ .lst vs) → b ≠ D := fun b u hb n z => by
    subst z
    rw [hD] at hb
    exact n _ (Option.some.inj hb).symm
  refine ⟨ps, by rw [upd_ne (dif _ _ h1 fun _ z => by cases z)]; exact h1, h2, fun p' cv hcv => ?_⟩
  obtain ⟨c0, e1, e2⟩ := h3 p' cv hcv
  exact ⟨c0, e1, by rw [upd_ne (dif _ _ e2 fun _ z => by unfold LamX.CodeO at z; cases z)]; exact e2⟩
theorem RepS.hide {φ : List Addr} {st : Sto} {H : Hp} {D : Addr} (S : RepS R φ st H) (hD : H D = none) : RepS (R.h (D :: R.hid)) φ st (upd H D (.lst [])) := by
  have hh : Hd R H (D :: R.hid) := fun C hC => by
    rcases List.mem_cons.mp hC with z | z
    · rw [z]; exact .inr hD
    · exact .inl z
  have s := step_new (φ := φ) (o := .lst []) hD
  refine ⟨S.len, S.nd, fun n m a e1 e2 => ?_, fun C hC => ?_⟩
  · have ne : a ≠ D := fun z => (S.fresh hD).1 (by rw [← z]; exact List.mem_of_getElem? e2)
    have r := S.at_ n m a e1 e2
    cases m with
    | lst ds =>
      obtain ⟨vs, h1, h2, h3⟩ := r
      exact ⟨vs, by rw [upd_ne ne]; exact h1, h2, RepL.hide s hh _ _ h3⟩
    | dct _ =>
      have go : ∀ {κ : Type} {kp : κ → PV} {kr : κ → Prop} {fs : List (PV × PV)} {gs : List (κ × V)}, DctG R φ H kp kr fs gs → DctG (R.h (D :: R.hid)) φ (upd H D (.lst [])) kp kr fs gs := fun {κ kp kr fs} => by
        induction fs with
        | nil => intro gs h; exact h
        | cons p fs ih =>
          obtain ⟨k, d⟩ := p
          rintro gs ⟨x, v, r, e, h1, h2, h3, h4⟩
          exact ⟨x, v, r, e, h1, h2, RepV.hide s hh _ _ h3, ih h4⟩
      rcases r with ⟨gs, h1, h2, h3⟩ | ⟨gs, h1, h2, h3⟩
      · exact .inl ⟨gs, by rw [upd_ne ne]; exact h1, h2, go h3⟩
      · exact .inr ⟨gs, by rw [upd_ne ne]; exact h1, h2, go h3⟩
    | ins c fs =>
      obtain ⟨dx, gs, h1, h2⟩ := r
      have go : ∀ {fs : List (Nat × PV)} {gs : List (Str × V)}, FldL R φ H fs gs → FldL (R.h (D :: R.hid)) φ (upd H D (.lst [])) fs gs := fun {fs} => by
        induction fs with
        | nil => intro gs h; exact h
        | cons p fs ih =>
          obtain ⟨k, d⟩ := p
          rintro gs ⟨x, v, r, e, h1, h2, h3⟩
          exact ⟨x, v, r, e, h1, RepV.hide s hh _ _ h2, ih h3⟩
      exact ⟨dx, gs, by rw [upd_ne ne]; exact h1, go h2⟩
  · rcases List.mem_cons.mp hC with z | z
    · rw [z]
      exact ⟨(S.fresh hD).1, [], upd_same⟩
    · obtain ⟨h1, vs, h2⟩ := S.hd C z
      exact ⟨h1, vs, by rw [upd_ne (ne_of_none h2 hD)]; exact h2⟩
structure Show (φ φ' : List Addr) (hid : List Addr) (l : List Addr) : Prop where
  pre : φ <+: φ'
  off : ∀ a, a ∉ φ → a ∉ l → a ∉ φ'
theorem Own.show {φ φ' hid l : List Addr} {H : Hp} (p : Show φ φ' hid l) (hl : ∀ D ∈ l, D ∈ hid) (hs : ∀ D ∈ R.hid, D ∈ hid) {a : Addr} {u : HO} (h : Own (R.h hid) φ H a u) : Own R φ' H a u :=
  ⟨h.1, ⟨p.off a h.2.1.1 fun m => h.2.1.2 (hl a m), fun m => h.2.1.2 (hs a m)⟩, h.2.2⟩
theorem ScrAt.show {φ φ' hid l : List Addr} {H : Hp} (p : Show φ φ' hid l) (hl : ∀ D ∈ l, D ∈ hid) (hs : ∀ D ∈ R.hid, D ∈ hid) {a : Addr} {ns : List Int} (h : ScrAt (R.h hid) φ H a ns) : ScrAt R φ' H a ns := h.elim (fun ⟨o, h, e⟩ => .inl ⟨o, Own.show p hl hs h, e⟩) .inr
theorem ExnAt.show {φ φ' hid l : List Addr} {H : Hp} (p : Show φ φ' hid l) (hl : ∀ D ∈ l, D ∈ hid) (hs : ∀ D ∈ R.hid, D ∈ hid) {a : Addr} {c f : Nat} {ws : List V} (h : ExnAt (R.h hid) φ H a c f ws) : ExnAt R φ' H a c f ws := by
  rcases h with ⟨hc, ⟨e, h⟩ | ⟨w, d, x, e, hx, hf, h1, h2⟩⟩
  · exact ⟨hc, .inl ⟨e, Own.show p hl hs h⟩⟩
  · exact ⟨hc, .inr ⟨w, d, x, e, hx, hf, Own.show p hl hs h1, Own.show p hl hs h2⟩⟩
mutual
theorem RepV.show {φ φ' hid l : List Addr} {H : Hp} (p : Show φ φ' hid l) (hl : ∀ D ∈ l, D ∈ hid) (hs : ∀ D ∈ R.hid, D ∈ hid) : ∀ (d : PV) (v : V), RepV (R.h hid) φ H d v → RepV R φ' H d v
  | .non, _, h => h
  | .bl _, _, h => h
  | .int _, _, h => h
  | .str _, _, h => h
  | .tup ds, v, h => by
    obtain ⟨a, vs, e, t, z, r⟩ := h
    exact ⟨a, vs, e, t.elim (fun t => .inl (Own.show p hl hs t)) .inr, z, RepL.show p hl hs ds vs r⟩
  | .lst ds, v, h => by
    obtain ⟨a, vs, e, t, z, r⟩ := h
    exact ⟨a, vs, e, Own.show p hl hs t, z, RepL.show p hl hs ds vs r⟩
  | .loc n, v, h => by
    obtain ⟨a, e, q⟩ := h
    exact ⟨a, get_pre p.pre e, q⟩
  | .glo _, _, h => h
  | .scr ns, v, h => by
    obtain ⟨a, o, e, t, z⟩ := h
    exact ⟨a, o, e, ScrAt.show p hl hs t, z⟩
  | .clo _ _, _, h => h
  | .exn c f ds, v, h => by
    obtain ⟨a, ws, e, t, r⟩ := h
    exact ⟨a, ws, e, ExnAt.show p hl hs t, RepL.show p hl hs ds ws r⟩
theorem RepL.show {φ φ' hid l : List Addr} {H : Hp} (p : Show φ φ' hid l) (hl : ∀ D ∈ l, D ∈ hid) (hs : ∀ D ∈ R.hid, D ∈ hid) : ∀ (ds : List PV) (vs : List V), RepL (R.h hid) φ H ds vs → RepL R φ' H ds vs
  | [], _, h => h
  | d :: ds, vs, h => by
    obtain ⟨v, r, e, h1, h2⟩ := h
    exact ⟨v, r, e, RepV.show p hl hs d v h1, RepL.show p hl hs ds r h2⟩
end
theorem RepO.show {φ φ' hid l : List Addr} {H : Hp} {a : Addr} {m : MO} (p : Show φ φ' hid l) (hl : ∀ D ∈ l, D ∈ hid) (hs : ∀ D ∈ R.hid, D ∈ hid) (r : RepO (R.h hid) φ H a m) : RepO R φ' H a m := by
  cases m with
  | lst ds =>
    obtain ⟨vs, h1, h2, h3⟩ := r
    exact ⟨vs, h1, h2, RepL.show p hl hs _ _ h3⟩
  | dct _ =>
    have go : ∀ {κ : Type} {kp : κ → PV} {kr : κ → Prop} {fs : List (PV × PV)} {gs : List (κ × V)}, DctG (R.h hid) φ H kp kr fs gs → DctG R φ' H kp kr fs gs := fun {κ kp kr fs} => by
      induction fs with
      | nil => intro gs h; exact h
      | cons q fs ih =>
        obtain ⟨k, d⟩ := q
        rintro gs ⟨x, v, r, e, h1, h2, h3, h4⟩
        exact ⟨x, v, r, e, h1, h2, RepV.show p hl hs _ _ h3, ih h4⟩
    rcases r with ⟨gs, h1, h2, h3⟩ | ⟨gs, h1, h2, h3⟩
    · exact .inl ⟨gs, h1, h2, go h3⟩
    · exact .inr ⟨gs, h1, h2, go h3⟩
  | ins c fs =>
    obtain ⟨dx, gs, h1, h2⟩ := r
    have go : ∀ {fs : List (Nat × PV)} {gs : List (Str × V)}, FldL (R.h hid) φ H fs gs → FldL R φ' H fs gs := fun {fs} => by
      induction fs with
      | nil => intro gs h; exact h
      | cons q fs ih =>
        obtain ⟨k, d⟩ := q
        rintro gs ⟨x, v, r, e, h1, h2, h3⟩
        exact ⟨x, v, r, e, h1, RepV.show p hl hs _ _ h2, ih h3⟩
    exact ⟨dx, gs, h1, go h2⟩
theorem made_ok {m : Bool} {φ1 φ : List Addr} {H1 H : Hp} {D : Addr} {st : Sto} {ds : List PV} {vs : List V} {Q : VK} {σ : L2.St} (hD1 : H1 D = none) (S1 : ∀ C ∈ R.hid, H1 C ≠ none) (s : Step φ1 H1 φ H) (S : RepS (R.h (D :: R.hid)) φ st H) (T : Tbs R H) (hD : H D = some (.lst vs)) (r : RepL (R.h (D :: R.hid)) φ H ds vs)
    (p : Post R W σ φ1 H1 (RepV R) (newL m ds st) Q) : Q (.ref D) H := by
  have hs : ∀ C ∈ R.hid, C ∈ D :: R.hid := fun C h => List.mem_cons_of_mem _ h
  have nh : D ∉ R.hid := fun h => S1 D h hD1
  have nφ : D ∉ φ := (S.hd D (List.mem_cons_self ..)).1
  have hl := r.length
  unfold newL at p
  by_cases hz : ds.length ≤ SZ
  · rw [if_pos hz] at p
    cases m with
    | true =>
      simp only [if_true] at p
      have sh : Show φ (φ ++ [D]) (D :: R.hid) [D] := ⟨List.prefix_append φ [D], fun a h1 h2 z => by
        rcases List.mem_append.mp z with z | z
        · exact h1 z
        · exact h2 z⟩
      have hl2 : ∀ C ∈ [D], C ∈ D :: R.hid := fun C h => by rw [List.mem_singleton.mp h]; exact List.mem_cons_self ..
      have len := S.len
      refine p (φ ++ [D]) H (.ref D) ⟨s.pre.trans (List.prefix_append φ [D]), s.keep, s.tbl, fun a h => ?_⟩ ⟨by simp [len], ?_, fun n x a e1 e2 => ?_, fun C hC => ?_⟩ T ⟨D, ?_, rfl⟩
      · rcases List.mem_append.mp h with z | z
        · exact s.new a z
        · rw [List.mem_singleton.mp z]
          exact .inr hD1
      · rw [List.nodup_append]
        refine ⟨S.nd, by simp, fun a ha b hb z => ?_⟩
        rw [List.mem_singleton.mp hb] at z
        exact nφ (z ▸ ha)
      · by_cases hn : n < st.length
        · rw [List.getElem?_append_left hn] at e1
          rw [List.getElem?_append_left (by omega)] at e2
          exact RepO.show sh hl2 hs (S.at_ n x a e1 e2)
        · rw [List.getElem?_append_right (by omega)] at e1
          rw [List.getElem?_append_right (by omega)] at e2
          have h0 : n - st.length = 0 := by
            by_cases q : n - st.length = 0
            · exact q
            · rw [List.getElem?_eq_none (by simp; omega)] at e1; cases e1
          rw [h0] at e1
          rw [show n - φ.length = 0 by omega] at e2
          simp at e1 e2
          subst e1
          subst e2
          exact ⟨vs, hD, by omega, RepL.show sh hl2 hs _ _ r⟩
      · obtain ⟨h1, ws, h2⟩ := S.hd C (hs C hC)
        refine ⟨fun z => ?_, ws, h2⟩
        rcases List.mem_append.mp z with z | z
        · exact h1 z
        · rw [List.mem_singleton.mp z] at hC
          exact nh hC
      · rw [List.getElem?_append_right (by omega), len]
        simp
    | false =>
      simp only [Bool.false_eq_true, if_false] at p
      have sh : Show φ φ (D :: R.hid) [] := ⟨List.prefix_refl φ, fun a h _ => h⟩
      have hl2 : ∀ C ∈ ([] : List Addr), C ∈ D :: R.hid := fun C h => absurd h (by simp)
      exact p φ H (.ref D) s ⟨S.len, S.nd, fun n x a e1 e2 => RepO.show sh hl2 hs (S.at_ n x a e1 e2), fun C hC => S.hd C (hs C hC)⟩ T ⟨D, vs, rfl, ⟨hD, ⟨nφ, nh⟩, fun ps z => by cases z⟩, by omega, RepL.show sh hl2 hs _ _ r⟩
  · rw [if_neg hz] at p
    exact p.elim
end
theorem ag_wipe {σ σ2 : L2.St} {vs : List Nat} (h : Ag ⟨L2.wipe σ vs, vs⟩ σ2) : L2.wipe σ2 vs = L2.wipe σ vs := by
  obtain ⟨h1, h2⟩ := h
  have hl : σ2.length = σ.length := by rw [h1, L2.wipe_length]
  have inn : ∀ {ws : List Nat} {j : Nat}, j ∈ ws → j < σ.length → (L2.wipe σ2 ws)[j]? = (L2.wipe σ ws)[j]? := fun {ws} => by
    induction ws with
    | nil => intro j h; cases h
    | cons w ws ih =>
      intro j hj hlt
      unfold L2.wipe
      by_cases e : w = j
      · subst e
        rw [List.getElem?_set_self (by rw [L2.wipe_length, hl]; exact hlt), List.getElem?_set_self (by rw [L2.wipe_length]; exact hlt)]
      · rw [List.getElem?_set_ne e, List.getElem?_set_ne e]
        rcases List.mem_cons.mp hj with z | z
        · exact absurd z.symm e
        · exact ih z hlt
  refine List.ext_getElem? fun j => ?_
  by_cases hj : j ∈ vs
  · by_cases hlt : j < σ.length
    · exact inn hj hlt
    · rw [List.getElem?_eq_none (by rw [L2.wipe_length]; omega), List.getElem?_eq_none (by rw [L2.wipe_length]; omega)]
  · rw [wipe_out hj, wipe_out hj, h2 j hj, wipe_out hj]
theorem _root_.L2.PTs.imp {X : Cx} {e : List Expr} {t t' : TT} (h : PTs X e t) (k : ∀ σ H Q, t' σ H Q → t σ H Q) : PTs X e t' := ⟨fun pins s σ H Q I q => h.run pins s σ H Q I (k σ H Q q)⟩
section
variable {X : Cx} {R : Rc} {W : WX}
theorem nox_post {α β : Type} {A : List Addr → Hp → α → β → Prop} {m : M α} {σ : L2.St} {φ : List Addr} {H : Hp} {st : Sto} {Q : β → Hp → Prop} {V' W' : WX} (h : Post R W' σ φ H A (M.nox m st) Q) : Post R V' σ φ H A (m st) Q := by
  unfold M.nox at h
  cases e : m st with
  | ok a s => rw [e] at h; exact h
  | exc c v s => rw [e] at h; exact h.elim
  | bad => rw [e] at h; exact h
def turnM (own : List Nat) (mg : PV → Env → M Env) (mc : Env → M Bool) (me : Env → M PV) (ρ : Env) (x : PV) : M (Option PV) := M.nox (M.bnd (mg x (Mp.wipe own ρ)) fun ρ' => M.bnd (mc ρ') fun k => if k then M.bnd (me ρ') fun y => M.ret (some y) else M.ret none)
theorem turnM_nox {own : List Nat} {mg : PV → Env → M Env} {mc : Env → M Bool} {me : Env → M PV} {ρ : Env} {x : PV} : NoX (turnM own mg mc me ρ x) := fun st c v s e => by
  unfold turnM M.nox at e
  split at e
  · cases e
  · rename_i h
    exact h _ _ _ e
theorem mapM_nox {ws : Wat} {f : PV → M (Option PV)} (h : ∀ x, NoX (f x)) : ∀ {xs acc : List PV}, NoX (mapM ws f xs acc)
  | [], acc => NoX.bnd (fun st c v s e => by
      unfold watch at e
      split at e <;> cases e) fun _ => NoX.ret _
  | x :: xs, acc => NoX.bnd (fun st c v s e => by
      unfold watch at e
      split at e <;> cases e) fun _ => NoX.bnd (h x) fun _ => mapM_nox h
theorem watch_post {ws : Wat} {α β : Type} {A : List Addr → Hp → α → β → Prop} {σ : L2.St} {φ : List Addr} {H : Hp} {st : Sto} {f : Unit → M α} {Q : β → Hp → Prop} (h : Post R W σ φ H A (M.bnd (watch ws) f st) Q) : (ws.all fun w => decide (st[w.1]? = some w.2)) = true ∧ Post R W σ φ H A (f () st) Q := by
  unfold M.bnd watch at h
  cases e : ws.all fun w => decide (st[w.1]? = some w.2) with
  | true => rw [e] at h; exact ⟨rfl, h⟩
  | false => rw [e] at h; exact h.elim
def AO (R : Rc) (φ : List Addr) (H : Hp) (a : Option PV) (b : Option V) : Prop := match a, b with
  | none, none => True
  | some d, some v => RepV R φ H d v
  | _, _ => False
def QO (D : Addr) (Nx : Hp → Prop) (b : Option V) (H : Hp) : Prop := match b with
  | some y => ∃ acc, H D = some (.lst acc) ∧ acc.length < sizeLine ∧ Nx (upd H D (.lst (acc ++ [y])))
  | none => Nx H
theorem Step.updN {φ φ' : List Addr} {H H' : Hp} {D : Addr} {o : HO} (s : Step φ H φ' H') (hD : H D = none) : Step φ H φ' (upd H' D o) :=
  ⟨s.pre, fun b u h n t => by rw [upd_ne (ne_of_none h hD)]; exact s.keep b u h n t, fun b ps h n => by rw [upd_ne (ne_of_none h hD)]; exact s.tbl b ps h n, s.new⟩
abbrev tLcM (R : Rc) (G : Gm) (W : WX) (vs : List Nat) (mi : Env → M (List PV × Wat)) (mg : PV → Env → M Env) (mc : Env → M Bool) (me : Env → M PV) : TE :=
  tLc (tI R G W mi) (fun v σ H Q => ∃ hid F, F.vs = vs ∧ tG (R.h hid) g0 W0 F mg v σ H Q) (fun σ H Q => ∃ hid, tMT (R.h hid) g0 W0 mc σ H Q) (fun σ H Q => ∃ hid, tM (R.h hid) g0 W0 me σ H Q) vs
theorem lc_turn {G : Gm} {m : Bool} {own : List (Str × Nat)} {mi : Env → M (List PV × Wat)} {mg : PV → Env → M Env} {mc : Env → M Bool} {me : Env → M PV} (σ : L2.St) (H : Hp) (Q : VK)
    (h : tM R G W (fun ρ => M.bnd (mi ρ) fun xs => M.bnd (mapM xs.2 (turnM (own.map (·.2)) mg mc me ρ) xs.1 []) (newL m)) σ H Q) : tLcM R G W (own.map (·.2)) mi mg mc me σ H Q := by
  obtain ⟨φ, st, ρ, S, E, T, h⟩ := h
  refine ⟨φ, st, ρ, S, E, T, Post.mono (Post.bnd h) fun J H1 ⟨φ1, st1, xs, s1, S1, T1, r1, p1⟩ => fun D hD => ?_⟩
  obtain ⟨xs, ws⟩ := xs
  have r1 : ItRep R φ1 H1 xs ws J := r1
  have p1 : Post R W σ φ1 H1 (RepV R) (M.bnd (mapM ws (turnM (own.map (·.2)) mg mc me ρ) xs []) (newL m) st1) Q := p1
  have E1 := E.step s1
  have hh : Hd R H1 (D :: R.hid) := fun C hC => by
    rcases List.mem_cons.mp hC with z | z
    · rw [z]; exact .inr hD
    · exact .inl z
  have nn : ∀ C ∈ R.hid, H1 C ≠ none := fun C hC => by
    obtain ⟨_, vs, e⟩ := S1.hd C hC
    rw [e]
    exact fun z => by cases z
  have dh : D ∈ (R.h (D :: R.hid)).hid := List.mem_cons_self ..
  refine ⟨fun i k H => i ≤ xs.length ∧ k = xs.length - i ∧ ∃ φ st ds vs, Step φ1 H1 φ H ∧ RepS (R.h (D :: R.hid)) φ st H ∧ Tbs R H ∧ H D = some (.lst vs) ∧ RepL (R.h (D :: R.hid)) φ H ds vs ∧ Post R W σ φ1 H1 (RepV R) (M.bnd (mapM ws (turnM (own.map (·.2)) mg mc me ρ) (xs.drop i) ds) (newL m) st) Q,
    ⟨xs.length, Nat.zero_le _, rfl, φ1, st1, [], [], step_new hD, S1.hide hD, T1.new hD, upd_same, rfl, p1⟩, ?_⟩
  rintro i k H ⟨hi, rfl, φ, st, ds, vs, s, S, T, hDv, rl, p⟩
  by_cases hlt : i < xs.length
  · refine .inr ?_
    rw [List.drop_eq_getElem_cons hlt] at p
    unfold mapM at p
    rw [bnd_ret] at p
    obtain ⟨hw, p⟩ := watch_post p
    obtain ⟨_, g⟩ := r1 (D :: R.hid) hh i φ st H s S T hw
    obtain ⟨g1, g2⟩ := g xs[i] (List.getElem?_eq_getElem hlt)
    refine ⟨g1, fun H => ∃ φ st ds vs, Step φ1 H1 φ H ∧ RepS (R.h (D :: R.hid)) φ st H ∧ Tbs R H ∧ H D = some (.lst vs) ∧ RepL (R.h (D :: R.hid)) φ H ds vs ∧ Post R W σ φ1 H1 (RepV R) (M.bnd (mapM ws (turnM (own.map (·.2)) mg mc me ρ) (xs.drop (i + 1)) ds) (newL m) st) Q,
      fun H' w => ⟨xs.length - (i + 1), by omega, hlt, rfl, w⟩, fun x H' y => ?_⟩
    obtain ⟨s2, S2, T2, rv⟩ := g2 x H' y
    have hDv2 := s2.keep D _ hDv (S.hd D dh).1 (fun ps z => by cases z)
    have rl2 := RepL.step s2 _ _ rl
    have E2 : RepE (R.h (D :: R.hid)) g0 φ H' (Mp.wipe (own.map (·.2)) ρ) (L2.wipe σ (own.map (·.2))) := E1.block (s.trans s2) hh
    rw [bnd_ret] at p
    cases eT : turnM (own.map (·.2)) mg mc me ρ xs[i] st with
    | exc c v s' => exact (turnM_nox _ _ _ _ eT).elim
    | bad =>
      unfold M.bnd at p
      rw [eT] at p
      exact p.elim
    | ok o st' =>
      have p' : Post R W σ φ1 H1 (RepV R) (M.bnd (mapM ws (turnM (own.map (·.2)) mg mc me ρ) (xs.drop (i + 1)) (addO ds o)) (newL m) st') Q := by
        unfold M.bnd at p
        rw [eT] at p
        exact p
      have e0 : (M.bnd (mg xs[i] (Mp.wipe (own.map (·.2)) ρ)) fun ρ' => M.bnd (mc ρ') fun k => if k then M.bnd (me ρ') fun y => M.ret (some y) else M.ret none) st = .ok o st' := by
        unfold turnM M.nox at eT
        split at eT
        · cases eT
        · exact eT
      have run : Post (R.h (D :: R.hid)) (WF W0 ⟨L2.wipe σ (own.map (·.2)), own.map (·.2)⟩) [] φ H' (AO (R.h (D :: R.hid))) ((M.bnd (mg xs[i] (Mp.wipe (own.map (·.2)) ρ)) fun ρ' => M.bnd (mc ρ') fun k => if k then M.bnd (me ρ') fun y => M.ret (some y) else M.ret none) st)
          (QO D fun H => ∃ φ st ds vs, Step φ1 H1 φ H ∧ RepS (R.h (D :: R.hid)) φ st H ∧ Tbs R H ∧ H D = some (.lst vs) ∧ RepL (R.h (D :: R.hid)) φ H ds vs ∧ Post R W σ φ1 H1 (RepV R) (M.bnd (mapM ws (turnM (own.map (·.2)) mg mc me ρ) (xs.drop (i + 1)) ds) (newL m) st) Q) := by
        rw [e0]
        intro φ' H'' b s3 S3 T3 r3
        have st3 := (s.trans s2).trans s3
        have hDv3 := s3.keep D _ hDv2 (S2.hd D dh).1 (fun ps z => by cases z)
        have rl3 := RepL.step s3 _ _ rl2
        cases o with
        | none =>
          cases b with
          | none => exact ⟨φ', st', ds, vs, st3, S3, T3, hDv3, rl3, p'⟩
          | some y => exact False.elim r3
        | some d =>
          cases b with
          | none => exact False.elim r3
          | some y =>
            have hz : vs.length < sizeLine := by
              rw [sz_eq, ← rl3.length]
              unfold M.bnd at p'
              split at p'
              · rename_i q
                have := map_len q
                unfold addO at this
                rw [List.length_append] at this
                unfold newL at p'
                split at p'
                · rename_i hz
                  have : [d].length = 1 := rfl
                  omega
                · exact p'.elim
              · rename_i q
                exact (mapM_nox (fun _ => turnM_nox) _ _ _ _ q).elim
              · exact p'.elim
            exact ⟨vs, hDv3, hz, φ', st', ds ++ [d], vs ++ [y], st3.updN hD, S3.updD dh, T3.updD hDv3, upd_same, (RepL.updD dh _ _ rl3).append (RepL.one (RepV.updD dh _ _ r3)), p'⟩
      refine ⟨D :: R.hid, ⟨L2.wipe σ (own.map (·.2)), own.map (·.2)⟩, rfl, φ, st, _, xs[i], S2, E2, ⟨rfl, fun _ _ => rfl⟩, T2, rv, Post.mono (Post.bnd run) fun σ2 H2 ⟨φ3, st3, ρ3, s3, S3, T3, t3, p3⟩ => ?_⟩
      refine ⟨ag_wipe t3.ag, D :: R.hid, φ3, st3, ρ3, S3, t3.e, T3, Post.mono ((Post.bnd (A := AB) p3).wf t3.ag) fun b H3 ⟨φ4, st4, k, s4, S4, T4, ek, p4⟩ => ?_⟩
      have ek : k = b := ek
      subst ek
      cases k with
      | true =>
        simp only [if_true] at p4 ⊢
        exact ⟨D :: R.hid, φ4, st4, ρ3, S4, t3.e.step s4, T4, Post.mono ((Post.bnd p4).wf t3.ag) fun y H4 ⟨φ5, st5, d, s5, S5, T5, r5, p5⟩ => p5 φ5 H4 (some y) (Step.refl _ _) S5 T5 r5⟩
      | false =>
        simp only [Bool.false_eq_true, if_false] at p4 ⊢
        exact p4 φ4 H3 none (Step.refl _ _) S4 T4 trivial
  · have hi' : xs.length ≤ i := by omega
    rw [List.drop_eq_nil_of_le hi'] at p
    unfold mapM at p
    rw [bnd_ret] at p
    obtain ⟨hw, p⟩ := watch_post p
    exact .inl ⟨(r1 (D :: R.hid) hh i φ st H s S T hw).1 hi', made_ok hD nn s S T hDv rl p⟩
theorem s_lc {m : Bool} {own : List (Str × Nat)} {elt tg iter : Expr} {ifs : List Expr} {scope : Scope} {pos : Pos} {mi : Env → M (List PV × Wat)} {mg : PV → Env → M Env} {mc : Env → M Bool} {me : Env → M PV} (hc : X.calm = true) (hN : X.N.Nodup) (ok : BlkOk X.N X.env.scope scope own) (hi : PI X tg iter (tI R (gOf X) W mi))
    (hg : ∀ (hid : List Addr) (F : Fr) (s : Shared) (H : Hp) (C : Addr) (cl : List (Str × Addr)) (fp : List Addr), F.vs = own.map (·.2) → PG (X.blk s H scope (compEnvC scope cl C X.env) fp) tg (tG (R.h hid) g0 W0 F mg))
    (ht : ∀ (hid : List Addr) (s : Shared) (H : Hp) (C : Addr) (cl : List (Str × Addr)) (fp : List Addr), PTs (X.blk s H scope (compEnvC scope cl C X.env) fp) ifs (tMT (R.h hid) g0 W0 mc))
    (he : ∀ (hid : List Addr) (s : Shared) (H : Hp) (C : Addr) (cl : List (Str × Addr)) (fp : List Addr), PE (X.blk s H scope (compEnvC scope cl C X.env) fp) elt (tM (R.h hid) g0 W0 me)) (hs : ∀ x, foldedSetIterable iter X.env x = pure x) :
    PE X (.ListComp elt [⟨tg, iter, ifs, 0⟩] scope pos) (tM R (gOf X) W fun ρ => M.bnd (mi ρ) fun xs => M.bnd (mapM xs.2 (turnM (own.map (·.2)) mg mc me ρ) xs.1 []) (newL m)) :=
  (pe_lc hc hN hi ok (fun s H C cl fp => ⟨fun pins s' σ H v u Q I r ⟨hid, F, hF, q⟩ => (hg hid F s _ C cl fp hF).run pins s' σ H v u Q I r q⟩) (fun s H C cl fp => ⟨fun pins s' σ H Q I ⟨hid, q⟩ => (ht hid s _ C cl fp).run pins s' σ H Q I q⟩)
    (fun s H C cl fp => ⟨fun pins s' σ H Q I ⟨hid, q⟩ => (he hid s _ C cl fp).run pins s' σ H Q I q⟩) hs).imp lc_turn
theorem st_setLc {F : Fr} {i : Nat} {y : Str} {py : Pos} {m : Bool} {own : List (Str × Nat)} {elt tg iter : Expr} {ifs : List Expr} {scope : Scope} {pos spos : Pos} {mi : Env → M (List PV × Wat)} {mg : PV → Env → M Env} {mc : Env → M Bool} {me : Env → M PV} (hv : i ∈ F.vs) (hy : X.N[i]? = some y) (hyl : X.env.scope.names.lookup y = some .local)
    (hsw : swapsWith (.ListComp elt [⟨tg, iter, ifs, 0⟩] scope pos) (some (.Name y py)) spos.line X.env = pure true) (hc : X.calm = true) (hN : X.N.Nodup) (ok : BlkOk X.N X.env.scope scope own) (hi : PI X tg iter (tI R (gOf X) W mi))
    (hg : ∀ (hid : List Addr) (F : Fr) (s : Shared) (H : Hp) (C : Addr) (cl : List (Str × Addr)) (fp : List Addr), F.vs = own.map (·.2) → PG (X.blk s H scope (compEnvC scope cl C X.env) fp) tg (tG (R.h hid) g0 W0 F mg))
    (ht : ∀ (hid : List Addr) (s : Shared) (H : Hp) (C : Addr) (cl : List (Str × Addr)) (fp : List Addr), PTs (X.blk s H scope (compEnvC scope cl C X.env) fp) ifs (tMT (R.h hid) g0 W0 mc))
    (he : ∀ (hid : List Addr) (s : Shared) (H : Hp) (C : Addr) (cl : List (Str × Addr)) (fp : List Addr), PE (X.blk s H scope (compEnvC scope cl C X.env) fp) elt (tM (R.h hid) g0 W0 me)) (hs : ∀ x, foldedSetIterable iter X.env x = pure x) :
    PS X (.Assign [.Name y py] (.ListComp elt [⟨tg, iter, ifs, 0⟩] scope pos) spos) (tS R (gOf X) W F fun ρ => M.bnd (M.bnd (mi ρ) fun xs => M.bnd (mapM xs.2 (turnM (own.map (·.2)) mg mc me ρ) xs.1 []) (newL m)) fun v => M.bnd (M.ret (ρ.set i (some v))) fun ρ' => M.ret (.nx, ρ')) :=
  tS.start (ps_setLc hc hN hy hyl hsw hi ok (fun s H C cl fp => ⟨fun pins s' σ H v u Q I r ⟨hid, F, hF, q⟩ => (hg hid F s _ C cl fp hF).run pins s' σ H v u Q I r q⟩) (fun s H C cl fp => ⟨fun pins s' σ H Q I ⟨hid, q⟩ => (ht hid s _ C cl fp).run pins s' σ H Q I q⟩)
    (fun s H C cl fp => ⟨fun pins s' σ H Q I ⟨hid, q⟩ => (he hid s _ C cl fp).run pins s' σ H Q I q⟩) hs) fun φ st ρ D σ H p h =>
      lc_turn σ H _ (p.tM (me := fun ρ => M.bnd (mi ρ) fun xs => M.bnd (mapM xs.2 (turnM (own.map (·.2)) mg mc me ρ) xs.1 []) (newL m)) (f := fun v => M.bnd (M.ret (ρ.set i (some v))) fun ρ' => M.ret (.nx, ρ')) h fun φ1 st1 d v H1 s1 q1 r1 p1 => p1 φ1 H1 (σ.set i (some v)) (Step.refl _ _) q1.S q1.T (q1.E.set i r1.x) (q1.ag.set hv _))
end
end Mp
namespace Mp
open PySem PySem.Spec PyProof.Rows L2
theorem argsBy_len {α : Type} {xs : List α} : ∀ {ord : List Nat} {ys : List α}, argsBy xs ord = some ys → ys.length = ord.length
  | [], _, e => by cases e; rfl
  | i :: r, ys, e => by
    unfold argsBy at e
    split at e
    · rename_i x zs q1 q2
      cases e
      simp [argsBy_len q2]
    · cases e
theorem argsBy_vals {us : List Value} {vs : List V} (r : Vals vs us) : ∀ {ord : List Nat} {ys : List V}, argsBy vs ord = some ys → ∃ ws, argsBy us ord = some ws ∧ Vals ys ws
  | [], _, e => by cases e; exact ⟨[], rfl, .nil⟩
  | i :: o, ys, e => by
    unfold argsBy at e
    split at e
    · rename_i x zs q1 q2
      cases e
      obtain ⟨u, h1, h2⟩ := r.get q1
      obtain ⟨ws, h3, h4⟩ := argsBy_vals r q2
      exact ⟨u :: ws, by unfold argsBy; rw [h1, h3], .cons h2 h4⟩
    · cases e
theorem argsBy_rep {R : Rc} {φ : List Addr} {H : Hp} {ds : List PV} {vs : List V} (r : RepL R φ H ds vs) : ∀ {ord : List Nat} {ys : List PV}, argsBy ds ord = some ys → ∃ ws, argsBy vs ord = some ws ∧ RepL R φ H ys ws
  | [], _, e => by cases e; exact ⟨[], rfl, rfl⟩
  | i :: o, ys, e => by
    unfold argsBy at e
    split at e
    · rename_i x zs q1 q2
      cases e
      obtain ⟨u, h1, h2⟩ := r.get q1
      obtain ⟨ws, h3, h4⟩ := argsBy_rep r q2
      exact ⟨u :: ws, by unfold argsBy; rw [h1, h3], u, ws, rfl, h2, h4⟩
    · cases e
structure KwB (K : PySem.W.Frag) (fd : FuncData) (ps : List Str) (n : Nat) (ks : List Str) (ord : List Nat) : Prop where
  to : ∀ (s : Shared) (us ws zs : List Value), K.In s.heap → us.length = n → ws.length = ks.length → argsBy (us ++ ws) ord = some zs → BindsTo s fd ⟨us, ks.zip ws⟩ (ps.zip zs)
  len : ord.length = ps.length
section
variable {X : Cx} {R : Rc} {W : WX} {k n : Nat} {f : Addr} {fd : FuncData} {ps ks : List Str} {m : List PV → M PV} {ord : List Nat}
theorem _root_.L2.PK.imp {e : List Keyword} {t t' : TA} (h : PK X e t) (k : ∀ σ H Q, t' σ H Q → t σ H Q) : PK X e t' := ⟨fun pos pins s σ H Q I q => h.run pos pins s σ H Q I (k σ H Q q)⟩
theorem k_nil {G : Gm} : PK X [] (tMA' R G W fun _ => M.ret []) := pk_nil.imp fun σ H Q ⟨φ, st, ρ, S, E, T, h⟩ => h φ H [] (Step.refl _ _) S T rfl
theorem k_cons {G : Gm} {a : Expr} {nm : Option Str} {kp : Pos} {kws : List Keyword} {ma : Env → M PV} {ms : Env → M (List PV)} (ha : PE X a (tM R G W ma)) (hr : PK X kws (tMA' R G W ms)) : PK X (⟨nm, a, kp⟩ :: kws) (tMA' R G W fun ρ => M.bnd (ma ρ) fun x => M.bnd (ms ρ) fun xs => M.ret (x :: xs)) :=
  (pk_cons ha hr).imp fun σ H Q ⟨φ, st, ρ, S, E, T, h⟩ => tM.then (f := fun ρ x => M.bnd (ms ρ) fun xs => M.ret (x :: xs)) S E T h fun φ1 st1 d v H1 s1 S1 E1 T1 r1 p1 =>
    ⟨φ1, st1, ρ, S1, E1, T1, Post.mono (Post.bnd p1) fun vs H2 ⟨φ2, st2, ds, s2, S2, T2, r2, p2⟩ => p2 φ2 H2 _ (Step.refl _ _) S2 T2 ⟨v, vs, rfl, r1.step s2, r2⟩⟩
theorem run_Mk {pins : List (Addr × Obj)} {σ : L2.St} {H : Hp} {s : Shared} {Q : VK} {us ws : List Value} {vs zs : List V} {ds es : List PV} {φ : List Addr} {st : Sto} (F : FnM X.prog X.w X.K X.mg X.base R k f fd ps m) (hr : Room k X.A) (hb : KwB X.K fd ps n ks ord) (tk : Takes X W)
    (I : Inv X pins σ H s) (r : Vals vs us) (rz : Vals zs ws) (l1 : us.length = n) (l2 : ws.length = ks.length) (S : RepS R φ st H) (T : Tbs R H) (x : RepL R φ H ds vs) (xz : RepL R φ H es zs) (p : Post R W σ φ H (RepV R) (M.bnd (M.opt (argsBy (ds ++ es) ord)) m st) Q) :
    wpAny (model X.prog X.w) X.A (call (.ref f) us (ks.zip ws)) (EP X pins σ Q) X.xe s := by
  cases q : argsBy (ds ++ es) ord with
  | none => rw [q] at p; exact p.elim
  | some as =>
    rw [q] at p
    have p : Post R W σ φ H (RepV R) (m as st) Q := p
    obtain ⟨bs, h1, h2⟩ := argsBy_rep (x.append xz) q
    obtain ⟨cs, h3, h4⟩ := argsBy_vals (r.append rz) h1
    refine wpAny_call (codeAny_mono (F.run R.hid X.A X.stack s H ⟨us, ks.zip ws⟩ cs bs as φ st Q (fun c d H => W c d σ H) hr I.env0 (hb.to s us ws cs I.kIn l1 l2 h3) h4 (by rw [argsBy_len q]; exact hb.len) S T h2.x p.wish) fun r s' hq => ?_)
    cases r with
    | error e => exact tk e s' (XE.of_call I (fun _ _ _ h => h) hq)
    | ok fl =>
      cases fl with
      | ret u => exact I.after hq
      | next => exact False.elim hq
      | brk => exact False.elim hq
      | cont => exact False.elim hq
theorem s_callK {G : Gm} {x : Str} {p pos : Pos} {e : Expr} {es : List Expr} {kws : List Keyword} {ms mk : Env → M (List PV)} (F : FnM X.prog X.w X.K X.mg X.base R k f fd ps m) (hr : Room k X.A) (hg : Gl X x) (hm : X.mg x = some (.ref f)) (hk : PySem.W.keepIn X.K (.ref f) = true) (hb : KwB X.K fd ps n ks ord) (tk : Takes X W)
    (ha : PA X (e :: es) (tMA' R G W ms)) (hkw : PK X kws (tMA' R G W mk)) (l1 : ∀ ρ st xs st', ms ρ st = .ok xs st' → xs.length = n) (l2 : ∀ ρ st xs st', mk ρ st = .ok xs st' → xs.length = ks.length) (hall : (backToKw pos (keywordEach kws X.env)).all (·.1.isSome) = true) (hks : (backToKw pos (keywordEach kws X.env)).filterMap (·.1) = ks)
    (hdb : (x == ("__debug__" : Str)) = false) (he : starEach (e :: es) X.env = (false, eval e X.env) :: starEach es X.env) (hpl : ((backTo pos (starEach (e :: es) X.env)).any (·.1) || (backToKw pos (keywordEach kws X.env)).any (·.1.isNone)) = false) :
    PE X (.Call (.Name x p) (e :: es) kws pos) (tM R G W fun ρ => M.bnd (ms ρ) fun xs => M.bnd (mk ρ) fun ys => M.bnd (M.opt (argsBy (xs ++ ys) ord)) m) := by
  refine ⟨fun pins s σ H Q I ⟨φ, st, ρ, S, E, T, h⟩ => ?_⟩
  refine wpAny_Call_Name_kw (ld_glob I hg hm ?_ hdb)
  refine PySem.W.callWith_KW (h₀ := X.base) I.ok.mod.kin hk hall (thn (ha.run pos pins s σ H (fun vs H1 => ∃ φ1 st1 ds, Step φ H φ1 H1 ∧ RepS R φ1 st1 H1 ∧ RepE R G φ1 H1 ρ σ ∧ Tbs R H1 ∧ RepL R φ1 H1 ds vs ∧ ds.length = n ∧ Post R W σ φ1 H1 (RepV R) (M.bnd (mk ρ) (fun ys => M.bnd (M.opt (argsBy (ds ++ ys) ord)) m) st1) Q) I
    ⟨φ, st, ρ, S, E, T, ?_⟩) fun us s1 ⟨vs, H1, I1, r, φ1, st1, ds, s1', S1, E1, T1, r1, n1, p1⟩ => ?_) hpl he
  · cases q : ms ρ st with
    | ok ds st1 =>
      have h : Post R W σ φ H (RepV R) (M.bnd (ms ρ) (fun xs => M.bnd (mk ρ) fun ys => M.bnd (M.opt (argsBy (xs ++ ys) ord)) m) st) Q := h
      unfold M.bnd at h
      rw [q] at h
      exact fun φ1 H1 vs a b c d => ⟨φ1, st1, ds, a, b, E.step a, c, d, l1 ρ st ds st1 q, Post.step a h⟩
    | exc c v s' =>
      have h : Post R W σ φ H (RepV R) (M.bnd (ms ρ) (fun xs => M.bnd (mk ρ) fun ys => M.bnd (M.opt (argsBy (xs ++ ys) ord)) m) st) Q := h
      unfold M.bnd at h
      rw [q] at h
      exact h
    | bad =>
      have h : Post R W σ φ H (RepV R) (M.bnd (ms ρ) (fun xs => M.bnd (mk ρ) fun ys => M.bnd (M.opt (argsBy (xs ++ ys) ord)) m) st) Q := h
      unfold M.bnd at h
      rw [q] at h
      exact h
  · refine thn (hkw.run pos pins s1 σ H1 (fun zs H2 => ∃ φ2 st2 es, Step φ1 H1 φ2 H2 ∧ RepS R φ2 st2 H2 ∧ Tbs R H2 ∧ RepL R φ2 H2 es zs ∧ es.length = ks.length ∧ Post R W σ φ2 H2 (RepV R) (M.bnd (M.opt (argsBy (ds ++ es) ord)) m st2) Q) I1 ⟨φ1, st1, ρ, S1, E1, T1, ?_⟩) fun ws s2 ⟨zs, H2, I2, rz, φ2, st2, es', s2', S2, T2, r2, n2, p2⟩ => ⟨I2.kIn, ?_⟩
    · cases q : mk ρ st1 with
      | ok es st2 =>
        unfold M.bnd at p1
        rw [q] at p1
        exact fun φ2 H2 zs a b c d => ⟨φ2, st2, es, a, b, c, d, l2 ρ st1 es st2 q, Post.step a p1⟩
      | exc c v s' =>
        unfold M.bnd at p1
        rw [q] at p1
        exact p1
      | bad =>
        unfold M.bnd at p1
        rw [q] at p1
        exact p1
    · rw [hks]
      exact run_Mk F hr hb tk I2 (us := us) r rz (by rw [← r.length, ← r1.length]; exact n1) (by rw [← rz.length, ← r2.length]; exact n2) S2 T2 (RepL.step s2' _ _ r1) r2 p2
theorem s_callK0 {G : Gm} {x : Str} {p pos : Pos} {kws : List Keyword} {mk : Env → M (List PV)} (F : FnM X.prog X.w X.K X.mg X.base R k f fd ps m) (hr : Room k X.A) (hg : Gl X x) (hm : X.mg x = some (.ref f)) (hk : PySem.W.keepIn X.K (.ref f) = true) (hb : KwB X.K fd ps 0 ks ord) (tk : Takes X W)
    (hkw : PK X kws (tMA' R G W mk)) (l2 : ∀ ρ st xs st', mk ρ st = .ok xs st' → xs.length = ks.length) (hall : (backToKw pos (keywordEach kws X.env)).all (·.1.isSome) = true) (hks : (backToKw pos (keywordEach kws X.env)).filterMap (·.1) = ks)
    (hdb : (x == ("__debug__" : Str)) = false) (hpl : ((backTo pos (starEach [] X.env)).any (·.1) || (backToKw pos (keywordEach kws X.env)).any (·.1.isNone)) = false) :
    PE X (.Call (.Name x p) [] kws pos) (tM R G W fun ρ => M.bnd (M.ret []) fun xs => M.bnd (mk ρ) fun ys => M.bnd (M.opt (argsBy (xs ++ ys) ord)) m) := by
  refine ⟨fun pins s σ H Q I ⟨φ, st, ρ, S, E, T, h⟩ => ?_⟩
  refine wpAny_Call_Name_kw (ld_glob I hg hm ?_ hdb)
  have p1 : Post R W σ φ H (RepV R) (M.bnd (mk ρ) (fun ys => M.bnd (M.opt (argsBy ([] ++ ys) ord)) m) st) Q := h
  refine PySem.W.callWith_KW0 (h₀ := X.base) I.ok.mod.kin hk hall ?_ hpl
  refine thn (hkw.run pos pins s σ H (fun zs H2 => ∃ φ2 st2 es, Step φ H φ2 H2 ∧ RepS R φ2 st2 H2 ∧ Tbs R H2 ∧ RepL R φ2 H2 es zs ∧ es.length = ks.length ∧ Post R W σ φ2 H2 (RepV R) (M.bnd (M.opt (argsBy ([] ++ es) ord)) m st2) Q) I ⟨φ, st, ρ, S, E, T, ?_⟩) fun ws s2 ⟨zs, H2, I2, rz, φ2, st2, es', s2', S2, T2, r2, n2, p2⟩ => ⟨I2.kIn, ?_⟩
  · cases q : mk ρ st with
    | ok es st2 =>
      unfold M.bnd at p1
      rw [q] at p1
      exact fun φ2 H2 zs a b c d => ⟨φ2, st2, es, a, b, c, d, l2 ρ st es st2 q, Post.step a p1⟩
    | exc c v s' =>
      unfold M.bnd at p1
      rw [q] at p1
      exact p1
    | bad =>
      unfold M.bnd at p1
      rw [q] at p1
      exact p1
  · rw [hks]
    exact run_Mk (us := []) (vs := []) (ds := []) F hr hb tk I2 .nil rz rfl (by rw [← rz.length, ← r2.length]; exact n2) S2 T2 rfl r2 p2
theorem run_mkM {pins : List (Addr × Obj)} {σ : L2.St} {H : Hp} {s : Shared} {Q : VK} {us : List Value} {vs : List V} {ds : List PV} {φ : List Addr} {st : Sto} {c : Nat} (M0 : Mk X.K (R.cad c) f) (F : FnM X.prog X.w X.K X.mg X.base R k f fd ps m) (hr : Room (k + 1) X.A) (hb : Binds X.K fd ps []) (tk : Takes X W)
    (I : Inv X pins σ H s) (r : Vals vs us) (hl : ds.length + 1 = ps.length) (S : RepS R φ st H) (T : Tbs R H) (x : RepL R φ H ds vs) (p : Post R W σ φ H (RepV R) (mkM m c ds st) Q) : wpAny (model X.prog X.w) X.A (call (.ref (R.cad c)) us) (EP X pins σ Q) X.xe s := by
  have fx : H (s.heap.objs.size + 1) = none := I.hok.fresh (Nat.le_succ _)
  have fd' : H s.heap.objs.size = none := I.hok.fresh (Nat.le_refl _)
  have ne : s.heap.objs.size + 1 ≠ s.heap.objs.size := Nat.succ_ne_self _
  have I2 := Inv.made (C := R.cad c) I
  have S1 := S.new (o := .own (s.heap.objs.size + 1)) fd'
  have T1 := T.new (o := .own (s.heap.objs.size + 1)) fd'
  have fx1 : upd H s.heap.objs.size (.own (s.heap.objs.size + 1)) (s.heap.objs.size + 1) = none := by rw [upd_ne ne]; exact fx
  have S2 := S1.snoc (o := .ins (R.cad c) s.heap.objs.size []) (m := .ins c []) fx1 ⟨_, [], upd_same, rfl⟩
  have T2 := T1.new (o := .ins (R.cad c) s.heap.objs.size []) fx1
  have st2 := (step_new (φ := φ) (o := .own (s.heap.objs.size + 1)) fd').trans (step_sto (o := .ins (R.cad c) s.heap.objs.size []) fx1)
  have hn : (φ ++ [s.heap.objs.size + 1])[st.length]? = some (s.heap.objs.size + 1) := by
    rw [List.getElem?_append_right (by rw [S.len]; exact Nat.le_refl _), S.len]
    simp
  have x2 : RepL R (φ ++ [s.heap.objs.size + 1]) (upd (upd H s.heap.objs.size (.own (s.heap.objs.size + 1))) (s.heap.objs.size + 1) (.ins (R.cad c) s.heap.objs.size [])) (.loc st.length :: ds) (.ref (s.heap.objs.size + 1) :: vs) := ⟨_, _, rfl, ⟨_, hn, rfl⟩, RepL.step st2 _ _ x⟩
  have r2 : Vals (V.ref (s.heap.objs.size + 1) :: vs) (Value.ref (s.heap.objs.size + 1) :: us) := .cons rfl r
  have hl2 : ((Value.ref (s.heap.objs.size + 1) :: us) ++ []).length = ps.length := by
    rw [List.append_nil, ← r2.length, ← x2.length]
    exact hl
  have hbb := hb { s with heap := (s.heap.push PySem.W.emptyDict).push (PySem.W.instObj (R.cad c) s.heap.objs.size) } (Value.ref (s.heap.objs.size + 1) :: us) I2.kIn hl2
  rw [List.append_nil] at hbb
  have p : Post R W σ φ H (RepV R) (M.bnd (m (.loc st.length :: ds)) (nonM st.length) (st ++ [.ins c []])) Q := p
  have pp : Post R (fun c d _ H => W c d σ H) [] (φ ++ [s.heap.objs.size + 1]) (upd (upd H s.heap.objs.size (.own (s.heap.objs.size + 1))) (s.heap.objs.size + 1) (.ins (R.cad c) s.heap.objs.size [])) (RepV R) (m (.loc st.length :: ds) (st ++ [.ins c []])) (fun v H2 => v = .non ∧ Q (.ref (s.heap.objs.size + 1)) H2) := by
    refine (Post.mono (Post.bnd (Post.step st2 p)) fun v H2 ⟨φ3, st3, d, s3, S3, T3, r3, p3⟩ => ?_).wish
    cases d with
    | non => exact ⟨r3, p3 φ3 H2 _ (Step.refl _ _) S3 T3 ⟨_, get_pre s3.pre hn, rfl⟩⟩
    | _ => exact False.elim p3
  refine wpAny_call (make_map (f := f) I.kIn M0.makes M0.init (beq_iff_eq.mp M0.fn) (codeAny_mono (F.run R.hid _ X.stack _ _ ⟨Value.ref (s.heap.objs.size + 1) :: us, []⟩ _ _ (.loc st.length :: ds) _ _ _ (fun c d H => W c d σ H) (hr.make (R.cad c) us [])
    (I2.env0.make (R.cad c) us []) hbb r2 (by rw [List.length_cons]; exact hl) S2 T2 x2.x pp) fun r s' hq' => ?_))
  cases r with
  | error e => exact tk e s' (XE.of_call I2 (fun _ _ _ h => h) hq')
  | ok fl =>
    cases fl with
    | ret u =>
      obtain ⟨v, H', I3, rv, ev, q3⟩ := I2.after hq'
      subst ev
      exact ⟨rv, ⟨V.ref (s.heap.objs.size + 1), H', I3, rfl, q3⟩⟩
    | next => exact False.elim hq'
    | brk => exact False.elim hq'
    | cont => exact False.elim hq'
theorem mk_len {m : List PV → M PV} {c l : Nat} {ds : List PV} {st : Sto} (hn : ∀ ds st, m ds st ≠ .bad → ds.length = l) (h : mkM m c ds st ≠ .bad) : ds.length + 1 = l := by
  refine hn (.loc st.length :: ds) (st ++ [.ins c []]) fun z => h ?_
  show M.bnd (m (.loc st.length :: ds)) (nonM st.length) (st ++ [.ins c []]) = .bad
  unfold M.bnd
  rw [z]
theorem s_mk {G : Gm} {c : Nat} {x : Str} {p pos : Pos} {e : Expr} {es : List Expr} {ms : Env → M (List PV)} (M0 : Mk X.K (R.cad c) f) (F : FnM X.prog X.w X.K X.mg X.base R k f fd ps m) (hn : ∀ ds st, m ds st ≠ .bad → ds.length = ps.length) (hr : Room (k + 1) X.A) (hg : Gl X x) (hm : X.mg x = some (.ref (R.cad c))) (hb : Binds X.K fd ps []) (tk : Takes X W)
    (ha : PA X (e :: es) (tMA' R G W ms)) (hdb : (x == ("__debug__" : Str)) = false) (he : starEach (e :: es) X.env = (false, eval e X.env) :: starEach es X.env) (hpl : (backTo pos (starEach es X.env)).any (·.1) = false) :
    PE X (.Call (.Name x p) (e :: es) [] pos) (tM R G W fun ρ => M.bnd (ms ρ) (mkM m c)) := by
  refine ⟨fun pins s σ H Q I ⟨φ, st, ρ, S, E, T, h⟩ => ?_⟩
  refine wpAny_Call_Name_kw (ld_glob I hg hm ?_ hdb)
  refine PySem.W.callWith_K (h₀ := X.base) I.ok.mod.kin M0.kp (thn (ha.run pos pins s σ H (fun vs H1 => ∃ φ1 st1 ds, RepS R φ1 st1 H1 ∧ Tbs R H1 ∧ RepL R φ1 H1 ds vs ∧ Post R W σ φ1 H1 (RepV R) (mkM m c ds st1) Q) I ⟨φ, st, ρ, S, E, T, Post.mono (Post.bnd h) fun vs H1 ⟨φ1, st1, ds, s1, S1, T1, r1, p1⟩ => ⟨φ1, st1, ds, S1, T1, r1, p1⟩⟩) fun us s1 ⟨vs, H1, I1, r, φ1, st1, ds, S1, T1, r1, p1⟩ => ⟨I1.kIn, ?_⟩) he hpl
  exact run_mkM M0 F hr hb tk I1 r (mk_len hn fun z => by rw [z] at p1; exact p1) S1 T1 r1 p1
structure MetM (P : Program) (w : World) (K : PySem.W.Frag) (mg : Str → Option Value) (base : Heap) (R : Rc) (k c g : Nat) (m : List PV → M PV) : Prop where
  ex : ∃ (f : Addr) (fd : FuncData) (ps : List Str), Cls K (R.cad c) ∧ Meth K (R.cad c) (R.mnm g) f ∧ FnM P w K mg base R k f fd ps m ∧ Binds K fd ps [] ∧ (∀ ds st, m ds st ≠ .bad → ds.length = ps.length) ∧ ∀ h : Nat, R.fld.lookup h ≠ some (R.mnm g)
theorem fld_none {φ : List Addr} {H : Hp} {x : Str} (hx : ∀ h : Nat, R.fld.lookup h ≠ some x) : ∀ {fs : List (Nat × PV)} {gs : List (Str × V)}, FldL R φ H fs gs → gs.lookup x = none
  | [], _, h => by cases h; rfl
  | (g, d0) :: fs, _, h => by
    obtain ⟨y, v, r, rfl, h1, h2, h3⟩ := h
    rw [List.lookup_cons]
    have : (x == y) = false := by
      cases z : x == y with
      | false => rfl
      | true =>
        have z : x = y := eq_of_beq z
        subst z
        exact absurd h1 (hx g)
    rw [this]
    exact fld_none hx h3
theorem s_meth {P : Prog} {C : Call} {g : Nat} {o e : Expr} {es : List Expr} {apos pos : Pos} {pl : Sem Bool} {mo : Env → M PV} {ms : Env → M (List PV)} (mt : ∀ c j, P.mets.lookup (c, g) = some j → MetM X.prog X.w X.K X.mg X.base R k c g (C.def_ j)) (hr : Room k X.A) (tk : Takes X W) (ho : PE X o (tM R (gOf X) W mo)) (ha : PA X (e :: es) (tMA' R (gOf X) W ms))
    (hst : starEach (e :: es) X.env = (false, eval e X.env) :: starEach es X.env) (hpl : (backTo pos (starEach es X.env)).any (·.1) = false)
    (ht : eval (.Call (.Attribute o (R.mnm g) apos) (e :: es) [] pos) X.env = (do
      let ov ← eval o X.env
      standAt apos.atName
      let (f, first) ← holding [ov] (getMethod ov (R.mnm g) pl)
      callWith pos f first (backTo pos (starEach (e :: es) X.env)) (backToKw pos (keywordEach [] X.env)))) :
    PE X (.Call (.Attribute o (R.mnm g) apos) (e :: es) [] pos) (tM R (gOf X) W fun ρ => M.bnd (mo ρ) fun x => M.bnd (clsOf x) fun c => M.bnd (M.opt (P.mets.lookup (c, g))) fun k => M.bnd (ms ρ) fun xs => C.def_ k (x :: (xs ++ []))) := by
  refine ⟨fun pins s σ H Q I ⟨φ, st, ρ, S, E, T, h⟩ => ?_⟩
  refine PySem.W.methodCall_KW (pl := pl) (thn (ho.run pins s σ H (fun x H1 => ∃ φ1 st1 d, Step φ H φ1 H1 ∧ RepS R φ1 st1 H1 ∧ RepE R (gOf X) φ1 H1 ρ σ ∧ Tbs R H1 ∧ RepV R φ1 H1 d x ∧ Post R W σ φ1 H1 (RepV R) (M.bnd (clsOf d) (fun c => M.bnd (M.opt (P.mets.lookup (c, g))) fun k => M.bnd (ms ρ) fun xs => C.def_ k (d :: (xs ++ []))) st1) Q) I
    ⟨φ, st, ρ, S, E, T, Post.mono (Post.bnd h) fun v H1 ⟨φ1, st1, d, s1, S1, T1, r1, p1⟩ => ⟨φ1, st1, d, s1, S1, E.step s1, T1, r1, p1⟩⟩) fun u s1 ⟨x, H1, I1, rx, φ1, st1, d, s1', S1, E1, T1, r1, p1⟩ => ?_) ht
  obtain ⟨n, a, c, fs, dx, gs, rfl, hn, rfl, q, g1, g2, p1⟩ := clsOf_ok S1 r1 p1
  obtain rfl : u = Value.ref a := rx
  cases q2 : P.mets.lookup (c, g) with
  | none => rw [q2] at p1; exact p1.elim
  | some j =>
    rw [q2] at p1
    have p1 : Post R W σ φ1 H1 (RepV R) (M.bnd (ms ρ) (fun xs => C.def_ j (.loc n :: (xs ++ []))) st1) Q := p1
    obtain ⟨f, fd, ps, k1, k2, k3, k4, k5, k6⟩ := (mt c j q2).ex
    refine getmeth_ok I1 g1 k1 k2 (fld_none k6 g2) ?_
    refine PySem.W.callWith_K (first := [.ref a]) (h₀ := X.base) I.ok.mod.kin k2.kp (thn (ha.run pos pins s1 σ H1 (fun vs H2 => ∃ φ2 st2 ds, Step φ1 H1 φ2 H2 ∧ RepS R φ2 st2 H2 ∧ Tbs R H2 ∧ RepL R φ2 H2 ds vs ∧ Post R W σ φ2 H2 (RepV R) (C.def_ j (.loc n :: (ds ++ [])) st2) Q) I1 ⟨φ1, st1, ρ, S1, E1, T1, Post.bnd p1⟩) fun us s2 ⟨vs, H2, I2, r, φ2, st2, ds, s2', S2, T2, r2, p2⟩ => ⟨I2.kIn, ?_⟩) hst hpl
    have p2 : Post R W σ φ2 H2 (RepV R) (C.def_ j ((.loc n :: ds) ++ []) st2) Q := p2
    exact run_M (us := .ref a :: us) (vs := .ref a :: vs) (ds := .loc n :: ds) (dvs := []) (dds := []) (dps := []) k3 hr k4 .nil tk I2 (.cons rfl r) (k5 _ st2 fun z => by rw [z] at p2; exact p2) S2 T2 ⟨_, _, rfl, (r1.step s2').x, r2.x⟩ rfl p2
theorem s_meth0 {P : Prog} {C : Call} {g : Nat} {o : Expr} {apos pos : Pos} {pl : Sem Bool} {mo : Env → M PV} (mt : ∀ c j, P.mets.lookup (c, g) = some j → MetM X.prog X.w X.K X.mg X.base R k c g (C.def_ j)) (hr : Room k X.A) (tk : Takes X W) (ho : PE X o (tM R (gOf X) W mo))
    (ht : eval (.Call (.Attribute o (R.mnm g) apos) [] [] pos) X.env = (do
      let ov ← eval o X.env
      standAt apos.atName
      let (f, first) ← holding [ov] (getMethod ov (R.mnm g) pl)
      callWith pos f first (backTo pos (starEach [] X.env)) (backToKw pos (keywordEach [] X.env)))) :
    PE X (.Call (.Attribute o (R.mnm g) apos) [] [] pos) (tM R (gOf X) W fun ρ => M.bnd (mo ρ) fun x => M.bnd (clsOf x) fun c => M.bnd (M.opt (P.mets.lookup (c, g))) fun k => M.bnd (M.ret []) fun xs => C.def_ k (x :: (xs ++ []))) := by
  refine ⟨fun pins s σ H Q I ⟨φ, st, ρ, S, E, T, h⟩ => ?_⟩
  refine PySem.W.methodCall_KW (pl := pl) (thn (ho.run pins s σ H (fun x H1 => ∃ φ1 st1 d, Step φ H φ1 H1 ∧ RepS R φ1 st1 H1 ∧ RepE R (gOf X) φ1 H1 ρ σ ∧ Tbs R H1 ∧ RepV R φ1 H1 d x ∧ Post R W σ φ1 H1 (RepV R) (M.bnd (clsOf d) (fun c => M.bnd (M.opt (P.mets.lookup (c, g))) fun k => M.bnd (M.ret []) fun xs => C.def_ k (d :: (xs ++ []))) st1) Q) I
    ⟨φ, st, ρ, S, E, T, Post.mono (Post.bnd h) fun v H1 ⟨φ1, st1, d, s1, S1, T1, r1, p1⟩ => ⟨φ1, st1, d, s1, S1, E.step s1, T1, r1, p1⟩⟩) fun u s1 ⟨x, H1, I1, rx, φ1, st1, d, s1', S1, E1, T1, r1, p1⟩ => ?_) ht
  obtain ⟨n, a, c, fs, dx, gs, rfl, hn, rfl, q, g1, g2, p1⟩ := clsOf_ok S1 r1 p1
  obtain rfl : u = Value.ref a := rx
  cases q2 : P.mets.lookup (c, g) with
  | none => rw [q2] at p1; exact p1.elim
  | some j =>
    rw [q2] at p1
    obtain ⟨f, fd, ps, k1, k2, k3, k4, k5, k6⟩ := (mt c j q2).ex
    refine getmeth_ok I1 g1 k1 k2 (fld_none k6 g2) ?_
    have p2 : Post R W σ φ1 H1 (RepV R) (C.def_ j ([.loc n] ++ []) st1) Q := p1
    exact PySem.W.callWith_K0 (first := [.ref a]) I1.kIn k2.kp (run_M (us := [.ref a]) (vs := [.ref a]) (ds := [.loc n]) (dvs := []) (dds := []) (dps := []) k3 hr k4 .nil tk I1 (.cons rfl .nil) (k5 _ st1 fun z => by rw [z] at p2; exact p2) S1 T1 ⟨_, _, rfl, r1.x, rfl⟩ rfl p2)
structure EqM (P : Program) (w : World) (K : PySem.W.Frag) (mg : Str → Option Value) (base : Heap) (R : Rc) (k c : Nat) (m : List PV → M PV) : Prop where
  ex : ∃ (f : Addr) (fd : FuncData) (ps : List Str), Cls K (R.cad c) ∧ PySem.W.findIn K (.ref (R.cad c)) "__eq__" = some (some (.ref f)) ∧ PySem.W.isFn K (.ref f) = true ∧ FnM P w K mg base R k f fd ps m ∧ Binds K fd ps [] ∧ (∀ ds st, m ds st ≠ .bad → ds.length = ps.length)
end
end Mp
set_option maxHeartbeats 4000000
namespace PySem.W
open PySem PySem.Calls PyProof.Rows
abbrev xiBody (x f : Str) (p0 p1 p2 p3 p4 q0 q1 q2 q3 : Pos) : List Stmt :=
  [.Expr (.Call (.Attribute (.Call (.Name "super" p0) [] [] p1) "__init__" p2) [] [] p3) p4, .Assign [.Attribute (.Name "self" q0) f q1] (.Name x q2) q3]
section
variable {prog : Program} {w : World} {M : Model} {A : Around} {E : Value → Shared → Prop} {R : Result → Shared → Prop} {h base : Heap} {g : Array GenState} {d : Drawn} {t : Nat} {os : OsState} {K : Frag} {mg : Str → Option Value}
theorem xi_call {nm q : Str} {C N : Addr} {bs bm : List Value} {hdct : Bool} {sn : List Str} {sub : List Value} {ab : Bool} {col : Option Bool} {dd : Option Addr} {k0 k1 k2 k3 k5 : Option Value} {u e t0 : Addr} {rest : List Value} {Q : Value → Shared → Prop}
    (hC : h.get? C = some (excClassObj nm q C N bs bm hdct sn sub ab col dd k0 k1 k2 k3 k5 "ValueError.__new__")) (he : h.get? e = some (HandSPX.excO C t0)) (hu : h.get? u = some (kxs_mw "ValueError.__init__" e)) (hrest : rest.length ≤ sizeLine)
    (hq : ∀ h' t1, (∀ b o, b ≠ e → h.get? b = some o → h'.get? b = some o) → h'.get? e = some (HandSPX.excO C t1) → Q .none ⟨h', g, d, t, os⟩) :
    wpAny (model prog w) A (call (.ref u) rest) Q E ⟨h, g, d, t, os⟩ := by
  refine wpAny_call (codeAny_of_tree ?_)
  show wpAny _ A.in1 (callAny (.ref u) ⟨rest, []⟩) _ _ _
  simp only [callAny]
  refine wpAny_bind (wpAny_load hu ?_)
  simp only [kxs_mw, show (Value.type "method-wrapper" == Value.type "method" || Value.type "method-wrapper" == Value.type "builtin_function_or_method" || Value.type "method-wrapper" == Value.type "method-wrapper") = true by decide, if_true]
  refine W.KFB.if_so (by decide) ?_
  refine wpAny_bind (PySem.ESX.check_bound F.excBase_ValueError hC he rfl ?_)
  refine wpAny_bind (wpAny_pure (wpAny_pure ?_))
  refine ⟨Code.quiet_builtin _ (by decide +kernel), codeAny_builtin F.excBase_ValueError.initEntry ?_⟩
  rw [Around.under_plainId F.excBase_ValueError.init.plain _]
  wp_walk
  refine hq _ h.objs.size (fun b o hb ho => ?_) ?_
  · rw [Heap.get?_update_other _ _ (Ne.symm hb)]
    exact Heap.get?_push_of_some _ ho
  · rw [Heap.get?_update_self _ (Heap.get?_push_of_some _ he) rfl]
    rfl
def MethEq (o : Expr) (name : Str) (apos pos : Pos) : Prop := ∀ env : Env, ∃ pl : Sem Bool, eval (.Call (.Attribute o name apos) [] [] pos) env = (do
  let ov ← attributeBase o name env (eval o env)
  standAt apos.atName
  let (f, first) ← holding [ov] (getMethod ov name pl)
  callWith pos f first (backTo pos (starEach [] env)) [])
structure XiT (prog : Program) (K : Frag) (C fI : Addr) (fd : FuncData) (x f : Str) : Prop where
  ex : ∃ (name qual : Str) (params : Arguments) (scope : Scope) (dV kV doc pm ct oc ccl cl : Value) (an od cdd cld : Option Addr) (osl ccs csl : Array (Option Value)) (cc cda : Addr) (ar : Arg) (vs : Array Value) (file : Str) (tf : Tok) (p0 p1 p2 p3 p4 q0 q1 q2 q3 : Pos),
    fd = ksFn name qual params (xiBody x f p0 p1 p2 p3 p4 q0 q1 q2 q3) scope dV kV doc pm an (.ref cda) ct cc ∧ K.lookup fI = some ⟨oc, od, .func fd, osl⟩ ∧ codeIn K (.ref cda) qual = true ∧
    (params.posonlyargs ++ params.args).head? = some ar ∧ ar.arg = "self" ∧ K.lookup cda = some ⟨ccl, cdd, .fields vs, ccs⟩ ∧ vs[2]? = some (.str file tf) ∧ ((prog.main.file : Str) == file) = true ∧
    K.lookup cc = some ⟨cl, cld, .cell (some (.ref C)), csl⟩ ∧ scope.names.lookup ("super" : Str) = some .globalImplicit ∧ scope.names.lookup ("__class__" : Str) = some .free ∧ scope.names.lookup ("self" : Str) = some .local ∧ scope.names.lookup x = some .local ∧
    scope.kind = .function ∧ scope.isCoroutine = false ∧ scope.isGenerator = false ∧ (∀ y ∈ scope.names, y.2 ≠ .cell) ∧ x ≠ "self" ∧ (x == ("__debug__" : Str)) = false ∧ MethEq (.Call (.Name "super" p0) [] [] p1) "__init__" p2 p3
structure XiC (prog : Program) (K : Frag) (C fI : Addr) (fd : FuncData) (x f : Str) : Prop where
  tx : XiT prog K C fI fd x f
  cl : ∃ nm q N bs bm sn sub ab col dd k0 k1 k2 k3 k5, K.lookup C = some (excClassObj nm q C N bs bm true sn sub ab col dd k0 k1 k2 k3 k5 "ValueError.__new__") ∧ HandSPX.refsVE bm = true ∧ alongIn K "__init__" bm = some (some (.builtin "ValueError.__init__"))
  ve : subIn K (.ref C) (.type "ValueError") = some true
  me : mroIn K C (.ref C) = some true
  sa : findIn K (.ref C) "__setattr__" = some (some (.builtin "object.__setattr__"))
  no : findIn K (.ref C) f = some none
  op : nsIn K cStatics "thirdparty.any" = some none
  ini : findIn K (.ref C) "__init__" = some (some (.ref fI))
  fn : typeIn K (.ref fI) = some (.type "function")
theorem ns_kept {h h' : Heap} {L : Addr} {m : Str → Option Value} (n : h.Ns L m) (k : ∀ o, h.get? L = some o → h'.get? L = some o) : h'.Ns L m := by
  obtain ⟨oL, es, ep, hL, r⟩ := n
  exact ⟨oL, es, ep, k _ hL, r⟩
theorem xi_run {C fI e t0 : Addr} {fd : FuncData} {x f : Str} {u : Value} {args : Args} (T : XiC prog K C fI fd x f) (hroom : A.depth < recursionLimit) (hK : K.In h) (hlim : h.NoLimit) (hgl : h.Ns mainGlobals mg) (hblt : ∃ mb, h.Ns builtinsNs mb ∧ ∀ x : Str, x ≠ "__name__" → mb x = bootBuiltins x) (hsu : mg "super" = none)
    (htop : (prog.main.scope.names.lookup ("super" : Str)).isSome = false)
    (he : h.get? e = some (HandSPX.excO C t0)) (hKe : K.lookup e = none) (hb : BindsTo ⟨h, g, d, t, os⟩ fd args [("self", .ref e), (x, u)])
    (hq : ∀ h' tk' dx t1, (∀ b o, b ≠ e → h.get? b = some o → h'.get? b = some o) → h.get? dx = none → dx ≠ e → h'.get? e = some ({ cls := .ref C, dict := some dx, data := .fields #[.ref t1, .none, .none, .none, .bool false, .none] } : Obj) →
      h'.Ns1 dx (fun y => if y = f then some u else none) → R (.ok (.ret .none)) ⟨h', g, d, tk', os⟩) :
    codeAny (model prog w) A (.call (.ref fI) args) R ⟨h, g, d, t, os⟩ := by
  obtain ⟨name, qual, params, scope, dV, kV, doc, pm, ct, oc, ccl, cl, an, od, cdd, cld, osl, ccs, csl, cc, cda, ar, vs, file, tf, p0, p1, p2, p3, p4, q0, q1, q2, q3, rfl, hf, hcd, har, harn, hcda, hvs, hfile, hcell, hks, hkc, hka, hkx, hk, hco, hgen, hnc, hxs, hxd, hev⟩ := T.tx.ex
  obtain ⟨nm, q, N, bs, bm, sn, sub, ab, col, dd, k0, k1, k2, k3, k5, hC, hbm, hal⟩ := T.cl
  have hcl : clsIn K C = some { name := nm, bases := bs, mro := .ref C :: bm, ns := N, qualname := q, hasDict := true, slotNames := sn, subclasses := sub, abstract := ab, collection := col, hasDel := false } := by unfold clsIn; rw [hC] <;> rfl
  refine ks_codeAny_call_defAt (fd := ksFn name qual params (xiBody x f p0 p1 p2 p3 p4 q0 q1 q2 q3) scope dV kV doc pm an (.ref cda) ct cc) (body := xiBody x f p0 p1 p2 p3 p4 q0 q1 q2 q3) (binds := [("self", .ref e), (x, u)]) hroom (hK _ _ hf) rfl hlim (codeRec_of hK hcd) rfl hb hnc (fun y hy => ?_) (fun h₁ hns kp => ?_) hco hgen hk
  · rcases List.mem_cons.mp hy with rfl | hy
    · exact hka
    · rcases List.mem_cons.mp hy with rfl | hy
      · exact hkx
      · cases hy
  show _root_.PySem.wpAt _ _ (.func _ (ksEnv qual scope h.objs.size fI (.ref cda) cc)) (execs _ (ksEnv qual scope h.objs.size fI (.ref cda) cc)) _ _ _
  have hLe : h.objs.size ≠ e := Nat.ne_of_gt (Heap.lt_size he)
  have he1 : h₁.get? e = some (HandSPX.excO C t0) := kp _ _ he
  have hK1 : K.In h₁ := hK.keeps kp
  have vself : ([("self", Value.ref e), (x, u)] : List (Str × Value)).reverse.lookup ("self" : Str) = some (Value.ref e) := by
    have e1 : (("self" : Str) == x) = false := by
      cases z : ("self" : Str) == x with
      | false => rfl
      | true => exact absurd (eq_of_beq z).symm hxs
    simp [List.lookup, e1]
  have vx : ([("self", Value.ref e), (x, u)] : List (Str × Value)).reverse.lookup x = some u := by
    simp [List.lookup]
  obtain ⟨pl, hev⟩ := hev (ksEnv qual scope h.objs.size fI (.ref cda) cc)
  refine ks_wpAt_execs_cons (ks_wpAt_Expr_any (ks_wpAt_MethodCall ?_ hev) (by unfold interactive; simp [Env.blockKind, hk]))
  obtain ⟨mb, hb1, hb2⟩ := hblt
  refine ks_wpAt_super_base (env := ksEnv qual scope h.objs.size fI (.ref cda) cc) hks hkc (by decide) rfl (hK1 _ _ hf) rfl har rfl (hK1 _ _ hcda) rfl hvs hfile htop ?_
  refine ks_loadName_global hk hks (loadGlobal_builtin (env := ksEnv qual scope h.objs.size fI (.ref cda) cc) (hgl.keeps kp) hsu (hb1.keeps kp) (hb2 _ (by decide)) ⟨rfl, ?_⟩)
  refine wpAny_loadName_free hk hkc rfl ⟨_, hK1 _ _ hcell, rfl⟩ ?_
  rw [harn]
  refine wpAny_loadName_local hk hka hns vself ?_
  refine ks_wpAny_isType_cls (hK1 _ _ hC) rfl ⟨rfl, ?_⟩
  refine ks_wpAny_call_super (hK1 _ _ hC) rfl he1 rfl (fun c z => nomatch z) (looks_mroIn hK1 T.me) (fun h2 hso k2 => ?_)
  have hK2 : K.In h2 := hK1.keeps k2
  have he2 := k2 _ _ he1
  have I2 : InstAt h2 e (HandSPX.excO C t0) C none := ⟨he2, rfl, rfl, trivial⟩
  refine kxs_getMethod kxs_ValueError hso (looks_opaque hK2 T.op) (l₀ := .ref C :: bm) (fun A Q E s k q => wpAny_bind ((looks_clsIn hK2 hcl) A _ E s k (wpAny_pure q))) (l := bm) (by simp [List.dropWhile]) hK2 hal (I2.type.andThen (looks_subIn hK2 T.ve)) (ks_ne hK2 I2 hcl) (by decide) ?_
  refine kxs_callWith (i := "ValueError.__init__") (x := e) rfl (evalArgs_empty ⟨Heap.get?_push_size _ rfl, ?_⟩)
  have k3 : ∀ b o, h2.get? b = some o → (h2.push (kxs_mw "ValueError.__init__" e)).get? b = some o := fun b o z => Heap.get?_push_of_some _ z
  refine xi_call ((hK2.keeps k3) _ _ hC) (k3 _ _ he2) (Heap.get?_push_size _ rfl) (Nat.zero_le _) (fun h3 t1 k4 he3 => ?_)
  have kp3 : ∀ b o, b ≠ e → h₁.get? b = some o → h3.get? b = some o := fun b o hb z => k4 b o hb (k3 _ _ (k2 _ _ z))
  have hK3 : K.In h3 := fun b o z => by
    by_cases hbe : b = e
    · rw [hbe, hKe] at z
      cases z
    · exact kp3 b o hbe (hK1 _ _ z)
  have hns3 : h3.Ns h.objs.size _ := ns_kept hns fun o z => kp3 _ o hLe z
  refine ks_wpAt_execs_cons (wpAt_of_wpAny (plainObj_wpAny_Assign_Attribute ?_))
  refine wpAny_Name (wpAny_loadName_local hk hkx hns3 vx ?_) hxd
  refine wpAny_Name (wpAny_loadName_local hk hka hns3 vself ?_) (by decide)
  refine set_plain hK3 (ox := HandSPX.excO C t1) (od := none) ⟨he3, rfl, rfl, trivial⟩ T.sa ?_
  refine HandSPX.exc_osa hK3 he3 hcl (show HandSPX.refsVE (.ref C :: bm) = true from hbm) rfl T.no (fun h' tk' dx k dn dne hx hn => ?_)
  have kk : ∀ b o, b ≠ e → h.get? b = some o → h'.get? b = some o := fun b o hb z => k b o hb (kp3 b o hb (kp _ _ z))
  refine wpAt_of_wpAny (wpAny_execs_nil (hq h' tk' dx t1 kk ?_ dne hx hn))
  cases z : h.get? dx with
  | none => rfl
  | some o => exact absurd (Heap.lt_size (kp3 dx o dne (kp _ _ z))) (Nat.not_lt.mpr dn)
end
end PySem.W
namespace PySem.HandSPX
open PySem.W PySem.Calls PyProof.Rows
section
variable {M : Model} {A : Around} {E : Value → Shared → Prop} {h : Heap} {g : Array GenState} {d : Drawn} {t : Nat} {os : OsState}
variable {nm q : Str} {C N : Addr} {bs bm bmB : List Value} {hdct : Bool} {sn : List Str} {sub : List Value} {ab : Bool} {col : Option Bool} {dd : Option Addr} {k0 k1 k2 k3 k5 : Option Value} {B newId initId : String}
theorem xk_check_new (F : ExcBaseFacts B newId initId bmB) (hT : ∀ X : String, bm.contains (.type X) = bmB.contains (.type X)) {rest : List Value} {kw : List (Str × Value)} {Q : Unit → Shared → Prop}
    (hC : h.get? C = some (excClassObj nm q C N bs bm hdct sn sub ab col dd k0 k1 k2 k3 k5 newId)) (hq : Q () ⟨h, g, d, t, os⟩) : wpAny M A (checkBuiltinCall newId ⟨.ref C :: rest, kw⟩) Q E ⟨h, g, d, t, os⟩ := by
  have hcont : (Value.ref C :: bm).contains (.type B) = true := by rw [List.contains_cons, hT, F.hasB, Bool.or_true]
  have hstar := F.noStar
  simp only [checkBuiltinCall, F.newKind, F.newSplit, F.newRow]
  repeat (first | refine wpAny_loadPart_at hC ?_ | (refine wpAny_isSubtype_exc hC ?_; rw [hcont]) | refine wpAny_staticBase_exc hC ?_ | refine wpAny_madeBy_exc hC ?_ | simp only [bne_self_eq_false, Bool.false_eq_true, if_false] | wp_step)
  exact hq
end
section
variable {prog : Program} {w : World} {A : Around} {E : Value → Shared → Prop} {R : Result → Shared → Prop} {h : Heap} {g : Array GenState} {d : Drawn} {t : Nat} {os : OsState}
variable {nm q : Str} {C N : Addr} {bs bm bmB : List Value} {hdct : Bool} {sn : List Str} {sub : List Value} {ab : Bool} {col : Option Bool} {dd : Option Addr} {k0 k1 k2 k3 k5 : Option Value} {B newId initId : String}
theorem xk_new (F : ExcBaseFacts B newId initId bmB) (hT : ∀ X : String, bm.contains (.type X) = bmB.contains (.type X)) {rest : List Value} {kw : List (Str × Value)}
    (hC : h.get? C = some (excClassObj nm q C N bs bm hdct sn sub ab col dd k0 k1 k2 k3 k5 newId))
    (hq : R (.ok (.ret (.ref (h.objs.size + 1)))) ⟨(h.push { cls := .type "tuple", data := .seq rest.toArray }).push
      { cls := .ref C, data := .fields #[.ref h.objs.size, .none, .none, .none, .bool false, .none] }, g, d, t, os⟩) (hrest : rest.length ≤ sizeLine) :
    codeAny (model prog w) A (.builtin newId ⟨.ref C :: rest, kw⟩) R ⟨h, g, d, t, os⟩ := by
  have hends := F.ends
  have hcB : (Value.ref C :: bm).contains (.type B) = true := by rw [List.contains_cons, hT, F.hasB, Bool.or_true]
  have hcA : (Value.ref C :: bm).contains (.type "AttributeError") = false := by rw [List.contains_cons, hT, F.noAttr]; rfl
  have hcN : (Value.ref C :: bm).contains (.type "NameError") = false := by rw [List.contains_cons, hT, F.noName]; rfl
  refine codeAny_builtinAt F.entry ?_
  unfold Builtin.«BaseException.__new__»
  refine wpAt_bind ?_
  show wpAt _ _ _ (stack >>= _) _ _ _
  refine wpAt_bind (wpAt_stack fun p below => wpAt_of_wpAny ?_)
  wp_walk
  refine wpAt_of_wpAny ?_
  rw [F.owner]
  repeat (first | with_reducible refine wpAny_madeHere_exc F.canon hC ?_ | with_reducible refine wpAny_loadPart_at hC ?_ | (with_reducible refine wpAny_isSubtype_exc hC ?_; first | rw [hcB] | rw [hcA] | rw [hcN]) | wp_step)
  show R _ _
  rw [Heap.size_push]
  exact hq
theorem xk_type_call (F : ExcBaseFacts B newId initId bmB) (hT : ∀ X : String, bm.contains (.type X) = bmB.contains (.type X)) {rest : List Value} {kw : List (Str × Value)} {fI : Addr} {Q : Fin → Shared → Prop}
    (hC : h.get? C = some (excClassObj nm q C N bs bm hdct sn sub ab col dd k0 k1 k2 k3 k5 newId))
    (hi : W.Looks (model prog w) h (typeLookup (.ref C) "__init__") (some (.ref fI))) (hb : ∀ self, W.Looks (model prog w) h (bindSpecial (.ref fI) self) (.ref fI, [self])) (hrest : rest.length ≤ sizeLine)
    (hq : codeAny (model prog w) A (.call (.ref fI) ⟨.ref (h.objs.size + 1) :: rest, kw⟩)
      (fun r s' => match r with | .ok (.ret v) => v = .none ∧ Q (.done (.ret (.ref (h.objs.size + 1)))) s' | .ok _ => False | .error e => E e s')
      ⟨(h.push (W.kdv_tup rest)).push (excO C h.objs.size), g, d, t, os⟩) :
    wpAny (model prog w) A (Builtin.«type.__call__» ⟨.ref C :: rest, kw⟩) Q E ⟨h, g, d, t, os⟩ := by
  repeat (first | with_reducible refine wpAny_loadPart_at hC ?_ | with_reducible refine wpAny_madeBy_exc hC ?_ | wp_step)
  refine codeAny_call_builtin_code (Code.quiet_builtin _ F.quiet) (xk_check_new F hT hC ?_)
  refine xk_new F hT hC ?_ hrest
  show wpAny _ _ _ _ _ _
  have k : ∀ b o, h.get? b = some o → ((h.push (W.kdv_tup rest)).push (excO C h.objs.size)).get? b = some o := fun b o e => Heap.get?_push_of_some _ (Heap.get?_push_of_some _ e)
  have hC₁ := k _ _ hC
  have hget : ((h.push (W.kdv_tup rest)).push (excO C h.objs.size)).get? (h.objs.size + 1) = some (excO C h.objs.size) := by heap_get
  have hcC : (Value.ref C :: bm).contains (.ref C) = true := by simp
  have i1 := hi.keeps k
  have b1 := (hb (.ref (h.objs.size + 1))).keeps k
  unfold isInstance
  repeat (first | with_reducible refine wpAny_loadPart_at hget ?_ | (with_reducible refine wpAny_isSubtype_exc hC₁ ?_; rw [hcC]) | wp_step)
  show wpAny _ _ (typeLookup (.ref C) _) _ _ _
  refine i1.at ?_
  refine wpAny_holding (wpAny_bind (b1.at ?_))
  refine wpAny_bind (wpAny_call (codeAny_mono hq fun r s' z => ?_))
  rcases r with e | (v | _ | _ | _) <;> first | exact z | exact z.elim | skip
  obtain ⟨rfl, z⟩ := z
  first
    | exact wpAny_pure (wpAny_pure z)
    | (wp_walk; exact z)
theorem xk_call (F : ExcBaseFacts B newId initId bmB) (hT : ∀ X : String, bm.contains (.type X) = bmB.contains (.type X)) {rest : List Value} {kw : List (Str × Value)} {fI : Addr}
    (hC : h.get? C = some (excClassObj nm q C N bs bm hdct sn sub ab col dd k0 k1 k2 k3 k5 newId))
    (hi : W.Looks (model prog w) h (typeLookup (.ref C) "__init__") (some (.ref fI))) (hb : ∀ self, W.Looks (model prog w) h (bindSpecial (.ref fI) self) (.ref fI, [self])) (hrest : rest.length ≤ sizeLine)
    (hq : codeAny (model prog w) (A.under (.builtin "type.__call__" ⟨.ref C :: rest, kw⟩)) (.call (.ref fI) ⟨.ref (h.objs.size + 1) :: rest, kw⟩) (W.InitBack (h.objs.size + 1) R)
      ⟨(h.push (W.kdv_tup rest)).push (excO C h.objs.size), g, d, t, os⟩) :
    codeAny (model prog w) A (.call (.ref C) ⟨rest, kw⟩) R ⟨h, g, d, t, os⟩ := by
  have f1 := tc_lookup
  have f2 := tc_bind (.ref C)
  have hTy : (⟨h, g, d, t, os⟩ : Shared).TypeIs (.ref C) "type" := ⟨_, hC, rfl⟩
  refine codeAny_of_tree ?_
  show wpAny _ _ (callAny (.ref C) _) _ _ _
  repeat (any_goals (first | assumption | with_reducible refine wpAny_loadPart_at hC ?_ | wp_step))
  refine ⟨rfl, ?_⟩
  refine codeAny_call_builtin_at (Code.quiet_builtin _ (by decide +kernel)) entry_typeCall (wpAny_check_type_call_sub hC (xk_type_call F hT hC hi hb hrest ?_))
  refine codeAny_mono hq fun r s' z => ?_
  rcases r with e | (v | _ | _ | _) <;> exact z
end
end PySem.HandSPX
namespace Mp
open PySem PySem.Spec PyProof.Rows L2
section
variable {X : Cx} {pins : List (Addr × Obj)} {σ : L2.St} {H : Hp} {s : Shared}
theorem exn_set {C e d t0 : Addr} {f : Str} {v : V} {u : Value} {h' : Heap} {tk : Nat} (I : Inv X pins σ H s) (ee : H e = some (exo e C none)) (hd : s.heap.get? d = none) (hde : d ≠ e) (k : ∀ b o, b ≠ e → s.heap.get? b = some o → h'.get? b = some o)
    (he : h'.get? e = some ({ cls := .ref C, dict := some d, data := .fields #[.ref t0, .none, .none, .none, .bool false, .none] } : Obj)) (hn : h'.Ns1 d (fun y => if y = f then some u else none)) (ry : RelV v u) :
    Inv X pins σ (upd (upd H d (exd d [(f, v)])) e (exo e C (some d))) { s with heap := h', toks := tk } := by
  have hnd : H d = none := I.hok.gone hd
  have nd : ∀ {b : Addr} {o : Obj}, s.heap.get? b = some o → b ≠ d := fun {b o} q z => by rw [z, hd] at q; cases q
  have na : ∀ {b : Addr}, H b = none → b ≠ e := fun {b} n z => by
    rw [z, ee] at n
    cases n
  have Un1 : Un X.fs [] H (upd (upd H d (exd d [(f, v)])) e (exo e C (some d))) s.heap h' := {
    keep := fun b o q n _ _ => k b o (na n) q
    slot := fun b o q n _ _ => ⟨o.slots, k b o (na n) q⟩
    free := fun b o q n _ => by rw [upd_ne (na n), upd_ne (nd q)]; exact n
    there := fun b o q _ => by
      by_cases hb : b = e
      · exact ⟨_, by rw [hb]; exact he⟩
      · exact ⟨o, k b o hb q⟩
    tups := fun b xs q => by rw [upd_ne (at_ne ee q exo_tup), upd_ne (ne_of_none q hnd)]; exact q
    frzs := fun b o v q => by rw [upd_ne (at_ne ee q exo_frz), upd_ne (ne_of_none q hnd)]; exact q
    tbls := fun b ps q => ⟨#[], by rw [upd_ne (at_ne ee q exo_tbl), upd_ne (ne_of_none q hnd), q]; simp⟩ }
  refine I.un (t' := tk) Un1 fun b o q => ?_
  by_cases hb : b = e
  · subst hb
    rw [upd_same] at q
    cases q
    exact exo_ok he
  · rw [upd_ne hb] at q
    by_cases hd2 : b = d
    · subst hd2
      rw [upd_same] at q
      cases q
      exact exd_ok hn (relO_put (fs := []) ry fun g => True.intro)
    · rw [upd_ne hd2] at q
      exact (I.hok b o q).stay (fun c v hc z => k c v (by
          rcases hc with hc | hc
          · rw [hc]
            exact hb
          · exact at_ne ee hc exo_own) z)
        (fun c hc => by rw [upd_ne (at_ne ee hc exo_own), upd_ne (ne_of_none hc hnd)]; exact hc) (fun c xs hc => by rw [upd_ne (at_ne ee hc exo_tup), upd_ne (ne_of_none hc hnd)]; exact hc)
theorem exn_make {C fI : Addr} {fd : FuncData} {x f : Str} {us : List Value} {kw : List (Str × Value)} {u : Value} {v : V} {Q : Value → Shared → Prop} {E : Value → Shared → Prop} {n : Nat} (T : PySem.W.XiC X.prog X.K C fI fd x f) (hr : Room (n + 1) X.A) (hsu : X.mg "super" = none) (htop : (X.prog.main.scope.names.lookup ("super" : Str)).isSome = false)
    (I : Inv X pins σ H s) (hl : us.length ≤ sizeLine) (ry : RelV v u) (hb : ∀ (e : Addr) (s' : Shared), BindsTo s' fd ⟨.ref e :: us, kw⟩ [("self", .ref e), (x, u)])
    (h : ∀ e d s', H e = none → H d = none → d ≠ e → Inv X pins σ (upd (upd H d (exd d [(f, v)])) e (exo e C (some d))) s' → Q (.ref e) s') :
    wpAny (model X.prog X.w) X.A (call (.ref C) us kw) Q E s := by
  obtain ⟨nm, q, N, bs, bm, sn, sub, ab, col, dd, k0, k1, k2, k3, k5, hC, hbm, hal⟩ := T.cl
  obtain ⟨hp, g, dr, t, os⟩ := s
  have kk : ∀ b o, hp.get? b = some o → ((hp.push (PySem.W.kdv_tup us)).push (PySem.HandSPX.excO C hp.objs.size)).get? b = some o := fun b o e => Heap.get?_push_of_some _ (Heap.get?_push_of_some _ e)
  have hget : ((hp.push (PySem.W.kdv_tup us)).push (PySem.HandSPX.excO C hp.objs.size)).get? (hp.objs.size + 1) = some (PySem.HandSPX.excO C hp.objs.size) := by heap_get
  have hsz : hp.objs.size ≤ hp.objs.size + 1 := Nat.le_succ _
  have hn : H (hp.objs.size + 1) = none := I.hok.fresh hsz
  have I2 : Inv X pins σ (upd H (hp.objs.size + 1) (exo (hp.objs.size + 1) C none)) ⟨(hp.push (PySem.W.kdv_tup us)).push (PySem.HandSPX.excO C hp.objs.size), g, dr, t, os⟩ :=
    I.laid (t' := t) kk hsz (exo_ok hget)
  have hKe : X.K.lookup (hp.objs.size + 1) = none := by
    cases z : X.K.lookup (hp.objs.size + 1) with
    | none => rfl
    | some o => exact absurd (Heap.lt_size (I.kIn _ _ z)) (by simp)
  obtain ⟨mb, b1, b2⟩ := I2.mod.blt
  refine wpAny_call (PySem.HandSPX.xk_call F.excBase_ValueError (fun Y => PySem.HandSPX.refsVE_contains Y bm hbm) (I.kIn _ _ hC) (PySem.W.looks_findIn I.kIn T.ini) (fun self => PySem.W.bind_fn I.kIn self T.fn) hl
    (PySem.W.xi_run (mg := X.mg) T (hr.make C us kw).depth I2.kIn I2.nolimit (I2.mod.glob.keeps I2.bk) ⟨mb, b1.keeps I2.bk, b2⟩ hsu htop hget hKe (hb _ _) fun h' tk' dx t1 k hdx dne hx hns => ?_))
  have J := exn_set (v := v) (tk := tk') I2 upd_same hdx dne k hx hns ry
  have hd1 : H dx = none := by
    have z := I2.hok.gone hdx
    rw [upd_ne dne] at z
    exact z
  have eH : upd (upd (upd H (hp.objs.size + 1) (exo (hp.objs.size + 1) C none)) dx (exd dx [(f, v)])) (hp.objs.size + 1) (exo (hp.objs.size + 1) C (some dx)) = upd (upd H dx (exd dx [(f, v)])) (hp.objs.size + 1) (exo (hp.objs.size + 1) C (some dx)) := by
    funext b
    by_cases e1 : b = hp.objs.size + 1
    · rw [e1, upd_same, upd_same]
    · rw [upd_ne e1, upd_ne e1]
      by_cases e2 : b = dx
      · rw [e2, upd_same, upd_same]
      · rw [upd_ne e2, upd_ne e2, upd_ne e1]
  rw [eH] at J
  exact ⟨rfl, h _ dx _ hn hd1 dne J⟩
end
end Mp
namespace Mp
open PySem PySem.Spec PyProof.Rows L2
structure ExmF (prog : Program) (K : PySem.W.Frag) (mg : Str → Option Value) (R : Rc) (x : Str) (c f : Nat) : Prop where
  mem : c ∈ R.xcl
  gm : mg x = some (.ref (R.cad c))
  kC : PySem.W.keepIn K (.ref (R.cad c)) = true
  su : mg "super" = none
  top : (prog.main.scope.names.lookup ("super" : Str)).isSome = false
  ex : ∃ (fI : Addr) (fd : FuncData) (y nm : Str), R.fld.lookup f = some nm ∧ PySem.W.XiC prog K (R.cad c) fI fd y nm ∧ (∀ (e : Addr) (u : Value) (s : Shared), BindsTo s fd ⟨[.ref e, u], []⟩ [("self", .ref e), (y, u)]) ∧
    (∀ (e : Addr) (u : Value) (s : Shared), BindsTo s fd ⟨[.ref e], [(nm, u)]⟩ [("self", .ref e), (y, u)])
structure ExmF0 (K : PySem.W.Frag) (mg : Str → Option Value) (R : Rc) (x : Str) (c : Nat) : Prop where
  mem : c ∈ R.xcl
  gm : mg x = some (.ref (R.cad c))
  kC : PySem.W.keepIn K (.ref (R.cad c)) = true
  ex : ∃ bmB, ExcBaseFacts "ValueError" "ValueError.__new__" "ValueError.__init__" bmB ∧ PySem.W.excIn K (R.cad c) bmB "ValueError.__new__" = true
section
variable {X : Cx} {R : Rc} {G : Gm} {W : WX}
theorem exn_rep {φ : List Addr} {H : Hp} {st : Sto} {c f : Nat} {d0 : PV} {v : V} {e d : Addr} {nm : Str} {Q : VK} (S : RepS R φ st H) (T : Tbs R H) (hc : c ∈ R.xcl) (hf : R.fld.lookup f = some nm) (hno : PySem.W.findIn R.K (.ref (R.cad c)) nm = some none) (he : H e = none) (hd : H d = none) (hde : d ≠ e) (r : RepV R φ H d0 v)
    (p : ∀ φ' H', Step φ H φ' H' → RepS R φ' st H' → Tbs R H' → RepV R φ' H' (.exn c f [d0]) (.ref e) → Q (.ref e) H') : Q (.ref e) (upd (upd H d (exd d [(nm, v)])) e (exo e (R.cad c) (some d))) := by
  have h1 : Step φ H φ (upd H d (exd d [(nm, v)])) := step_new hd
  have he2 : upd H d (exd d [(nm, v)]) e = none := by rw [upd_ne (fun z => hde z.symm)]; exact he
  have h2 := step_new (φ := φ) (o := exo e (R.cad c) (some d)) he2
  have S1 := S.new (o := exd d [(nm, v)]) hd
  have o1 := S1.fresh he2
  have o2 := S.fresh hd
  exact p φ _ (h1.trans h2) (S1.new he2) ((T.new hd).new he2) ⟨e, [v], rfl, ⟨hc, .inr ⟨v, d, nm, rfl, hf, hno, ⟨upd_same, o1, fun ps z => exo_tbl z⟩, ⟨by rw [upd_ne hde, upd_same], o2, fun ps z => by
    have z' : HO.ext _ = HO.tbl ps := z
    cases z'⟩⟩⟩, ⟨v, [], rfl, r.step (h1.trans h2), rfl⟩⟩
theorem s_exm {n : Nat} {x : Str} {c f : Nat} {e : Expr} {p pos : Pos} {ma : Env → M PV} (hK : R.K = X.K) (F : ExmF X.prog X.K X.mg R x c f) (hr : Room (n + 1) X.A) (hg : Gl X x) (he : PE X e (tM R G W ma))
    (hs : starEach [e] X.env = (false, eval e X.env) :: starEach [] X.env) (hdb : (x == ("__debug__" : Str)) = false) : PE X (.Call (.Name x p) [e] [] pos) (tM R G W fun ρ => M.bnd (ma ρ) fun v => M.ret (.exn c f [v])) := by
  obtain ⟨fI, fd, y, nm, h1, T, b1, b2⟩ := F.ex
  refine ⟨fun pins s σ H Q I ⟨φ, st, ρ, S, E, Tb, h⟩ => ?_⟩
  refine wpAny_Call_Name_kw (ld_glob I hg F.gm ?_ hdb)
  refine PySem.W.callWith_K (h₀ := X.base) I.ok.mod.kin F.kC ?_ hs rfl
  rw [hs]
  show wpAny _ _ (spliced ((false, eval e X.env) :: backTo pos (starEach [] X.env))) _ _ s
  refine Calls.spliced_cons (thn (he.run pins s σ H _ I (tM.then (f := fun ρ v => M.ret (PV.exn c f [v])) (Q1 := fun v H1 => ∃ φ1 st1 d, RepS R φ1 st1 H1 ∧ Tbs R H1 ∧ RepV R φ1 H1 d v ∧ Post R W σ φ1 H1 (RepV R) (M.ret (PV.exn c f [d]) st1) Q) S E Tb h fun φ1 st1 d v H1 s1 S1 E1 T1 r1 p1 => ⟨φ1, st1, d, S1, T1, r1, p1⟩)) fun u s1 ⟨v, H1, I1, ru, φ1, st1, d0, S1, T1, r1, p1⟩ => ?_)
  refine Calls.spliced_nil ⟨I1.kIn, ?_⟩
  show wpAny _ _ (call (.ref (R.cad c)) [u]) _ _ _
  refine exn_make T hr F.su F.top I1 (show 1 ≤ sizeLine by rw [sizeLine_eq]; omega) ru (fun e s' => b1 e u s') fun a d s' ha hd hda J => ?_
  have hno := T.no
  rw [← hK] at hno
  exact ⟨.ref a, _, J, rfl, exn_rep S1 T1 F.mem h1 hno ha hd hda r1 fun φ' H' a b c r => p1 φ' H' _ a b c r⟩
theorem s_exmK {n : Nat} {x nm : Str} {c f : Nat} {e : Expr} {p pos kp : Pos} {ma : Env → M PV} (hK : R.K = X.K) (F : ExmF X.prog X.K X.mg R x c f) (hnm : R.fld.lookup f = some nm) (hr : Room (n + 1) X.A) (hg : Gl X x) (he : PE X e (tM R G W ma))
    (hall : (backToKw pos (keywordEach [⟨some nm, e, kp⟩] X.env)).all (·.1.isSome) = true) (hks : (backToKw pos (keywordEach [⟨some nm, e, kp⟩] X.env)).filterMap (·.1) = [nm]) (hdb : (x == ("__debug__" : Str)) = false)
    (hpl : ((backTo pos (starEach [] X.env)).any (·.1) || (backToKw pos (keywordEach [⟨some nm, e, kp⟩] X.env)).any (·.1.isNone)) = false) : PE X (.Call (.Name x p) [] [⟨some nm, e, kp⟩] pos) (tM R G W fun ρ => M.bnd (ma ρ) fun v => M.ret (.exn c f [v])) := by
  obtain ⟨fI, fd, y, nm', h1, T, b1, b2⟩ := F.ex
  rw [hnm] at h1
  cases h1
  refine ⟨fun pins s σ H Q I ⟨φ, st, ρ, S, E, Tb, h⟩ => ?_⟩
  refine wpAny_Call_Name_kw (ld_glob I hg F.gm ?_ hdb)
  refine PySem.W.callWith_KW0 (h₀ := X.base) I.ok.mod.kin F.kC hall ?_ hpl
  have hkw : PK X [⟨some nm, e, kp⟩] (tMA' R G W fun ρ => M.bnd (ma ρ) fun x => M.bnd (M.ret []) fun xs => M.ret (x :: xs)) := k_cons he k_nil
  have h : Post R W σ φ H (RepV R) (M.bnd (ma ρ) (fun v => M.ret (PV.exn c f [v])) st) Q := h
  refine thn (hkw.run pos pins s σ H (fun zs H1 => ∃ v φ1 st1 d, zs = [v] ∧ RepS R φ1 st1 H1 ∧ Tbs R H1 ∧ RepV R φ1 H1 d v ∧ Post R W σ φ1 H1 (RepV R) (M.ret (PV.exn c f [d]) st1) Q) I ⟨φ, st, ρ, S, E, Tb, ?_⟩) fun ws s1 ⟨zs, H1, I1, rz, v, φ1, st1, d0, ez, S1, T1, r1, p1⟩ => ⟨I1.kIn, ?_⟩
  · have h2 := Post.bnd (A := RepV R) h
    cases q : ma ρ st with
    | ok d st' =>
      rw [q] at h2
      show Post R W σ φ H (RepL R) (M.bnd (ma ρ) (fun x => M.bnd (M.ret []) fun xs => M.ret (x :: xs)) st) _
      unfold M.bnd
      rw [q]
      intro φ' H' vs a b cc r
      obtain ⟨v, r0, rfl, r1, r2⟩ := r
      obtain rfl : r0 = [] := r2
      obtain ⟨φ1, st1, d1, s1, S1, T1, rr, pp⟩ := h2 φ' H' v a b cc r1
      exact ⟨v, φ1, st1, d1, rfl, S1, T1, rr, pp⟩
    | exc cc vv st' =>
      rw [q] at h2
      show Post R W σ φ H (RepL R) (M.bnd (ma ρ) (fun x => M.bnd (M.ret []) fun xs => M.ret (x :: xs)) st) _
      unfold M.bnd
      rw [q]
      exact h2
    | bad => rw [q] at h2; exact h2.elim
  · subst ez
    rw [hks]
    cases rz with
    | @cons _ u _ ur ru rr =>
      cases rr
      show wpAny _ _ (call (.ref (R.cad c)) [] [(nm, u)]) _ _ _
      refine exn_make T hr F.su F.top I1 (Nat.zero_le _) ru (fun e s' => b2 e u s') fun a d s' ha hd hda J => ?_
      have hno := T.no
      rw [← hK] at hno
      exact ⟨.ref a, _, J, rfl, exn_rep S1 T1 F.mem hnm hno ha hd hda r1 fun φ' H' a b c r => p1 φ' H' _ a b c r⟩
theorem s_exm0 {x : Str} {c f : Nat} {p pos : Pos} (F : ExmF0 X.K X.mg R x c) (hg : Gl X x) (hdb : (x == ("__debug__" : Str)) = false) : PE X (.Call (.Name x p) [] [] pos) (tM R G W fun ρ => M.ret (.exn c f [])) := by
  obtain ⟨bmB, FB, q⟩ := F.ex
  refine ⟨fun pins s σ H Q I ⟨φ, st, ρ, S, E, Tb, h⟩ => ?_⟩
  refine wpAny_Call_Name_kw (ld_glob I hg F.gm ?_ hdb)
  refine PySem.W.callWith_K0 I.kIn F.kC ?_
  show wpAny _ _ (call (.ref (R.cad c)) []) _ _ _
  obtain ⟨bm, N, nm, qn, bs, hdct, sn, sub, ab, col, dd, k0, k1, k2, k3, k5, mN, hC, hN, hni, T⟩ := exc_obj I.kIn q
  refine wpAny_call_exc_subT FB T hC hN hni (fun h' a hm => ?_) (Nat.zero_le _)
  have hn : H a = none := I.hok.gone hm.new
  obtain ⟨t, ht, _, _⟩ := hm.there
  exact ⟨.ref a, upd H a (exo a (R.cad c) none), I.laidN hm.keeps hm.new hn (exo_ok ht), rfl, h φ _ _ (step_new hn) (S.new hn) (Tb.new hn) ⟨a, [], rfl, ⟨F.mem, .inl ⟨rfl, upd_same, S.fresh hn, fun ps z => exo_tbl z⟩⟩, rfl⟩⟩
end
end Mp
namespace Mp
open PySem PySem.Spec PyProof.Rows L2
structure Sc where
  N : List Str
  sc : Scope
  vs : List Nat
  blk : Bool
  cells : Str → Bool
  qual : Str
  lamb : Bool
def relS (scope sc : Scope) : Scope := { scope with names := scope.names.map fun p => if (p.2 == NameKind.free && sc.kind == .function && sc.names.lookup p.1 == some .cell) then (p.1, NameKind.cell) else p }
def Sc.inner (S : Sc) (scope : Scope) (own : List Nat) : Sc := ⟨S.N, relS scope S.sc, own, true, fun x => scope.names.lookup x == some NameKind.cell, S.qual, false⟩
structure Dt where
  defn : List (Str × Nat)
  glob : List (Str × Nat)
  cls : List (Str × Nat)
  blt : List Str
  dfl : List (Nat × List PV)
  fld : List (Nat × Str)
  clsI : List (Nat × Nat)
  caps : List (Nat × List Nat)
  tabs : List (Addr × Str)
  exm : List (Str × (Nat × Nat))
  exm0 : List (Str × Nat)
  xty : List (Str × (Bool × List Nat))
  lm : Nat → LamD → Bool
def notStar : Expr → Bool
  | .Starred _ _ => false
  | _ => true
def notSlc : Expr → Bool
  | .Slice _ _ _ _ => false
  | _ => true
def notSet : Expr → Bool
  | .Set _ _ _ => false
  | _ => true
def notCall0 : Expr → Bool
  | .Call (.Name _ _) [] [] _ => false
  | _ => true
def plainT : Expr → Bool
  | .UnaryOp .Not _ _ => false
  | .BoolOp _ _ _ => false
  | .IfExp _ _ _ _ => false
  | .Compare _ _ _ _ => false
  | _ => true
def notComp : Expr → Bool
  | .ListComp _ _ _ _ => false
  | .SetComp _ _ _ _ => false
  | .DictComp _ _ _ _ _ => false
  | _ => true
def isTup : Expr → Bool
  | .Tuple _ _ _ => true
  | _ => false
def okN (x : Str) : Bool := (x == ("__debug__" : Str)) == false && (x == ("__classdict__" : Str)) == false && decide (x ≠ "__name__")
def visB (S : Sc) (x : Str) : Bool := match S.sc.names.lookup x with
  | some .local => true
  | some .cell => true
  | some .free => true
  | _ => false
def glB (S : Sc) (x : Str) : Bool := match S.sc.names.lookup x with
  | some .globalImplicit => true
  | _ => false
def slot (S : Sc) (i : Nat) (x : Str) : Bool := decide (S.N[i]? = some x)
def cstB : Const → PV → Bool
  | .none, .non => true
  | .bool a, .bl b => a == b
  | .int i, .int j => i == j
  | .str x, .str y => x == y && okS y
  | _, _ => false
def opB : Bop → Operator → Bool
  | .add, .Add => true
  | .sub, .Sub => true
  | .mul, .Mult => true
  | .fdiv, .FloorDiv => true
  | .mod, .Mod => true
  | .pow, .Pow => true
  | _, _ => false
def copB : Cop → CmpOp → Bool
  | .eq, .Eq => true
  | .ne, .NotEq => true
  | .lt, .Lt => true
  | .le, .LtE => true
  | .gt, .Gt => true
  | .ge, .GtE => true
  | .is, .Is => true
  | .isnot, .IsNot => true
  | .in_, .In => true
  | .notin, .NotIn => true
  | _, _ => false
def bfN : Bf → Option Str
  | .len => some "len"
  | .abs => some "abs"
  | .int => some "int"
  | .divmod => some "divmod"
  | .min2 => some "min"
  | .max2 => some "max"
  | .sum => some "sum"
  | .all => some "all"
  | .any => some "any"
  | .minL => some "min"
  | .maxL => some "max"
  | .sorted => some "sorted"
  | .list => some "list"
  | .tuple => some "tuple"
  | .str => none
def bltB (D : Dt) (S : Sc) (x : Str) : Bool := D.blt.contains x && glB S x && okN x
def tyE (D : Dt) (S : Sc) : Ty → Expr → Bool
  | .int, .Name x _ => decide (x = "int") && bltB D S x
  | .bool, .Name x _ => decide (x = "bool") && bltB D S x
  | .str, .Name x _ => decide (x = "str") && bltB D S x
  | .tup, .Name x _ => decide (x = "tuple") && bltB D S x
  | .lst, .Name x _ => decide (x = "list") && bltB D S x
  | .dct, .Name x _ => decide (x = "dict") && bltB D S x
  | .own c, .Name x _ => decide (D.cls.lookup x = some c) && glB S x && okN x
  | .xc cs, .Name x _ => (decide (D.xty.lookup x = some (true, cs)) && bltB D S x) || (decide (D.xty.lookup x = some (false, cs)) && glB S x && okN x)
  | _, _ => false
def bmNm : Bm → Option Str
  | .append => some "append"
  | .extend => some "extend"
  | .pop => some "pop"
  | .split => some "split"
  | _ => none
def esLen : Es → Nat
  | .nil => 0
  | .cons _ r => esLen r + 1
def lamOf (D : Dt) (S : Sc) (k : Nat) (params : Arguments) (body : Expr) (scope : Scope) : LamD := ⟨S.qual ++ "<lambda>", params, body, scope, ((D.caps.lookup k).getD []).filterMap fun j => S.N[j]?⟩
def lamB (D : Dt) (S : Sc) (k : Nat) (params : Arguments) (body : Expr) (scope : Scope) : Bool := (D.caps.lookup k).isSome && decide (((D.caps.lookup k).getD []).map (fun j => S.N[j]?) = (lamOf D S k params body scope).fr.map some) &&
  D.lm k (lamOf D S k params body scope) && NdefX.ndefB S.sc scope (lamOf D S k params body scope).fr && params.defaults.isEmpty && params.kw_defaults.isEmpty
variable (D : Dt)
mutual
def chkE (S : Sc) : E → Expr → Bool
  | .var i, e => (match e with
    | .Name x _ => slot S i x && visB S x && okN x
    | _ => false)
  | .cst c, e => (match e with
    | .Constant k _ _ => cstB k c
    | _ => false)
  | .glo g, e => (match e with
    | .Name x _ => decide (D.glob.lookup x = some g) && glB S x && okN x
    | _ => false)
  | .bin o m a b, e => (match e with
    | .BinOp l op r _ => opB o op && chkE S a l && chkE S b r
    | _ => false)
  | .neg a, e => (match e with
    | .UnaryOp .USub l _ => chkE S a l
    | _ => false)
  | .cmp o a b, e => (match e with
    | .Compare l [op] [r] _ => copB o op && notSet r && chkE S a l && chkE S b r
    | _ => false)
  | .chn o o' a b c, e => (match e with
    | .Compare l [op, op'] [r, r'] _ => copB o op && copB o' op' && notSet r' && chkE S a l && chkE S b r && chkE S c r'
    | _ => false)
  | .and a b, e => (match e with
    | .BoolOp .And (v :: w :: []) p => chkE S a v && chkE S b w
    | .BoolOp .And (v :: w :: u :: r) p => chkE S a v && chkE S b (.BoolOp .And (w :: u :: r) p)
    | _ => false)
  | .or a b, e => (match e with
    | .BoolOp .Or (v :: w :: []) p => chkE S a v && chkE S b w
    | .BoolOp .Or (v :: w :: u :: r) p => chkE S a v && chkE S b (.BoolOp .Or (w :: u :: r) p)
    | _ => false)
  | .not a, e => (match e with
    | .UnaryOp .Not l _ => chkE S a l
    | _ => false)
  | .ite c a b, e => (match e with
    | .IfExp t x y _ => chkT S c t && chkE S a x && chkE S b y
    | _ => false)
  | .tup es, e => (match e with
    | .Tuple xs _ _ => chkEs S es xs
    | _ => false)
  | .lst m es, e => (match e with
    | .List xs _ => chkEs S es xs
    | _ => false)
  | .dct .nil .nil, e => (match e with
    | .Dict [] [] _ => true
    | _ => false)
  | .ix a i, e => (match e with
    | .Subscript l r _ => notSlc r && chkE S a l && chkE S i r
    | _ => false)
  | .dget a i, e => (match e with
    | .Subscript l r _ => notSlc r && chkE S a l && chkE S i r
    | _ => false)
  | .slc m a lo hi, e => (match e with
    | .Subscript l (.Slice x y none _) _ => chkE S a l && chkO S lo x && chkO S hi y
    | _ => false)
  | .atr a f, e => (match e with
    | .Attribute l nm _ => decide (D.fld.lookup f = some nm) && notCall0 l && chkE S a l
    | _ => false)
  | .call k es dv, e => (match e with
    | .Call (.Name x _) xs [] _ => decide (D.defn.lookup x = some k) && glB S x && okN x && xs.all notStar && decide (dv = ((D.dfl.lookup k).getD []).drop (((D.dfl.lookup k).getD []).length - dv.length)) && chkA S es xs
    | _ => false)
  | .callV i es, e => (match e with
    | .Call (.Name x _) (y :: xs) [] _ => !S.blk && slot S i x && visB S x && okN x && (y :: xs).all notStar && chkEs S es (y :: xs)
    | _ => false)
  | .mk c es, e => (match e with
    | .Call (.Name x _) (y :: xs) [] _ => decide (D.cls.lookup x = some c) && glB S x && okN x && (y :: xs).all notStar && chkEs S es (y :: xs)
    | _ => false)
  | .exm c f (.cons a .nil), e => (match e with
    | .Call (.Name x _) [l] [] _ => decide (D.exm.lookup x = some (c, f)) && glB S x && okN x && notStar l && chkE S a l
    | .Call (.Name x _) [] [⟨some nm, l, _⟩] _ => decide (D.exm.lookup x = some (c, f)) && decide (D.fld.lookup f = some nm) && glB S x && okN x && chkE S a l
    | _ => false)
  | .exm c f .nil, e => (match e with
    | .Call (.Name x _) [] [] _ => decide (D.exm0.lookup x = some c) && glB S x && okN x
    | _ => false)
  | .bf f m es, e => (match e with
    | .Call (.Name x _) (y :: xs) [] _ => decide (bfN f = some x) && bltB D S x && (y :: xs).all notStar && chkEs S es (y :: xs)
    | _ => false)
  | .isi a t, e => (match e with
    | .Call (.Name x _) [l, c] [] _ => decide (x = "isinstance") && bltB D S x && notStar l && notStar c && tyE D S t c && chkE S a l
    | _ => false)
  | .bm f m o es, e => (match e with
    | .Call (.Attribute l nm ap) xs [] cp => decide (bmNm f = some nm) && notCall0 l && xs.all notStar && decide (xs.length < 30) && (ap.endLine == cp.line) && chkE S o l && chkEs S es xs
    | _ => false)
  | .lc m own g it c x, e => (match e with
    | .ListComp elt [⟨tg, iter, ifs, k⟩] scope _ => decide (k = 0) && !S.blk && blkC S.N S.sc scope (own.filterMap fun i => (S.N[i]?).map fun y => (y, i)) && decide (own = (own.filterMap fun i => (S.N[i]?).map fun y => (y, i)).map (·.2)) && notSet iter && chkI S it tg iter &&
        chkG (S.inner scope own) g tg && chkC (S.inner scope own) c ifs && chkE (S.inner scope own) x elt
    | _ => false)
  | _, _ => false
def chkA (S : Sc) : As → List Expr → Bool
  | .nil, es => (match es with
    | [] => true
    | _ => false)
  | .cons a r, es => (match es with
    | e :: es => chkE S a e && chkA S r es
    | [] => false)
  | .fvar i r, es => (match es with
    | .Name x _ :: es => !S.blk && slot S i x && visB S x && okN x && chkA S r es
    | _ => false)
  | .lam k r, es => (match es with
    | .Lambda params body scope _ :: es => !S.blk && S.lamb && lamB D S k params body scope && chkA S r es
    | _ => false)
def chkT (S : Sc) : T → Expr → Bool
  | .of a, e => plainT e && chkE S a e
  | .cmp o a b, e => (match e with
    | .Compare l [op] [r] _ => copB o op && notSet r && chkE S a l && chkE S b r
    | _ => false)
  | .chn o o' a b c, e => (match e with
    | .Compare l [op, op'] [r, r'] _ => copB o op && copB o' op' && notSet r' && chkE S a l && chkE S b r && chkE S c r'
    | _ => false)
  | .and a b, e => (match e with
    | .BoolOp .And (v :: w :: []) p => chkT S a v && chkT S b w
    | .BoolOp .And (v :: w :: u :: r) p => chkT S a v && chkT S b (.BoolOp .And (w :: u :: r) p)
    | _ => false)
  | .or a b, e => (match e with
    | .BoolOp .Or (v :: w :: []) p => chkT S a v && chkT S b w
    | .BoolOp .Or (v :: w :: u :: r) p => chkT S a v && chkT S b (.BoolOp .Or (w :: u :: r) p)
    | _ => false)
  | .not a, e => (match e with
    | .UnaryOp .Not l _ => chkT S a l
    | _ => false)
def chkC (S : Sc) : OT → List Expr → Bool
  | .non, es => (match es with
    | [] => true
    | _ => false)
  | .som c, es => (match es with
    | [e] => chkT S c e
    | _ => false)
def chkO (S : Sc) : OE → Option Expr → Bool
  | .non, e => (match e with
    | none => true
    | _ => false)
  | .som a, e => (match e with
    | some e => chkE S a e
    | none => false)
def chkEs (S : Sc) : Es → List Expr → Bool
  | .nil, es => (match es with
    | [] => true
    | _ => false)
  | .cons a r, es => (match es with
    | e :: es => notStar e && chkE S a e && chkEs S r es
    | [] => false)
def chkG (S : Sc) : Tg → Expr → Bool
  | .name i, e => (match e with
    | .Name x _ => decide (i ∈ S.vs) && slot S i x && (match S.sc.names.lookup x with
      | some .local => true
      | some .cell => S.cells x
      | _ => false)
    | _ => false)
  | .tup gs, e => (match e with
    | .Tuple es _ _ => es.all notStar && chkGs S gs es
    | _ => false)
  | .sub o i, e => (match e with
    | .Subscript l r _ => notSlc r && chkE S o l && chkE S i r
    | _ => false)
  | _, _ => false
def chkGs (S : Sc) : Tgs → List Expr → Bool
  | .nil, es => (match es with
    | [] => true
    | _ => false)
  | .cons g r, es => (match es with
    | e :: es => chkG S g e && chkGs S r es
    | [] => false)
def chkI (S : Sc) : It → Expr → Expr → Bool
  | .of a, tg, e => chkE S a e
  | .rng a, tg, e => (match e with
    | .Call (.Name x _) [l] [] _ => decide (x = "range") && bltB D S x && notStar l && chkE S a l
    | _ => false)
  | .rng2 a b, tg, e => (match e with
    | .Call (.Name x _) [l, r] [] _ => decide (x = "range") && bltB D S x && notStar l && notStar r && chkE S a l && chkE S b r
    | _ => false)
  | .enu a, tg, e => (match e with
    | .Call (.Name x _) [l] [] _ => isTup tg && decide (x = "enumerate") && bltB D S x && notStar l && chkE S a l
    | _ => false)
  | .zip a b, tg, e => (match e with
    | .Call (.Name x _) [l, r] [] _ => isTup tg && decide (x = "zip") && bltB D S x && notStar l && notStar r && chkE S a l && chkE S b r
    | _ => false)
  | _, _, _ => false
end
end Mp
namespace Mp
open PySem PySem.Spec PyProof.Rows L2
def tyOfN (n : String) : Option Ty := if n = "int" then some .int else if n = "bool" then some .bool else if n = "str" then some .str else if n = "tuple" then some .tup else if n = "list" then some .lst else if n = "dict" then some .dct else none
structure DefF (X : Cx) (R : Rc) (n : Nat) (x : Str) (dfl : List PV) (m : List PV → M PV) : Prop where
  ex : ∃ (f : Addr) (fd : FuncData) (ps : List Str) (dvs : List V) (dds : List Value), X.mg x = some (.ref f) ∧ PySem.W.keepIn X.K (.ref f) = true ∧ FnM X.prog X.w X.K X.mg X.base R n f fd ps m ∧ (∀ ds st, m ds st ≠ .bad → ds.length = ps.length) ∧
    Vals dvs dds ∧ (∀ hid φ H, RepL (R.h hid) φ H dfl dvs) ∧ ∀ j, Binds X.K fd ps (dds.drop j)
structure Facts (D : Dt) (P : Prog) (C : Call) (R : Rc) (n : Nat) (X : Cx) : Prop where
  hK : R.K = X.K
  cts : R.cts = P.cts
  fld : R.fld = D.fld
  clsI : D.clsI = P.cls
  tabs : R.tabs = D.tabs
  lam : ∀ k L, D.lm k L = true → R.lam k L
  caps : ∀ k js, D.caps.lookup k = some js → ∃ l, P.lams.lookup k = some l ∧ l.caps = js
  defn : ∀ x k, D.defn.lookup x = some k → DefF X R (n + 1) x ((D.dfl.lookup k).getD []) (C.def_ k)
  glob : ∀ x g, D.glob.lookup x = some g → ∃ d v u, P.globs.lookup g = some d ∧ X.mg x = some u ∧ RelV v u ∧ ∀ hid φ H, RepV (R.h hid) φ H d v
  blt : ∀ x, D.blt.contains x = true → X.mg x = none
  mkc : ∀ x c, D.cls.lookup x = some c → X.mg x = some (.ref (R.cad c)) ∧ ∃ f fd ps m, Mk X.K (R.cad c) f ∧ FnM X.prog X.w X.K X.mg X.base R n f fd ps m ∧ (∀ ds st, m ds st ≠ .bad → ds.length = ps.length) ∧ Binds X.K fd ps [] ∧ C.make c = mkM m c
  clo : CloM X.prog X.w X.K X.mg X.base R (n + 1) C.clo
  cls : ClsOk R P.flds
  prop : ∀ c g j, P.props.lookup (c, g) = some j → PropM X.prog X.w X.K X.mg X.base R n c g (C.low j)
  isa : ∀ n ∈ ["int", "bool", "str", "tuple", "list", "dict"], ∀ t, tyOfN n = some t → IsaF R P.cls t (.type n)
  isaO : ∀ x c, D.cls.lookup x = some c → IsaF R P.cls (.own c) (.ref (R.cad c))
  xcl : XclOk R
  exm : ∀ x c f, D.exm.lookup x = some (c, f) → ExmF X.prog X.K X.mg R x c f
  exm0 : ∀ x c, D.exm0.lookup x = some c → ExmF0 X.K X.mg R x c
  xtyB : ∀ x cs, D.xty.lookup x = some (true, cs) → ∃ n : String, bootBuiltins x = some (.type n) ∧ IsaF R P.cls (.xc cs) (.type n)
  xtyO : ∀ x cs, D.xty.lookup x = some (false, cs) → ∃ a : Addr, X.mg x = some (.ref a) ∧ IsaF R P.cls (.xc cs) (.ref a)
theorem FnM.h {P : Program} {w : World} {K : PySem.W.Frag} {mg : Str → Option Value} {base : Heap} {R : Rc} {hid : List Addr} {k : Nat} {f : Addr} {fd : FuncData} {ps : List Str} {m : List PV → M PV} (F : FnM P w K mg base R k f fd ps m) : FnM P w K mg base (R.h hid) k f fd ps m := ⟨F.run⟩
theorem ClsOk.h {R : Rc} {hid : List Addr} {fl : List (Nat × List Nat)} (c : ClsOk R fl) : ClsOk (R.h hid) fl := ⟨c.cls, c.inj⟩
theorem IsaF.h {R : Rc} {hid : List Addr} {cl : List (Nat × Nat)} {t : Ty} {u : Value} (c : IsaF R cl t u) : IsaF (R.h hid) cl t u := ⟨c.ty, c.ins, c.exn⟩
theorem XclOk.h {R : Rc} {hid : List Addr} (c : XclOk R) : XclOk (R.h hid) := c
theorem ExmF.h {prog : Program} {K : PySem.W.Frag} {mg : Str → Option Value} {R : Rc} {hid : List Addr} {x : Str} {c f : Nat} (F : ExmF prog K mg R x c f) : ExmF prog K mg (R.h hid) x c f := ⟨F.mem, F.gm, F.kC, F.su, F.top, F.ex⟩
theorem ExmF0.h {K : PySem.W.Frag} {mg : Str → Option Value} {R : Rc} {hid : List Addr} {x : Str} {c : Nat} (F : ExmF0 K mg R x c) : ExmF0 K mg (R.h hid) x c := ⟨F.mem, F.gm, F.kC, F.ex⟩
section
variable {D : Dt} {P : Prog} {C : Call} {R : Rc} {n : Nat} {X : Cx}
theorem DefF.h {hid : List Addr} {x : Str} {dfl : List PV} {m : List PV → M PV} (F : DefF X R n x dfl m) : DefF X (R.h hid) n x dfl m := by
  obtain ⟨f, fd, ps, dvs, dds, h1, h2, h3, h4, h5, h6, h7⟩ := F.ex
  exact ⟨f, fd, ps, dvs, dds, h1, h2, h3.h, h4, h5, h6, h7⟩
theorem PropM.h {hid : List Addr} {k c f : Nat} {m : List PV → M PV} (F : PropM X.prog X.w X.K X.mg X.base R k c f m) : PropM X.prog X.w X.K X.mg X.base (R.h hid) k c f m := by
  obtain ⟨p, g, fd, ps, h1, h2, h3, h4, h5⟩ := F.ex
  exact ⟨p, g, fd, ps, h1, h2, h3.h, h4, h5⟩
theorem Facts.h {hid : List Addr} (F : Facts D P C R n X) : Facts D P C (R.h hid) n X where
  hK := F.hK
  cts := F.cts
  fld := F.fld
  clsI := F.clsI
  tabs := F.tabs
  lam := F.lam
  caps := F.caps
  defn := fun x k h => (F.defn x k h).h
  glob := F.glob
  blt := F.blt
  mkc := fun x c h => by
    obtain ⟨h1, f, fd, ps, m, h2, h3, h4, h5, h6⟩ := F.mkc x c h
    exact ⟨h1, f, fd, ps, m, h2, h3.h, h4, h5, h6⟩
  clo := fun hid' => F.clo hid'
  cls := F.cls.h
  prop := fun c g j h => (F.prop c g j h).h
  isa := fun n hn t ht => (F.isa n hn t ht).h
  isaO := fun x c h => (F.isaO x c h).h
  xcl := F.xcl.h
  exm := fun x c f h => (F.exm x c f h).h
  exm0 := fun x c h => (F.exm0 x c h).h
  xtyB := fun x cs h => by
    obtain ⟨n, h1, h2⟩ := F.xtyB x cs h
    exact ⟨n, h1, h2.h⟩
  xtyO := fun x cs h => by
    obtain ⟨a, h1, h2⟩ := F.xtyO x cs h
    exact ⟨a, h1, h2.h⟩
theorem Facts.blk {s : Shared} {H : Hp} {scope : Scope} {ce : PySem.Env} {fp : List Addr} (F : Facts D P C R n X) : Facts D P C R n (X.blk s H scope ce fp) where
  hK := F.hK
  cts := F.cts
  fld := F.fld
  clsI := F.clsI
  tabs := F.tabs
  lam := F.lam
  caps := F.caps
  defn := fun x k h => ⟨(F.defn x k h).ex⟩
  glob := F.glob
  blt := F.blt
  mkc := F.mkc
  clo := F.clo
  cls := F.cls
  prop := F.prop
  isa := F.isa
  isaO := F.isaO
  xcl := F.xcl
  exm := F.exm
  exm0 := F.exm0
  xtyB := F.xtyB
  xtyO := F.xtyO
end
def noLam (D : Dt) : Dt := { D with lm := fun _ _ => false }
theorem Facts.noLam {D : Dt} {P : Prog} {C : Call} {R : Rc} {n : Nat} {X : Cx} (F : Facts D P C R n X) : Facts (Mp.noLam D) P C R n X :=
  { F with lam := fun k L h => (by cases h) }
structure Ctx (D : Dt) (S : Sc) (n : Nat) (X : Cx) (W : WX) : Prop where
  N : X.N = S.N
  sc : X.env.scope = S.sc
  nd : X.N.Nodup
  calm : X.calm = true
  room : Room (n + 1) X.A
  ex : S.blk = false → X.ex = []
  fnc : ∀ x, S.cells x = true → X.fn x = true
  tk : Takes X W
  qual : X.env.qual = S.qual
  tab : S.lamb = true → ∃ c P, LamX.TabB X.base X.mg c P ∧ X.env.code = .ref c ∧ (P, X.env.qual ++ "<lambda>") ∈ D.tabs ∧ ∀ p ∈ D.tabs, p.1 = P → p.2 = X.env.qual ++ "<lambda>"
  cf : S.lamb = true → ∀ (pins : List (Addr × Obj)) (σ : L2.St) (H : Hp) (s : Shared), Inv X pins σ H s → ∀ y c, X.env.cells.lookup y = some c → c ∉ X.fs
  po : PassesOwn (model X.prog X.w) X.A X.env X.xe
theorem Ctx.inBlk {D : Dt} {S : Sc} {n : Nat} {X : Cx} {W : WX} (c : Ctx D S n X W) {scope : Scope} {own : List Nat} {s : Shared} {H : Hp} {C : Addr} {cl : List (Str × Addr)} {fp : List Addr} : Ctx D (S.inner scope own) n (X.blk s H scope (compEnvC scope cl C X.env) fp) W0 where
  N := c.N
  sc := by
    show relabel scope X.env = relS scope S.sc
    rw [← c.sc]
    rfl
  nd := c.nd
  calm := c.calm
  room := c.room
  ex := fun h => by cases h
  fnc := fun x h => h
  tk := fun u s' h => by
    obtain ⟨_, _, _, _, _, _, _, _, _, _, _, _, _, _, _, _, z⟩ := h
    exact z.elim
  qual := c.qual
  tab := fun h => by cases h
  cf := fun h => by cases h
  po := PassesOwn.never
theorem RepX.g0 {R : Rc} {G : Gm} {φ : List Addr} {H : Hp} {d : PV} {v : V} (h : RepX R g0 φ H d v) : RepX R G φ H d v := by
  cases d with
  | clo k cs =>
    obtain ⟨f, vs, _, ⟨L, cl, c, pm, ctv, _, h2, _⟩, _⟩ := h
    exact absurd h2 (by simp [Mp.g0, Heap.get?])
  | _ => exact h
theorem RepE.g0 {R : Rc} {G : Gm} {φ : List Addr} {H : Hp} {ρ : Env} {σ : L2.St} (h : RepE R g0 φ H ρ σ) : RepE R G φ H ρ σ := ⟨h.len, fun i d e => by
  obtain ⟨v, a, b⟩ := h.at_ i d e
  exact ⟨v, a, b.g0⟩⟩
theorem PE.g0 {X : Cx} {R : Rc} {G : Gm} {W : WX} {e : Expr} {m : Env → M PV} (h : PE X e (tM R G W m)) : PE X e (tM R g0 W m) := h.imp fun σ H Q ⟨φ, st, ρ, S, E, T, p⟩ => ⟨φ, st, ρ, S, E.g0, T, p⟩
theorem PTs.g0 {X : Cx} {R : Rc} {G : Gm} {W : WX} {e : List Expr} {m : Env → M Bool} (h : PTs X e (tMT R G W m)) : PTs X e (tMT R g0 W m) := h.imp fun σ H Q ⟨φ, st, ρ, S, E, T, p⟩ => ⟨φ, st, ρ, S, E.g0, T, p⟩
end Mp
namespace Mp
open PySem PySem.Spec PyProof.Rows L2
section
variable {D : Dt} {P : Prog} {C : Call} {R : Rc} {n : Nat} {X : Cx} {S : Sc} {W : WX}
theorem Ctx.vis (c : Ctx D S n X W) {x : Str} (h : visB S x = true) : Vis X.env.scope x := by
  unfold visB at h
  unfold Vis
  rw [c.sc]
  split at h
  · rename_i q; exact .inl q
  · rename_i q; exact .inr (.inl q)
  · rename_i q; exact .inr (.inr q)
  · cases h
theorem Ctx.gl (c : Ctx D S n X W) {x : Str} (h : glB S x = true) : Gl X x := by
  unfold glB at h
  show X.env.scope.names.lookup x = some .globalImplicit
  rw [c.sc]
  split at h
  · rename_i q; exact q
  · cases h
theorem Ctx.slot (c : Ctx D S n X W) {x : Str} {i : Nat} (h : slot S i x = true) : X.N[i]? = some x := by
  rw [c.N]
  exact of_decide_eq_true h
theorem okN_1 {x : Str} (h : okN x = true) : (x == ("__debug__" : Str)) = false := by
  unfold okN at h
  simp only [Bool.and_eq_true, beq_iff_eq] at h
  exact h.1.1
theorem okN_2 {x : Str} (h : okN x = true) : (x == ("__classdict__" : Str)) = false := by
  unfold okN at h
  simp only [Bool.and_eq_true, beq_iff_eq] at h
  exact h.1.2
theorem okN_3 {x : Str} (h : okN x = true) : x ≠ "__name__" := by
  unfold okN at h
  simp only [Bool.and_eq_true, decide_eq_true_eq] at h
  exact h.2
theorem Facts.bltn (F : Facts D P C R n X) (c : Ctx D S n X W) {x : Str} (h : bltB D S x = true) : Gl X x ∧ X.mg x = none ∧ okN x = true := by
  unfold bltB at h
  simp only [Bool.and_eq_true] at h
  exact ⟨c.gl h.1.2, F.blt x h.1.1, h.2⟩
theorem star_cons {a : Expr} {es : List Expr} {env : PySem.Env} (h : notStar a = true) : starEach (a :: es) env = (false, eval a env) :: starEach es env := by
  cases a <;> first | rfl | cases h
theorem star_any {pos : Pos} {env : PySem.Env} : ∀ {es : List Expr}, es.all notStar = true → (backTo pos (starEach es env)).any (·.1) = false
  | [], _ => rfl
  | a :: es, h => by
    rw [List.all_cons, Bool.and_eq_true] at h
    rw [star_cons h.1]
    show (false || (backTo pos (starEach es env)).any (·.1)) = false
    rw [star_any h.2]
    rfl
theorem notSet_ok {op : CmpOp} {e : Expr} (h : notSet e = true) : behindInMarks op e = false := by
  cases e <;> first | rfl | cases h
theorem notSet_fold {e : Expr} {env : PySem.Env} (h : notSet e = true) : ∀ x, foldedSetIterable e env x = pure x := by
  intro x
  cases e <;> first | rfl | cases h
theorem notSlc_ok {e : Expr} (h : notSlc e = true) : PlainIx e := by
  intro o i
  cases e <;> first | rfl | cases h
theorem plainT_ok {e : Expr} {env : PySem.Env} (h : plainT e = true) : ∀ whole, isTrue e env whole = (do let v ← whole; standAt e.pos; holding [v] (truthy v)) := by
  intro whole
  cases e with
  | UnaryOp op x p => cases op <;> first | rfl | cases h
  | _ => first | rfl | cases h
theorem notCall0_ok {e : Expr} {f : Str} {env : PySem.Env} (h : notCall0 e = true) : attributeBase e f env (eval e env) = eval e env := by
  cases e with
  | Call g as ks p =>
    cases g with
    | Name y q =>
      cases as with
      | nil =>
        cases ks with
        | nil => cases h
        | cons k ks => rfl
      | cons a as => rfl
    | _ => rfl
  | _ => rfl
theorem cst_ok {k : Const} {d : PV} {j : Nat} {pos : Pos} {G : Gm} (h : cstB k d = true) : PE X (.Constant k j pos) (tM R G W fun _ => M.ret d) := by
  cases k <;> cases d <;> first
    | (cases h; done)
    | skip
  · exact s_cst pe_non fun _ _ => rfl
  · have e := eq_of_beq (show (_ == _) = true from h)
    subst e
    exact s_cst pe_bl fun _ _ => rfl
  · have e := eq_of_beq (show (_ == _) = true from h)
    subst e
    exact s_cst pe_int fun _ _ => rfl
  · unfold cstB at h
    rw [Bool.and_eq_true] at h
    have e := eq_of_beq h.1
    subst e
    exact s_cst pe_str fun _ _ => ⟨rfl, h.2⟩
theorem op_ok {o : Bop} {op : Operator} (F : Facts D P C R n X) (m : Bool) (h : opB o op = true) : OpR X (binaryOp op) (rM R (binV o m)) := by
  cases o <;> cases op <;> first
    | (cases h; done)
    | exact add_ok F.hK m
    | exact sub_ok m
    | exact mul_ok m
    | exact fdiv_ok m
    | exact mod_ok m
    | exact pow_ok m
theorem cop_ok {o : Cop} {op : CmpOp} (F : Facts D P C R n X) (c : Ctx D S n X W) (h : copB o op = true) : OpR X (compareOp op) (rMB R (cmpV P.cts o)) := by
  have hu := c.room.units
  cases o <;> cases op <;> first
    | (cases h; done)
    | exact eq_ok F.hK hu
    | exact ne_ok F.hK hu
    | exact lt_ok F.hK hu
    | exact le_ok
    | exact gt_ok
    | exact ge_ok
    | exact is_ok
    | exact isnot_ok
    | (have q := in_ok (R := R) F.hK hu
       rw [F.cts] at q
       exact q)
    | (have q := notin_ok (R := R) F.hK hu
       rw [F.cts] at q
       exact q)
theorem bf_ok {f : Bf} {m : Bool} {x : Str} {pos p : Pos} {e : Expr} {es : List Expr} {ms : Env → M (List PV)} {G : Gm} (F : Facts D P C R n X) (c : Ctx D S n X W) (h : bfN f = some x) (hb : bltB D S x = true) (hs : (e :: es).all notStar = true) (ha : PA X (e :: es) (tMA' R G W ms)) :
    PE X (.Call (.Name x p) (e :: es) [] pos) (tM R G W fun ρ => M.bnd (ms ρ) (bfV f m)) := by
  obtain ⟨hg, hm, hn⟩ := F.bltn c hb
  rw [List.all_cons, Bool.and_eq_true] at hs
  have he := star_cons (es := es) (env := X.env) hs.1
  have hpl := star_any (pos := pos) (env := X.env) hs.2
  have n1 := okN_3 hn
  have n2 := okN_1 hn
  have cl := c.calm
  have hu := c.room.units
  cases f <;> (try cases h)
  · exact s_bf (f_len F.hK) (fun _ => NoX.bfV) hg hm (by decide +kernel) ha n1 n2 he hpl
  · exact s_bf f_abs (fun _ => NoX.bfV) hg hm (by decide +kernel) ha n1 n2 he hpl
  · exact s_bfT f_int (fun _ => NoX.bfV) hg hm (by decide +kernel) ha n1 n2 he hpl
  · exact s_bf f_divmod (fun _ => NoX.bfV) hg hm (by decide +kernel) ha n1 n2 he hpl
  · exact s_bf (f_min2 cl) (fun _ => NoX.bfV) hg hm (by decide +kernel) ha n1 n2 he hpl
  · exact s_bf (f_max2 cl) (fun _ => NoX.bfV) hg hm (by decide +kernel) ha n1 n2 he hpl
  · exact s_bf (f_sum F.hK cl) (fun _ => NoX.bfV) hg hm (by decide +kernel) ha n1 n2 he hpl
  · exact s_bf (f_all F.hK cl) (fun _ => NoX.bfV) hg hm (by decide +kernel) ha n1 n2 he hpl
  · exact s_bf (f_any F.hK cl) (fun _ => NoX.bfV) hg hm (by decide +kernel) ha n1 n2 he hpl
  · exact s_bf (f_minL F.hK cl) (fun _ => NoX.bfV) hg hm (by decide +kernel) ha n1 n2 he hpl
  · exact s_bf (f_maxL F.hK cl) (fun _ => NoX.bfV) hg hm (by decide +kernel) ha n1 n2 he hpl
  · exact s_bf (f_sorted F.hK hu) (fun _ => NoX.bfV) hg hm (by decide +kernel) ha n1 n2 he hpl
  · exact s_bfT (f_list F.hK cl) (fun _ => NoX.bfV) hg hm (by decide +kernel) ha n1 n2 he hpl
  · exact s_bfT (f_tuple F.hK) (fun _ => NoX.bfV) hg hm (by decide +kernel) ha n1 n2 he hpl
theorem vals_drop : ∀ {vs : List V} {us : List Value} (j : Nat), Vals vs us → Vals (vs.drop j) (us.drop j)
  | _, _, 0, h => h
  | _, _, j + 1, .nil => .nil
  | _, _, j + 1, .cons _ h => vals_drop j h
theorem assign_len {env : PySem.Env} : ∀ {es : List Expr}, (assignEach es env).length = es.length
  | [] => rfl
  | e :: es => by
    have h := assign_len (env := env) (es := es)
    cases e <;> (show (assignEach es env).length + 1 = es.length + 1; rw [h])
theorem assign_none {env : PySem.Env} : ∀ {es : List Expr}, es.all notStar = true → (assignEach es env).findIdx? (·.1) = none
  | [], _ => rfl
  | e :: es, h => by
    rw [List.all_cons, Bool.and_eq_true] at h
    have q := assign_none (env := env) h.2
    have e1 : assignEach (e :: es) env = (false, assign e env) :: assignEach es env := by
      cases e <;> first | rfl | cases h.1
    rw [e1, List.findIdx?_cons]
    simp only [Bool.false_eq_true, if_false, q]
    rfl
theorem assign_cons {env : PySem.Env} {e : Expr} {es : List Expr} (h : notStar e = true) : (assignEach (e :: es) env).map (·.2) = assign e env :: (assignEach es env).map (·.2) := by
  cases e <;> first | rfl | cases h
theorem sub_assign {o i : Expr} {pos : Pos} {env : PySem.Env} (h : notSlc i = true) : ∀ v, assign (.Subscript o i pos) env v = (do
      let ov ← holding [v] (eval o env)
      let iv ← holding [v, ov] (eval i env)
      standAt pos
      holding [v, ov, iv] (setItem ov iv v)
      release [v, ov, iv] []) := by
  intro v
  cases i <;> first | rfl | cases h
theorem ty_ok {t : Ty} {c : Expr} (F : Facts D P C R n X) (k : Ctx D S n X W) (h : tyE D S t c = true) : ∃ cv u, IsaF R P.cls t u ∧ ClsV cv u ∧ PE X c (tC cv) := by
  have blt : ∀ (T : String) (x : Str) (p : Pos), c = .Name x p → x = Str.ofString T → T ∈ ["int", "bool", "str", "tuple", "list", "dict"] → tyOfN T = some t → bootBuiltins (Str.ofString T) = some (.type T) → bltB D S x = true → ∃ cv u, IsaF R P.cls t u ∧ ClsV cv u ∧ PE X c (tC cv) := fun T x p ec ex hT ht hb hk => by
    subst ec
    subst ex
    obtain ⟨hg, hm, hn⟩ := F.bltn k hk
    exact ⟨.ty T, .type T, F.isa T hT t ht, .ty T, pe_bltn hg hm hb rfl (okN_3 hn) (okN_1 hn)⟩
  cases c with
  | Name x p =>
    cases t with
    | int => unfold tyE at h; rw [Bool.and_eq_true] at h; exact blt "int" x p rfl (of_decide_eq_true h.1) (by simp) (by rfl) (by decide +kernel) h.2
    | bool => unfold tyE at h; rw [Bool.and_eq_true] at h; exact blt "bool" x p rfl (of_decide_eq_true h.1) (by simp) (by rfl) (by decide +kernel) h.2
    | str => unfold tyE at h; rw [Bool.and_eq_true] at h; exact blt "str" x p rfl (of_decide_eq_true h.1) (by simp) (by rfl) (by decide +kernel) h.2
    | tup => unfold tyE at h; rw [Bool.and_eq_true] at h; exact blt "tuple" x p rfl (of_decide_eq_true h.1) (by simp) (by rfl) (by decide +kernel) h.2
    | lst => unfold tyE at h; rw [Bool.and_eq_true] at h; exact blt "list" x p rfl (of_decide_eq_true h.1) (by simp) (by rfl) (by decide +kernel) h.2
    | dct => unfold tyE at h; rw [Bool.and_eq_true] at h; exact blt "dict" x p rfl (of_decide_eq_true h.1) (by simp) (by rfl) (by decide +kernel) h.2
    | own c =>
      unfold tyE at h
      simp only [Bool.and_eq_true, decide_eq_true_eq] at h
      obtain ⟨h1, _⟩ := F.mkc x c h.1.1
      exact ⟨.ref (R.cad c), .ref (R.cad c), F.isaO x c h.1.1, .own _, pe_glob (k.gl h.1.2) h1 rfl (okN_1 h.2)⟩
    | xc cs =>
      unfold tyE at h
      simp only [Bool.or_eq_true, Bool.and_eq_true, decide_eq_true_eq] at h
      rcases h with ⟨h1, h2⟩ | h
      · obtain ⟨hg, hm, hn⟩ := F.bltn k h2
        obtain ⟨n, b1, b2⟩ := F.xtyB x cs h1
        exact ⟨.ty n, .type n, b2, .ty n, pe_bltn hg hm b1 rfl (okN_3 hn) (okN_1 hn)⟩
      · obtain ⟨a, b1, b2⟩ := F.xtyO x cs h.1.1
        exact ⟨.ref a, .ref a, b2, .own _, pe_glob (k.gl h.1.2) b1 rfl (okN_1 h.2)⟩
  | _ => cases t <;> cases h
theorem DefF.call {x : Str} {p pos : Pos} {e : Expr} {es : List Expr} {ma : Mp.Env → M (List PV)} {m : List PV → M PV} {dfl dv : List PV} (c : Ctx D S n X W) (F : DefF X R (n + 1) x dfl m) (hg : glB S x = true) (hx : okN x = true) (hs : (e :: es).all notStar = true) (hd : dv = dfl.drop (dfl.length - dv.length)) (ha : PX X R W (e :: es) ma) :
    PE X (.Call (.Name x p) (e :: es) [] pos) (tM R (gOf X) W fun ρ => M.bnd (ma ρ) fun xs => m (xs ++ dv)) := by
  obtain ⟨f, fd, ps, dvs, dds, h1, h2, h3, h4, h5, h6, h7⟩ := F.ex
  generalize dfl.length - dv.length = j at hd
  subst hd
  rw [List.all_cons, Bool.and_eq_true] at hs
  exact s_call h3 h4 c.room (c.gl hg) h1 h2 (h7 j) (vals_drop j h5) (fun φ H => (h6 R.hid φ H).drop j) c.tk ha (okN_1 hx) (star_cons hs.1) (star_any hs.2)
theorem DefF.call0 {x : Str} {p pos : Pos} {m : List PV → M PV} {dfl dv : List PV} (c : Ctx D S n X W) (F : DefF X R (n + 1) x dfl m) (hg : glB S x = true) (hx : okN x = true) (hd : dv = dfl.drop (dfl.length - dv.length)) :
    PE X (.Call (.Name x p) [] [] pos) (tM R (gOf X) W fun ρ => M.bnd (M.ret []) fun xs => m (xs ++ dv)) := by
  obtain ⟨f, fd, ps, dvs, dds, h1, h2, h3, h4, h5, h6, h7⟩ := F.ex
  generalize dfl.length - dv.length = j at hd
  subst hd
  exact s_call0 h3 h4 c.room (c.gl hg) h1 h2 (h7 j) (vals_drop j h5) (fun φ H => (h6 R.hid φ H).drop j) c.tk (okN_1 hx)
theorem x_one {e : Expr} {G : Gm} {W : WX} {m : Mp.Env → M PV} {op : BoolOp} {pos : Pos} (h : PE X e (tM R G W m)) : PE X (.BoolOp op [e] pos) (tM R G W m) := pe_one h
end
end Mp
namespace Mp
open PySem PySem.Spec PyProof.Rows L2
def Conv (X : Cx) (R : Rc) (W : WX) (G : Gm) : Prop := ∀ (e : Expr) (m : Mp.Env → M PV), PE X e (tM R (gOf X) W m) → PE X e (tM R G W m)
theorem Conv.id {X : Cx} {R : Rc} {W : WX} : Conv X R W (gOf X) := fun _ _ h => h
theorem Conv.g0 {X : Cx} {R : Rc} {W : WX} : Conv X R W g0 := fun _ _ h => PE.g0 h
theorem s_dct0 {X : Cx} {R : Rc} {G : Gm} {W : WX} {pos : Pos} : PE X (.Dict [] [] pos) (tM R G W fun ρ => M.bnd (M.ret []) fun ks => M.bnd (M.ret []) fun vs => newD ks vs) :=
  pe_dnewK.imp fun σ H Q ⟨φ, st, ρ, S, E, T, h⟩ => fun p hp => h (φ ++ [p]) (upd H p (.dK [])) (.ref p) (step_sto hp) (S.snoc (m := .dct []) hp (.inl ⟨[], upd_same, Nat.zero_le _, rfl⟩)) (T.new hp) ⟨p, by
    rw [List.getElem?_append_right (by rw [S.len]; exact Nat.le_refl _), S.len]
    simp, rfl⟩
theorem bm_ok {D : Dt} {P : Prog} {C : Call} {R : Rc} {n : Nat} {X : Cx} {S : Sc} {W : WX} {G : Gm} {f : Bm} {m : Bool} {nm : Str} {ap cp : Pos} {o : Expr} {xs : List Expr} {mo : Mp.Env → M PV} {ms : Mp.Env → M (List PV)} (F : Facts D P C R n X) (c : Ctx D S n X W) (hf : bmNm f = some nm) (hb : notCall0 o = true) (hs : xs.all notStar = true) (hl : xs.length < 30) (hp : (ap.endLine == cp.line) = true)
    (ho : PE X o (tM R G W mo)) (ha : ∀ y ys, xs = y :: ys → PA X (y :: ys) (tMA' R G W ms)) (h0 : xs = [] → ms = fun _ => M.ret []) : PE X (.Call (.Attribute o nm ap) xs [] cp) (tM R G W fun ρ => M.bnd (mo ρ) fun x => M.bnd (bmT f x) fun _ => M.bnd (ms ρ) (bmV P.cts f m x)) := by
  have e1 : ∀ {es : List Expr}, es.all notStar = true → (backTo cp (starEach es X.env)).all (fun x => !x.1) = true := fun {es} => by
    induction es with
    | nil => intro _; rfl
    | cons a es ih =>
      intro h
      rw [List.all_cons, Bool.and_eq_true] at h
      rw [star_cons h.1]
      show (true && (backTo cp (starEach es X.env)).all (fun x => !x.1)) = true
      rw [ih h.2]
      rfl
  have few : ((backTo cp (starEach xs X.env)).all (fun x => !x.1) && (backToKw cp (keywordEach [] X.env)).all (fun x => x.1.isSome) && decide (xs.length + ([] : List Keyword).length + (if ([] : List Keyword).isEmpty then 0 else 1) < 30)) = true := by
    rw [e1 hs]
    have : decide (xs.length + ([] : List Keyword).length + (if ([] : List Keyword).isEmpty then 0 else 1) < 30) = true := decide_eq_true (by simpa using hl)
    rw [this]
    rfl
  rw [← F.cts]
  have base := notCall0_ok (f := nm) (env := X.env) hb
  cases xs with
  | nil =>
    rw [h0 rfl]
    cases f <;> (try cases hf)
    · exact s_bm0 F.hK PySem.F.plainAttrs_list PySem.F.slot_list_append PySem.F.type_list_append m_append ho base hp
    · exact s_bm0 F.hK PySem.F.plainAttrs_list PySem.F.slot_list_pop PySem.F.type_list_pop m_pop ho base hp
    · exact s_bm0 F.hK PySem.F.plainAttrs_list PySem.F.slot_list_extend PySem.F.type_list_extend m_extend ho base hp
    · exact s_bm0 F.hK PySem.F.plainAttrs_str PySem.F.slot_str_split PySem.F.type_str_split m_split ho base hp
  | cons y ys =>
    have a := ha y ys rfl
    rw [List.all_cons, Bool.and_eq_true] at hs
    have s1 := star_cons (es := ys) (env := X.env) hs.1
    have s2 := star_any (pos := cp) (env := X.env) hs.2
    cases f <;> (try cases hf)
    · exact s_bm F.hK PySem.F.plainAttrs_list PySem.F.slot_list_append PySem.F.type_list_append m_append ho a base few hp s1 s2
    · exact s_bm F.hK PySem.F.plainAttrs_list PySem.F.slot_list_pop PySem.F.type_list_pop m_pop ho a base few hp s1 s2
    · exact s_bm F.hK PySem.F.plainAttrs_list PySem.F.slot_list_extend PySem.F.type_list_extend m_extend ho a base few hp s1 s2
    · exact s_bm F.hK PySem.F.plainAttrs_str PySem.F.slot_str_split PySem.F.type_str_split m_split ho a base few hp s1 s2
theorem lam_ok {D : Dt} {P : Prog} {C : Call} {R : Rc} {n : Nat} {X : Cx} {S : Sc} {W : WX} {k : Nat} {r : As} {params : Arguments} {body : Expr} {scope : Scope} {lpos : Pos} {es : List Expr} (c : Ctx D S n X W) (F : Facts D P C R n X) (nb : S.blk = false) (hl : S.lamb = true) (h : lamB D S k params body scope = true) (hr : PX X R W es fun ρ => eva P C ρ r) :
    PX X R W (.Lambda params body scope lpos :: es) fun ρ => eva P C ρ (.lam k r) := by
  unfold lamB at h
  simp only [Bool.and_eq_true, decide_eq_true_eq] at h
  obtain ⟨⟨⟨⟨⟨h1, h2⟩, h3⟩, h4⟩, h5⟩, h6⟩ := h
  obtain ⟨js, hj⟩ := Option.isSome_iff_exists.mp h1
  obtain ⟨l, l1, l2⟩ := F.caps k js hj
  obtain ⟨cc, PP, t1, t2, t3, t4⟩ := c.tab hl
  rw [hj] at h2
  have e : (fun ρ => eva P C ρ (.lam k r)) = fun ρ => M.bnd (caps ρ js) fun cs => M.bnd (eva P C ρ r) fun xs => M.ret (.clo k cs :: xs) := by
    funext ρ
    show (match P.lams.lookup k with
      | some l => M.bnd (caps ρ l.caps) fun cs => M.bnd (eva P C ρ r) fun xs => M.ret (PV.clo k cs :: xs)
      | none => M.bad) = _
    rw [l1, ← l2]
  rw [e]
  refine x_lam (L := lamOf D S k params body scope) (js := js) ⟨t1, t2, by rw [F.tabs]; exact t3, by rw [F.tabs]; exact t4⟩ ⟨F.lam k _ h3, by show S.qual ++ "<lambda>" = _; rw [c.qual], ?_, ?_, ?_, c.ex nb, c.cf hl⟩ ?_ hr
  · rw [c.sc]
    exact NdefX.ndef_free h4
  · exact NdefX.ndef_fr h4
  · rw [c.N]
    exact h2
  · show defaultsOf params X.env = ([], [])
    obtain ⟨p1, p2, p3, p4, kd, p6, df⟩ := params
    have e1 : df = [] := by simpa using h5
    have e2 : kd = [] := by simpa using h6
    subst e1
    subst e2
    rfl
section
variable {D : Dt} {P : Prog} {C : Call} {n : Nat}
mutual
theorem okE : ∀ (x : E) {S : Sc} {X : Cx} {R : Rc} {W : WX} {e : Expr}, Ctx D S n X W → Facts D P C R n X → chkE D S x e = true → PE X e (tM R (gOf X) W fun ρ => ev P C ρ x)
  | .var i, S, X, R, W, e, c, F, h => by
    unfold chkE at h
    split at h
    · simp only [Bool.and_eq_true] at h
      exact s_var (c.slot h.1.1) (c.vis h.1.2) (okN_1 h.2) (okN_2 h.2)
    · cases h
  | .cst k, S, X, R, W, e, c, F, h => by
    unfold chkE at h
    split at h
    · exact cst_ok h
    · cases h
  | .glo g, S, X, R, W, e, c, F, h => by
    unfold chkE at h
    split at h
    · simp only [Bool.and_eq_true, decide_eq_true_eq] at h
      obtain ⟨d, v, u, h1, h2, h3, h4⟩ := F.glob _ _ h.1.1
      exact (s_cst (R := R) (G := gOf X) (W := W) (pe_glob (c.gl h.1.2) h2 h3 (okN_1 h.2)) (fun φ H => h4 R.hid φ H)).imp fun σ H Q ⟨φ, st, ρ, S1, E1, T1, p⟩ => ⟨φ, st, ρ, S1, E1, T1, by
        have p : Post R W σ φ H (RepV R) (M.opt (P.globs.lookup g) st) Q := p
        rw [h1] at p
        exact p⟩
    · cases h
  | .bin o m a b, S, X, R, W, e, c, F, h => by
    unfold chkE at h
    split at h
    · simp only [Bool.and_eq_true] at h
      exact s_bin (op_ok F m h.1.1) (fun _ _ => NoX.binV) (okE a c F h.1.2) (okE b c F h.2)
    · cases h
  | .neg a, S, X, R, W, e, c, F, h => by
    unfold chkE at h
    split at h
    · exact s_neg (okE a c F h)
    · cases h
  | .cmp o a b, S, X, R, W, e, c, F, h => by
    unfold chkE at h
    split at h
    · simp only [Bool.and_eq_true] at h
      exact s_cmp (cop_ok F c h.1.1.1) (fun _ _ => NoX.cmpV) (notSet_ok h.1.1.2) (okE a c F h.1.2) (okE b c F h.2)
    · cases h
  | .not a, S, X, R, W, e, c, F, h => by
    unfold chkE at h
    split at h
    · exact s_not (okE a c F h)
    · cases h
  | .and a b, S, X, R, W, e, c, F, h => by
    unfold chkE at h
    split at h
    · simp only [Bool.and_eq_true] at h
      exact s_and (okE a c F h.1) (x_one (okE b c F h.2))
    · simp only [Bool.and_eq_true] at h
      exact s_and (okE a c F h.1) (okE b c F h.2)
    · cases h
  | .or a b, S, X, R, W, e, c, F, h => by
    unfold chkE at h
    split at h
    · simp only [Bool.and_eq_true] at h
      exact s_or (okE a c F h.1) (x_one (okE b c F h.2))
    · simp only [Bool.and_eq_true] at h
      exact s_or (okE a c F h.1) (okE b c F h.2)
    · cases h
  | .chn o o' a b d, S, X, R, W, e, c, F, h => by
    unfold chkE at h
    split at h
    · simp only [Bool.and_eq_true] at h
      exact s_chn (cop_ok F c h.1.1.1.1.1) (fun _ _ => NoX.cmpV) (cop_ok F c h.1.1.1.1.2) (fun _ _ => NoX.cmpV) (notSet_ok h.1.1.1.2) (okE a c F h.1.1.2) (okE b c F h.1.2) (okE d c F h.2)
    · cases h
  | .ite t a b, S, X, R, W, e, c, F, h => by
    unfold chkE at h
    split at h
    · simp only [Bool.and_eq_true] at h
      exact s_ite (okT t c F h.1.1).1 (okE a c F h.1.2) (okE b c F h.2)
    · cases h
  | .tup es, S, X, R, W, e, c, F, h => by
    unfold chkE at h
    split at h
    · exact s_tup (okEs es c F h)
    · cases h
  | .lst m es, S, X, R, W, e, c, F, h => by
    unfold chkE at h
    split at h
    · exact s_lst (okEs es c F h)
    · cases h
  | .dct .nil .nil, S, X, R, W, e, c, F, h => by
    unfold chkE at h
    split at h
    · exact s_dct0
    · cases h
  | .dct (.cons _ _) _, S, X, R, W, e, c, F, h => by
    unfold chkE at h
    cases h
  | .dct .nil (.cons _ _), S, X, R, W, e, c, F, h => by
    unfold chkE at h
    cases h
  | .ix a i, S, X, R, W, e, c, F, h => by
    unfold chkE at h
    split at h
    · simp only [Bool.and_eq_true] at h
      exact s_ix F.hK (okE a c F h.1.2) (okE i c F h.2) (notSlc_ok h.1.1)
    · cases h
  | .dget a i, S, X, R, W, e, c, F, h => by
    unfold chkE at h
    split at h
    · simp only [Bool.and_eq_true] at h
      show PE X _ (tM R (gOf X) W fun ρ => M.bnd (ev P C ρ a) fun x => M.bnd (ev P C ρ i) fun y => dgetV P.cts x y)
      rw [← F.cts]
      exact s_dget (by have := c.room.units; omega) (okE a c F h.1.2) (okE i c F h.2) (notSlc_ok h.1.1)
    · cases h
  | .slc m a lo hi, S, X, R, W, e, c, F, h => by
    unfold chkE at h
    split at h
    · simp only [Bool.and_eq_true] at h
      exact s_slc F.hK (okE a c F h.1.1) (okO lo c F h.1.2) (okO hi c F h.2)
    · cases h
  | .atr a f, S, X, R, W, e, c, F, h => by
    unfold chkE at h
    split at h
    · rename_i l nm p
      simp only [Bool.and_eq_true, decide_eq_true_eq] at h
      have en : nm = R.fnm f := by
        unfold Rc.fnm
        rw [F.fld, h.1.1]
        rfl
      subst en
      exact s_atr F.hK F.xcl F.cls F.prop c.room (okE a c F h.2) (notCall0_ok h.1.2)
    · cases h
  | .call k es dv, S, X, R, W, e, c, F, h => by
    unfold chkE at h
    split at h
    · rename_i x p xs pos
      simp only [Bool.and_eq_true, decide_eq_true_eq] at h
      cases xs with
      | nil =>
        cases es with
        | nil => exact DefF.call0 c (F.defn _ _ h.1.1.1.1.1) h.1.1.1.1.2 h.1.1.1.2 h.1.2
        | cons a r => cases h.2
        | lam k r => cases h.2
        | fvar i r => cases h.2
      | cons y xs => exact DefF.call c (F.defn _ _ h.1.1.1.1.1) h.1.1.1.1.2 h.1.1.1.2 h.1.1.2 h.1.2 (okA es c F h.2 h.1.1.2)
    · cases h
  | .callV i es, S, X, R, W, e, c, F, h => by
    unfold chkE at h
    split at h
    · simp only [Bool.and_eq_true] at h
      have hs := h.1.2
      rw [List.all_cons, Bool.and_eq_true] at hs
      exact s_callV F.clo c.room c.tk (c.ex (by simpa using h.1.1.1.1.1)) (c.slot h.1.1.1.1.2) (c.vis h.1.1.1.2) (okN_1 h.1.1.2) (okN_2 h.1.1.2) (okEs es c F h.2) (star_cons hs.1) (star_any hs.2)
    · cases h
  | .mk k es, S, X, R, W, e, c, F, h => by
    unfold chkE at h
    split at h
    · simp only [Bool.and_eq_true, decide_eq_true_eq] at h
      have hs := h.1.2
      rw [List.all_cons, Bool.and_eq_true] at hs
      obtain ⟨h1, f, fd, ps, m, h2, h3, h4, h5, h6⟩ := F.mkc _ _ h.1.1.1.1
      show PE X _ (tM R (gOf X) W fun ρ => M.bnd (evs P C ρ es) (C.make k))
      rw [h6]
      exact s_mk h2 h3 h4 c.room (c.gl h.1.1.1.2) h1 h5 c.tk (okEs es c F h.2) (okN_1 h.1.1.2) (star_cons hs.1) (star_any hs.2)
    · cases h
  | .exm k f (.cons a .nil), S, X, R, W, e, c, F, h => by
    have ee : (fun ρ => ev P C ρ (.exm k f (.cons a .nil))) = fun ρ => M.bnd (ev P C ρ a) fun v => M.ret (PV.exn k f [v]) := by
      funext ρ
      show M.bnd (M.bnd (ev P C ρ a) fun x => M.bnd (M.ret []) fun xs => M.ret (x :: xs)) (fun vs => M.ret (PV.exn k f vs)) = _
      rw [bnd_ret]
      rfl
    rw [ee]
    unfold chkE at h
    split at h
    · simp only [Bool.and_eq_true, decide_eq_true_eq] at h
      exact s_exm F.hK (F.exm _ _ _ h.1.1.1.1) c.room (c.gl h.1.1.1.2) (okE a c F h.2) (star_cons h.1.2) (okN_1 h.1.1.2)
    · simp only [Bool.and_eq_true, decide_eq_true_eq] at h
      exact s_exmK F.hK (F.exm _ _ _ h.1.1.1.1) (by rw [F.fld]; exact h.1.1.1.2) c.room (c.gl h.1.1.2) (okE a c F h.2) (by rfl) (by rfl) (okN_1 h.1.2) (by rfl)
    · cases h
  | .exm k f .nil, S, X, R, W, e, c, F, h => by
    unfold chkE at h
    split at h
    · simp only [Bool.and_eq_true, decide_eq_true_eq] at h
      exact s_exm0 (F.exm0 _ _ h.1.1) (c.gl h.1.2) (okN_1 h.2)
    · cases h
  | .exm k f (.cons a (.cons b r)), S, X, R, W, e, c, F, h => by unfold chkE at h; cases h
  | .bf f m es, S, X, R, W, e, c, F, h => by
    unfold chkE at h
    split at h
    · simp only [Bool.and_eq_true, decide_eq_true_eq] at h
      exact bf_ok F c h.1.1.1 h.1.1.2 h.1.2 (okEs es c F h.2)
    · cases h
  | .isi a t, S, X, R, W, e, c, F, h => by
    unfold chkE at h
    split at h
    · simp only [Bool.and_eq_true, decide_eq_true_eq] at h
      obtain ⟨cv, u, f1, f2, f3⟩ := ty_ok F c h.1.2
      obtain ⟨hg, hm, hn⟩ := F.bltn c h.1.1.1.1.2
      have ex := h.1.1.1.1.1
      subst ex
      exact s_isi F.hK F.xcl hg hm f1 f2 (okE a c F h.2) f3 (star_cons h.1.1.1.2) (star_cons h.1.1.2) (by rw [star_cons h.1.1.2]; rfl)
    · cases h
  | .bm f m o es, S, X, R, W, e, c, F, h => by
    unfold chkE at h
    split at h
    · simp only [Bool.and_eq_true, decide_eq_true_eq] at h
      exact bm_ok F c h.1.1.1.1.1.1 h.1.1.1.1.1.2 h.1.1.1.1.2 h.1.1.1.2 h.1.1.2 (okE o c F h.1.2) (fun y ys e => by
        subst e
        exact okEs es c F h.2) (fun e => by
        subst e
        cases es with
        | nil => rfl
        | cons a r => cases h.2)
    · cases h
  | .lc m own g it t x, S, X, R, W, e, c, F, h => by
    unfold chkE at h
    split at h
    · rename_i elt tg iter ifs kk scope pos
      simp only [Bool.and_eq_true, decide_eq_true_eq] at h
      have k0 := h.1.1.1.1.1.1.1.1
      subst k0
      have eo := h.1.1.1.1.1.2
      generalize (own.filterMap fun i => (S.N[i]?).map fun y => (y, i)) = ow at h eo
      subst eo
      have bk : BlkOk X.N X.env.scope scope ow := by
        rw [c.N, c.sc]
        exact blkOk_by h.1.1.1.1.1.1.2
      exact s_lc c.calm c.nd bk (okI it c F h.1.1.1.2) (fun hid Fr s H Cx cl fp hF => okG g (c.inBlk) (F.blk.h) h.1.1.2 Fr hF Mp.g0 Conv.g0) (fun hid s H Cx cl fp => PTs.g0 (okC t (c.inBlk) (F.blk.h) h.1.2)) (fun hid s H Cx cl fp => PE.g0 (okE x (c.inBlk) (F.blk.h) h.2)) (notSet_fold h.1.1.1.1.2)
    · cases h
  | .eqO _ _ _, S, X, R, W, e, c, F, h => by unfold chkE at h; cases h
  | .callK _ _ _ _, S, X, R, W, e, c, F, h => by unfold chkE at h; cases h
  | .mkK _ _ _ _, S, X, R, W, e, c, F, h => by unfold chkE at h; cases h
  | .meth _ _ _ _, S, X, R, W, e, c, F, h => by unfold chkE at h; cases h
  | .callI _ _ _, S, X, R, W, e, c, F, h => by unfold chkE at h; cases h
theorem okA : ∀ (x : As) {S : Sc} {X : Cx} {R : Rc} {W : WX} {es : List Expr}, Ctx D S n X W → Facts D P C R n X → chkA D S x es = true → es.all notStar = true → PX X R W es (fun ρ => eva P C ρ x)
  | .nil, S, X, R, W, es, c, F, h, hs => by
    unfold chkA at h
    split at h
    · exact x_nil
    · cases h
  | .cons a r, S, X, R, W, es, c, F, h, hs => by
    unfold chkA at h
    split at h
    · simp only [Bool.and_eq_true] at h
      rw [List.all_cons, Bool.and_eq_true] at hs
      exact x_cons (okE a c F h.1) (okA r c F h.2 hs.2) (star_cons hs.1)
    · cases h
  | .fvar i r, S, X, R, W, es, c, F, h, hs => by
    unfold chkA at h
    split at h
    · simp only [Bool.and_eq_true] at h
      rw [List.all_cons, Bool.and_eq_true] at hs
      exact x_fvar (c.ex (by simpa using h.1.1.1.1)) (c.slot h.1.1.1.2) (c.vis h.1.1.2) (okN_1 h.1.2) (okN_2 h.1.2) (okA r c F h.2 hs.2)
    · cases h
  | .lam k r, S, X, R, W, es, c, F, h, hs => by
    unfold chkA at h
    split at h
    · rename_i params body scope lpos es
      simp only [Bool.and_eq_true] at h
      rw [List.all_cons, Bool.and_eq_true] at hs
      exact lam_ok c F (by simpa using h.1.1.1) h.1.1.2 h.1.2 (okA r c F h.2 hs.2)
    · cases h
theorem okT : ∀ (x : T) {S : Sc} {X : Cx} {R : Rc} {W : WX} {e : Expr}, Ctx D S n X W → Facts D P C R n X → chkT D S x e = true → PT X e (tMT R (gOf X) W fun ρ => evT P C ρ x) ∧ ∀ op vs p, e = .BoolOp op vs p → PW X e (tMT R (gOf X) W fun ρ => evT P C ρ x)
  | .of a, S, X, R, W, e, c, F, h => by
    unfold chkT at h
    simp only [Bool.and_eq_true] at h
    exact ⟨t_of F.hK (okE a c F h.2) (plainT_ok h.1), fun op vs p q => by subst q; cases h.1⟩
  | .cmp o a b, S, X, R, W, e, c, F, h => by
    unfold chkT at h
    split at h
    · simp only [Bool.and_eq_true] at h
      exact ⟨t_cmp (cop_ok F c h.1.1.1) (fun _ _ => NoX.cmpV) (notSet_ok h.1.1.2) (okE a c F h.1.2) (okE b c F h.2), fun op vs p q => by cases q⟩
    · cases h
  | .chn o o' a b d, S, X, R, W, e, c, F, h => by
    unfold chkT at h
    split at h
    · simp only [Bool.and_eq_true] at h
      exact ⟨t_chn (cop_ok F c h.1.1.1.1.1) (fun _ _ => NoX.cmpV) (cop_ok F c h.1.1.1.1.2) (fun _ _ => NoX.cmpV) (notSet_ok h.1.1.1.2) (okE a c F h.1.1.2) (okE b c F h.1.2) (okE d c F h.2), fun op vs p q => by cases q⟩
    · cases h
  | .and a b, S, X, R, W, e, c, F, h => by
    unfold chkT at h
    split at h
    · simp only [Bool.and_eq_true] at h
      exact ⟨(t_and (okT a c F h.1).1 (pw_and1 (okT b c F h.2).1)).pt, fun _ _ _ _ => t_and (okT a c F h.1).1 (pw_and1 (okT b c F h.2).1)⟩
    · simp only [Bool.and_eq_true] at h
      exact ⟨(t_and (okT a c F h.1).1 ((okT b c F h.2).2 _ _ _ rfl)).pt, fun _ _ _ _ => t_and (okT a c F h.1).1 ((okT b c F h.2).2 _ _ _ rfl)⟩
    · cases h
  | .or a b, S, X, R, W, e, c, F, h => by
    unfold chkT at h
    split at h
    · simp only [Bool.and_eq_true] at h
      exact ⟨(t_or (okT a c F h.1).1 (pw_or1 (okT b c F h.2).1)).pt, fun _ _ _ _ => t_or (okT a c F h.1).1 (pw_or1 (okT b c F h.2).1)⟩
    · simp only [Bool.and_eq_true] at h
      exact ⟨(t_or (okT a c F h.1).1 ((okT b c F h.2).2 _ _ _ rfl)).pt, fun _ _ _ _ => t_or (okT a c F h.1).1 ((okT b c F h.2).2 _ _ _ rfl)⟩
    · cases h
  | .not a, S, X, R, W, e, c, F, h => by
    unfold chkT at h
    split at h
    · exact ⟨t_not (okT a c F h).1, fun op vs p q => by cases q⟩
    · cases h
theorem okC : ∀ (x : OT) {S : Sc} {X : Cx} {R : Rc} {W : WX} {es : List Expr}, Ctx D S n X W → Facts D P C R n X → chkC D S x es = true → PTs X es (tMT R (gOf X) W fun ρ => evC P C ρ x)
  | .non, S, X, R, W, es, c, F, h => by
    unfold chkC at h
    split at h
    · exact pts_nil.imp fun σ H Q ⟨φ, st, ρ, S1, E1, T1, p⟩ => p φ H true (Step.refl _ _) S1 T1 rfl
    · cases h
  | .som t, S, X, R, W, es, c, F, h => by
    unfold chkC at h
    split at h
    · exact pts_one (okT t c F h).1
    · cases h
theorem okO : ∀ (x : OE) {S : Sc} {X : Cx} {R : Rc} {W : WX} {e : Option Expr}, Ctx D S n X W → Facts D P C R n X → chkO D S x e = true → PO X e (tMO R (gOf X) W fun ρ => evo P C ρ x)
  | .non, S, X, R, W, e, c, F, h => by
    unfold chkO at h
    split at h
    · exact o_none
    · cases h
  | .som a, S, X, R, W, e, c, F, h => by
    unfold chkO at h
    split at h
    · exact o_some (okE a c F h)
    · cases h
theorem okEs : ∀ (x : Es) {S : Sc} {X : Cx} {R : Rc} {W : WX} {es : List Expr}, Ctx D S n X W → Facts D P C R n X → chkEs D S x es = true → PA X es (tMA' R (gOf X) W fun ρ => evs P C ρ x)
  | .nil, S, X, R, W, es, c, F, h => by
    unfold chkEs at h
    split at h
    · exact a_nil
    · cases h
  | .cons a r, S, X, R, W, es, c, F, h => by
    unfold chkEs at h
    split at h
    · simp only [Bool.and_eq_true] at h
      exact a_cons (okE a c F h.1.2) (okEs r c F h.2) (star_cons h.1.1)
    · cases h
theorem okG : ∀ (x : Tg) {S : Sc} {X : Cx} {R : Rc} {W : WX} {e : Expr}, Ctx D S n X W → Facts D P C R n X → chkG D S x e = true → ∀ Fm : Fr, Fm.vs = S.vs → ∀ G : Gm, Conv X R W G → PG X e (tG R G W Fm (evg P C x))
  | .name i, S, X, R, W, e, c, F, h, Fm, hF, G, cv => by
    unfold chkG at h
    split at h
    · simp only [Bool.and_eq_true, decide_eq_true_eq] at h
      obtain ⟨⟨h1, h2⟩, h3⟩ := h
      split at h3
      · rename_i q
        rw [← c.sc] at q
        exact g_name (by rw [hF]; exact h1) c.nd (c.slot h2) (.inl q) (.inr q)
      · rename_i q
        rw [← c.sc] at q
        exact g_name (by rw [hF]; exact h1) c.nd (c.slot h2) (.inr q) (.inl (c.fnc _ h3))
      · cases h3
    · cases h
  | .tup gs, S, X, R, W, e, c, F, h, Fm, hF, G, cv => by
    unfold chkG at h
    split at h
    · simp only [Bool.and_eq_true] at h
      obtain ⟨q1, q2⟩ := okGs gs c F h.2 h.1 Fm hF G cv
      exact g_tup F.hK c.calm q1 (by rw [assign_len]; exact q2) (assign_none h.1)
    · cases h
  | .sub o i, S, X, R, W, e, c, F, h, Fm, hF, G, cv => by
    unfold chkG at h
    split at h
    · simp only [Bool.and_eq_true] at h
      rw [show evg P C (.sub o i) = fun v ρ => M.bnd (ev P C ρ o) fun x => M.bnd (ev P C ρ i) fun y => M.bnd (setV R.cts x y v) fun _ => M.ret ρ by rw [F.cts]; rfl]
      exact g_sub (by have := c.room.units; omega) (cv _ _ (okE o c F h.1.2)) (cv _ _ (okE i c F h.2)) (sub_assign h.1.1)
    · cases h
  | .fld _ _, S, X, R, W, e, c, F, h, Fm, hF, G, cv => by unfold chkG at h; cases h
theorem okGs : ∀ (x : Tgs) {S : Sc} {X : Cx} {R : Rc} {W : WX} {es : List Expr}, Ctx D S n X W → Facts D P C R n X → chkGs D S x es = true → es.all notStar = true → ∀ Fm : Fr, Fm.vs = S.vs → ∀ G : Gm, Conv X R W G → PGs X es (tGs R G W Fm (evgs P C x)) ∧ es.length = gsLen x
  | .nil, S, X, R, W, es, c, F, h, hs, Fm, hF, G, cv => by
    unfold chkGs at h
    split at h
    · exact ⟨gs_nil, rfl⟩
    · cases h
  | .cons g r, S, X, R, W, es, c, F, h, hs, Fm, hF, G, cv => by
    unfold chkGs at h
    split at h
    · simp only [Bool.and_eq_true] at h
      rw [List.all_cons, Bool.and_eq_true] at hs
      obtain ⟨q1, q2⟩ := okGs r c F h.2 hs.2 Fm hF G cv
      exact ⟨gs_cons (okG g c F h.1 Fm hF G cv) q1 (assign_cons hs.1), by show _ + 1 = _ + 1; rw [q2]⟩
    · cases h
theorem okI : ∀ (x : It) {S : Sc} {X : Cx} {R : Rc} {W : WX} {tg e : Expr}, Ctx D S n X W → Facts D P C R n X → chkI D S x tg e = true → PI X tg e (tI R (gOf X) W fun ρ => evi P C ρ x)
  | .of a, S, X, R, W, tg, e, c, F, h => by
    unfold chkI at h
    exact i_of F.hK (okE a c F h)
  | .rng a, S, X, R, W, tg, e, c, F, h => by
    unfold chkI at h
    split at h
    · simp only [Bool.and_eq_true, decide_eq_true_eq] at h
      obtain ⟨hg, hm, hn⟩ := F.bltn c h.1.1.2
      have ex := h.1.1.1
      subst ex
      exact i_rng hg hm (a_cons (okE a c F h.2) a_nil (star_cons h.1.2)) (by rw [star_cons h.1.2]; rfl)
    · cases h
  | .rng2 a b, S, X, R, W, tg, e, c, F, h => by
    unfold chkI at h
    split at h
    · simp only [Bool.and_eq_true, decide_eq_true_eq] at h
      obtain ⟨hg, hm, hn⟩ := F.bltn c h.1.1.1.1.2
      have ex := h.1.1.1.1.1
      subst ex
      exact i_rng2 hg hm (a_cons (okE a c F h.1.2) (a_cons (okE b c F h.2) a_nil (star_cons h.1.1.2)) (star_cons h.1.1.1.2)) (by rw [star_cons h.1.1.1.2, star_cons h.1.1.2]; rfl) (by rw [star_cons h.1.1.2]; rfl)
    · cases h
  | .enu a, S, X, R, W, tg, e, c, F, h => by
    unfold chkI at h
    split at h
    · simp only [Bool.and_eq_true, decide_eq_true_eq] at h
      obtain ⟨hg, hm, hn⟩ := F.bltn c h.1.1.2
      have ex := h.1.1.1.2
      subst ex
      cases tg with
      | Tuple es k p => exact i_enu F.hK hg hm (okE a c F h.2) (star_cons h.1.2) (by rw [star_cons h.1.2]; rfl)
      | _ => cases h.1.1.1.1
    · cases h
  | .zip a b, S, X, R, W, tg, e, c, F, h => by
    unfold chkI at h
    split at h
    · simp only [Bool.and_eq_true, decide_eq_true_eq] at h
      obtain ⟨hg, hm, hn⟩ := F.bltn c h.1.1.1.1.2
      have ex := h.1.1.1.1.1.2
      subst ex
      cases tg with
      | Tuple es k p => exact i_zip F.hK hg hm (a_cons (okE a c F h.1.2) (a_cons (okE b c F h.2) a_nil (star_cons h.1.1.2)) (star_cons h.1.1.1.2)) (star_cons h.1.1.1.2) (by rw [star_cons h.1.1.2]; rfl)
      | _ => cases h.1.1.1.1.1.1
    · cases h
  | .items _, S, X, R, W, tg, e, c, F, h => by unfold chkI at h; cases h
end
end
end Mp
namespace Mp
open PySem PySem.Spec PyProof.Rows L2
theorem notComp_ok {v : Expr} {t : Option Expr} {l : Nat} {env : PySem.Env} (h : notComp v = true) : swapsWith v t l env = pure false := by
  cases v <;> first | rfl | cases h
def notName : Expr → Bool
  | .Name _ _ => false
  | _ => true
theorem swaps_tgt {v tg : Expr} {l : Nat} {env : PySem.Env} (h : notName tg = true) : swapsWith v (some tg) l env = pure false := by
  cases v <;> first | rfl | (cases tg <;> first | rfl | cases h)
def notTup : Expr → Bool
  | .Tuple _ _ _ => false
  | _ => true
def notLst : Expr → Bool
  | .List _ _ => false
  | _ => true
theorem swapped_none {v tg : Expr} {env : PySem.Env} (h : (notTup v || (notTup tg && notLst tg)) = true) : swappedStores [tg] v env = pure none := by
  cases v <;> first
    | rfl
    | (cases tg <;> first | rfl | cases h)
theorem swapped_many {ts vs : List Expr} {k k2 : Nat} {p p2 : Pos} {env : PySem.Env} (h : (!(ts.length == 2 || ts.length == 3) || vs.length != ts.length) = true) : swappedStores [.Tuple ts k p] (.Tuple vs k2 p2) env = pure none := by
  unfold swappedStores
  simp only [h, Bool.true_or, if_true]
theorem swapped_two {x y : Str} {px py : Pos} {a b : Expr} {k k2 : Nat} {p p2 : Pos} {env : PySem.Env} (hb : env.blockKind = .function) (hx : env.kindOf x = some .local) (hy : env.kindOf y = some .local) (hl : (py.line == px.line) = true) (hxy : x ≠ y) (ha : notStar a = true) (hb2 : notStar b = true)
    (hf : ([a, b].all (foldedForSure 8)) = false) (hc : ([a, b].all (constantsAlone 8)) = false) : swappedStores [.Tuple [.Name x px, .Name y py] k p] (.Tuple [a, b] k2 p2) env = pure (some [x, y]) := by
  have hl' : py.line = px.line := eq_of_beq hl
  have e2 : (y == x) = false := by
    cases z : y == x with
    | false => rfl
    | true => exact absurd (eq_of_beq z).symm hxy
  have e3 : ¬ y = x := fun z => hxy z.symm
  unfold swappedStores
  simp [hb, hx, hy, hl', Expr.pos, List.filterMap_cons, List.filterMap_nil, List.eraseDups, List.eraseDupsBy, List.eraseDupsBy.loop, e2, e3]
  rw [if_neg, if_neg, if_neg]
  · rintro ⟨h1, h2⟩
    simp [h1, h2] at hc
  · rintro ⟨h1, h2⟩
    simp [h1, h2] at hf
  · rintro (z | z)
    · cases a <;> first | (cases z; done) | (cases ha; done)
    · cases b <;> first | (cases z; done) | (cases hb2; done)
def many (tg v : Expr) : Bool := match tg, v with
  | .Tuple ts _ _, .Tuple vs _ _ => !(ts.length == 2 || ts.length == 3) || vs.length != ts.length
  | _, _ => false
theorem many_ok {tg v : Expr} {env : PySem.Env} (h : many tg v = true) : swappedStores [tg] v env = pure none := by
  unfold many at h
  split at h
  · exact swapped_many h
  · cases h
def plainSw (tg v : Expr) : Bool := notTup v || (notTup tg && notLst tg) || many tg v
theorem plainSw_ok {tg v : Expr} {env : PySem.Env} (h : plainSw tg v = true) : swappedStores [tg] v env = pure none := by
  unfold plainSw at h
  rw [Bool.or_eq_true] at h
  rcases h with h | h
  · exact swapped_none h
  · exact many_ok h
variable (D : Dt)
def chkPl (Z : Sc) (g : Tg) (e : E) (tg v : Expr) : Bool := (notComp v || notName tg) && plainSw tg v && notStar tg && chkG D Z g tg && chkE D Z e v
def chkFl (Z : Sc) (g : Tg) (e : E) (tg v : Expr) : Bool := match g, tg with
  | .fld o f, .Attribute l nm _ => decide (D.fld.lookup f = some nm) && notComp v && chkE D Z e v && chkE D Z o l
  | _, _ => false
def chkLc (Z : Sc) (g : Tg) (e : E) (tg v : Expr) : Bool := match g, e, tg, v with
  | .name i, .lc m own g it c x, .Name y py, .ListComp elt [⟨tg2, iter, ifs, k⟩] scope pos => decide (k = 0) && !Z.blk && decide (Z.sc.kind = .function) && decide (i ∈ Z.vs) && slot Z i y && decide (Z.sc.names.lookup y = some .local) && (py.line == pos.line) && !(scope.names.any fun (n, k) => n == y && (k == .local || k == .cell)) &&
      blkC Z.N Z.sc scope (own.filterMap fun i => (Z.N[i]?).map fun y => (y, i)) && decide (own = (own.filterMap fun i => (Z.N[i]?).map fun y => (y, i)).map (·.2)) && notSet iter && chkI D Z it tg2 iter && chkG D (Z.inner scope own) g tg2 && chkC D (Z.inner scope own) c ifs && chkE D (Z.inner scope own) x elt
  | _, _, _, _ => false
def chkPa (Z : Sc) (g : Tg) (e : E) (tg v : Expr) : Bool := match g, e, tg, v with
  | .tup (.cons (.name i) (.cons (.name j) .nil)), .tup es, .Tuple [.Name x px, .Name y py] _ _, .Tuple [a, b] _ _ => decide (Z.sc.kind = .function) && decide (i ∈ Z.vs) && decide (j ∈ Z.vs) && slot Z i x && slot Z j y && decide (i ≠ j) && decide (Z.sc.names.lookup x = some .local) && decide (Z.sc.names.lookup y = some .local) && (py.line == px.line) && decide (x ≠ y) &&
      notStar a && notStar b && !([a, b].all (foldedForSure 8)) && !([a, b].all (constantsAlone 8)) && chkEs D Z es [a, b]
  | _, _, _, _ => false
mutual
def chkS (Z : Sc) : S → Stmt → Bool
  | .expr e, s => (match s with
    | .Expr v _ => notComp v && chkE D Z e v
    | _ => false)
  | .asg g e, s => (match s with
    | .Assign [tg] v _ => chkPl D Z g e tg v || chkFl D Z g e tg v || chkLc D Z g e tg v || chkPa D Z g e tg v
    | _ => false)
  | .ret e, s => (match s with
    | .Return (some v) _ => chkE D Z e v
    | _ => false)
  | .retN, s => (match s with
    | .Return none _ => true
    | _ => false)
  | .cond c a b, s => (match s with
    | .If t x y _ => chkT D Z c t && chkSs Z a x && chkSs Z b y
    | _ => false)
  | .for_ g it b, s => (match s with
    | .For tg iter x [] _ => notSet iter && chkI D Z it tg iter && chkG D Z g tg && chkSs Z b x
    | _ => false)
  | .whl c b, s => (match s with
    | .While t x [] _ => chkT D Z c t && chkSs Z b x
    | _ => false)
  | .pass, s => (match s with
    | .Pass _ => true
    | _ => false)
  | .brk, s => (match s with
    | .Break _ => true
    | _ => false)
  | .cont, s => (match s with
    | .Continue _ => true
    | _ => false)
  | .never, _ => true
  | .raise _ _, _ => false
def chkSs (Z : Sc) : Ss → List Stmt → Bool
  | .nil, s => (match s with
    | [] => true
    | _ => false)
  | .cons a r, s => (match s with
    | x :: xs => chkS Z a x && chkSs Z r xs
    | [] => false)
end
section
variable {D : Dt} {P : Prog} {C : Call} {n : Nat} {Z : Sc} {X : Cx} {R : Rc} {W : WX}
theorem Ctx.bk (c : Ctx D Z n X W) (h : Z.sc.kind = .function) : X.env.blockKind = .function := by
  unfold Env.blockKind
  rw [c.sc, h]
  rfl
theorem okPl {g : Tg} {e : E} {tg v : Expr} {pos : Pos} (c : Ctx D Z n X W) (F : Facts D P C R n X) (h : chkPl D Z g e tg v = true) (Fm : Fr) (hF : Fm.vs = Z.vs) : PS X (.Assign [tg] v pos) (tS R (gOf X) W Fm (ex P C (.asg g e))) := by
  unfold chkPl at h
  simp only [Bool.and_eq_true] at h
  refine st_asg (okE e c F h.2) (okG g c F h.1.2 Fm hF _ Conv.id) ?_ (plainSw_ok h.1.1.1.2) (by rw [assign_cons h.1.1.2]; rfl)
  have q := h.1.1.1.1
  rw [Bool.or_eq_true] at q
  rcases q with q | q
  · exact notComp_ok q
  · exact swaps_tgt q
theorem okFl {g : Tg} {e : E} {tg v : Expr} {pos : Pos} (c : Ctx D Z n X W) (F : Facts D P C R n X) (h : chkFl D Z g e tg v = true) (Fm : Fr) (hF : Fm.vs = Z.vs) : PS X (.Assign [tg] v pos) (tS R (gOf X) W Fm (ex P C (.asg g e))) := by
  unfold chkFl at h
  split at h
  · rename_i o f l nm p
    simp only [Bool.and_eq_true, decide_eq_true_eq] at h
    have en : nm = R.fnm f := by
      unfold Rc.fnm
      rw [F.fld, h.1.1.1]
      rfl
    subst en
    exact st_fld F.hK F.cls (okE e c F h.1.2) (okE o c F h.2) (notComp_ok h.1.1.2)
  · cases h
theorem okLc {g : Tg} {e : E} {tg v : Expr} {pos : Pos} (c : Ctx D Z n X W) (F : Facts D P C R n X) (h : chkLc D Z g e tg v = true) (Fm : Fr) (hF : Fm.vs = Z.vs) : PS X (.Assign [tg] v pos) (tS R (gOf X) W Fm (ex P C (.asg g e))) := by
  unfold chkLc at h
  split at h
  · rename_i i m own g it t x y py elt tg2 iter ifs kk scope lpos
    simp only [Bool.and_eq_true, decide_eq_true_eq] at h
    obtain ⟨⟨⟨⟨⟨⟨⟨⟨⟨⟨⟨⟨⟨⟨k0, nb⟩, kf⟩, iv⟩, sl⟩, lo⟩, ln⟩, an⟩, bc⟩, eo⟩, ns⟩, hi⟩, hg⟩, ht⟩, he⟩ := h
    subst k0
    generalize (own.filterMap fun i => (Z.N[i]?).map fun y => (y, i)) = ow at bc eo
    subst eo
    have bk : BlkOk X.N X.env.scope scope ow := by
      rw [c.N, c.sc]
      exact blkOk_by bc
    have lo' : X.env.scope.names.lookup y = some .local := by rw [c.sc]; exact lo
    refine st_setLc (by rw [hF]; exact iv) (c.slot sl) lo' ?_ c.calm c.nd bk (okI it c F hi) (fun hid Fr s H Cx cl fp hF => okG g (c.inBlk) (F.blk.h) hg Fr hF Mp.g0 Conv.g0) (fun hid s H Cx cl fp => PTs.g0 (okC t (c.inBlk) (F.blk.h) ht)) (fun hid s H Cx cl fp => PE.g0 (okE x (c.inBlk) (F.blk.h) he)) (notSet_fold ns)
    show (pure (X.env.blockKind == .function && X.env.kindOf y == some .local && py.line == lpos.line && !(scope.names.any fun (n, k) => n == y && (k == .local || k == .cell))) : Sem Bool) = pure true
    have e1 : X.env.kindOf y = some .local := lo'
    rw [c.bk kf, e1, ln, an]
    rfl
  · cases h
theorem okPa {g : Tg} {e : E} {tg v : Expr} {pos : Pos} (c : Ctx D Z n X W) (F : Facts D P C R n X) (h : chkPa D Z g e tg v = true) (Fm : Fr) (hF : Fm.vs = Z.vs) : PS X (.Assign [tg] v pos) (tS R (gOf X) W Fm (ex P C (.asg g e))) := by
  unfold chkPa at h
  split at h
  · rename_i i j es x px y py k p a b k2 p2
    simp only [Bool.and_eq_true, decide_eq_true_eq] at h
    obtain ⟨⟨⟨⟨⟨⟨⟨⟨⟨⟨⟨⟨⟨⟨kf, iv⟩, jv⟩, si⟩, sj⟩, ij⟩, lx⟩, ly⟩, ln⟩, xy⟩, na⟩, nb⟩, hf⟩, hc⟩, he⟩ := h
    have lx' : X.env.scope.names.lookup x = some .local := by rw [c.sc]; exact lx
    have ly' : X.env.scope.names.lookup y = some .local := by rw [c.sc]; exact ly
    exact st_par (by rw [hF]; exact iv) (by rw [hF]; exact jv) c.calm c.nd (c.slot si) (c.slot sj) ij lx' ly' (okEs es c F he) (swapped_two (c.bk kf) lx' ly' ln xy na nb ((Bool.not_eq_true' _).mp hf) ((Bool.not_eq_true' _).mp hc))
  · cases h
mutual
theorem okSt : ∀ (x : S) {Z : Sc} {X : Cx} {R : Rc} {W : WX} {s : Stmt}, Ctx D Z n X W → Facts D P C R n X → chkS D Z x s = true → ∀ Fm : Fr, Fm.vs = Z.vs → PS X s (tS R (gOf X) W Fm (ex P C x))
  | .expr e, Z, X, R, W, s, c, F, h, Fm, hF => by
    unfold chkS at h
    split at h
    · simp only [Bool.and_eq_true] at h
      exact st_expr (okE e c F h.2) (notComp_ok h.1)
    · cases h
  | .asg g e, Z, X, R, W, s, c, F, h, Fm, hF => by
    unfold chkS at h
    split at h
    · simp only [Bool.or_eq_true] at h
      rcases h with ((h | h) | h) | h
      · exact okPl c F h Fm hF
      · exact okFl c F h Fm hF
      · exact okLc c F h Fm hF
      · exact okPa c F h Fm hF
    · cases h
  | .ret e, Z, X, R, W, s, c, F, h, Fm, hF => by
    unfold chkS at h
    split at h
    · exact st_ret (okE e c F h)
    · cases h
  | .retN, Z, X, R, W, s, c, F, h, Fm, hF => by
    unfold chkS at h
    split at h
    · exact st_retN
    · cases h
  | .cond t a b, Z, X, R, W, s, c, F, h, Fm, hF => by
    unfold chkS at h
    split at h
    · simp only [Bool.and_eq_true] at h
      exact st_cond (okT t c F h.1.1).1 (okSs a c F h.1.2 Fm hF) (okSs b c F h.2 Fm hF)
    · cases h
  | .for_ g it b, Z, X, R, W, s, c, F, h, Fm, hF => by
    unfold chkS at h
    split at h
    · simp only [Bool.and_eq_true] at h
      exact st_for c.po c.calm (okI it c F h.1.1.2) (okG g c F h.1.2 Fm hF _ Conv.id) (okSs b c F h.2 Fm hF) (notSet_fold h.1.1.1)
    · cases h
  | .whl t b, Z, X, R, W, s, c, F, h, Fm, hF => by
    unfold chkS at h
    split at h
    · simp only [Bool.and_eq_true] at h
      exact st_while c.po (okT t c F h.1).1 (okSs b c F h.2 Fm hF) FUEL
    · cases h
  | .pass, Z, X, R, W, s, c, F, h, Fm, hF => by
    unfold chkS at h
    split at h
    · exact st_pass
    · cases h
  | .brk, Z, X, R, W, s, c, F, h, Fm, hF => by
    unfold chkS at h
    split at h
    · exact st_brk
    · cases h
  | .cont, Z, X, R, W, s, c, F, h, Fm, hF => by
    unfold chkS at h
    split at h
    · exact st_cnt
    · cases h
  | .never, Z, X, R, W, s, c, F, h, Fm, hF => st_never
  | .raise _ _, Z, X, R, W, s, c, F, h, Fm, hF => by unfold chkS at h; cases h
theorem okSs : ∀ (x : Ss) {Z : Sc} {X : Cx} {R : Rc} {W : WX} {s : List Stmt}, Ctx D Z n X W → Facts D P C R n X → chkSs D Z x s = true → ∀ Fm : Fr, Fm.vs = Z.vs → PSs X s (tS R (gOf X) W Fm (exs P C x))
  | .nil, Z, X, R, W, s, c, F, h, Fm, hF => by
    unfold chkSs at h
    split at h
    · exact ss_nil
    · cases h
  | .cons a r, Z, X, R, W, s, c, F, h, Fm, hF => by
    unfold chkSs at h
    split at h
    · simp only [Bool.and_eq_true] at h
      exact ss_cons (okSt a c F h.1 Fm hF) (okSs r c F h.2 Fm hF)
    · cases h
end
end
end Mp
namespace Mp
open PySem PySem.Spec PyProof.Rows L2
def bodyZ (N : List Str) (sc : Scope) (qual : Str) (lamb : Bool) : Sc := ⟨N, sc, List.range N.length, false, fun _ => true, qual ++ ".<locals>.", lamb⟩
def lamZ (N : List Str) (sc : Scope) (qual : Str) : Sc := ⟨N, sc, [], false, fun _ => false, qual ++ ".<locals>.", false⟩
def TabT (D : Dt) (base : Heap) (mg : Str → Option Value) (cdv : Value) (qual : Str) : Prop :=
  ∃ c PP, LamX.TabB base mg c PP ∧ cdv = .ref c ∧ (PP, (qual ++ ".<locals>.") ++ "<lambda>") ∈ D.tabs ∧ ∀ p ∈ D.tabs, p.1 = PP → p.2 = (qual ++ ".<locals>.") ++ "<lambda>"
section
variable {D : Dt} {Pg : Prog} {C : Call} {R : Rc} {P : Program} {w : World} {K : PySem.W.Frag} {mg : Str → Option Value} {base : Heap}
def FactsA (D : Dt) (Pg : Prog) (C : Call) (R : Rc) (n : Nat) (P : Program) (w : World) (K : PySem.W.Frag) (mg : Str → Option Value) (base : Heap) : Prop :=
  ∀ X : Cx, X.prog = P → X.w = w → X.K = K → X.mg = mg → X.base = base → Facts D Pg C R n X
theorem ctx_body {n : Nat} {N ps : List Str} {qual : Str} {scope : Scope} {f : Addr} {cdv : Value} {A : Around} {outer : List PySem.Env} {s : Shared} {H : Hp} {E : XK} {lamb : Bool} (S : FnScope N ps scope)
    (htab : lamb = true → TabT D base mg cdv qual) (hr : Room (n + 1) (A.deeper (envOfC qual scope s.heap.objs.size f cdv))) :
    Ctx D (bodyZ N scope qual lamb) n (cxOf (L2.CX P w) P w K mg base N qual scope f cdv A outer s H E) (fun c d _ H => E c d H) where
  N := rfl
  sc := rfl
  nd := S.nd
  calm := rfl
  room := hr
  ex := fun _ => rfl
  fnc := fun _ _ => rfl
  tk := takes_of rfl rfl rfl rfl
  qual := rfl
  tab := fun h => by
    obtain ⟨c, PP, h1, h2, h3, h4⟩ := htab h
    exact ⟨c, PP, h1, h2, h3, h4⟩
  cf := fun _ pins σ H' s' I y c e hc => by
    have h1 := I.ok.cab y c rfl e
    obtain ⟨_, o, ho, _⟩ := I.ok.funs.mem hc
    exact absurd (Heap.lt_size ho) (Nat.not_lt.mpr h1)
  po := passes_of rfl
theorem body_ends {Q : VK} {E : XK} {m : M (Fl × Env)} {G : Gm} {Fm : Fr} {φ : List Addr} {st : Sto} {H : Hp} (h : Post R (fun c d _ H => E c d H) [] φ H (RepV R) (M.bnd m (fun q => (match q.1 with
  | .nx => M.ret .non
  | .ret v => M.ret v
  | _ => M.bad : M PV)) st) Q) : PostS R G (fun c d _ H => E c d H) Fm φ H (m st) { nx := fun _ H' => Q .non H', rt := Q } := by
  unfold M.bnd at h
  cases e : m st with
  | ok q st1 =>
    rw [e] at h
    intro φ' H' σ' s1 S1 T1 E1 ag
    obtain ⟨fl, ρ⟩ := q
    cases fl with
    | nx => exact h φ' H' .non s1 S1 T1 rfl
    | ret v => exact fun u r => h φ' H' u s1 S1 T1 r
    | brk => exact h.elim
    | cnt => exact h.elim
  | exc c v s1 =>
    rw [e] at h
    exact fun φ' H' dx a b cc d σ' ag => h φ' H' dx a b cc d
  | bad =>
    rw [e] at h
    exact h
theorem def_run {n : Nat} {f : Addr} {name qual : Str} {params : Arguments} {bodyE : List Stmt} {scope : Scope} {dV kV doc pm cdv ct oc : Value} {an od : Option Addr} {osl : Array (Option Value)} {N ps : List Str} {d : Def} {lamb : Bool}
    (lk : K.lookup f = some ⟨oc, od, .func (PySem.W.fnOf name qual params bodyE scope dV kV doc pm an cdv ct), osl⟩) (hcd : PySem.W.codeIn K cdv qual = true) (S : FnScope N ps scope) (hnp : d.np = ps.length) (hnl : d.nl = N.length)
    (hck : chkSs D (bodyZ N scope qual lamb) d.body bodyE = true) (htab : lamb = true → TabT D base mg cdv qual) (hF : FactsA D Pg C R n P w K mg base) :
    FnM P w K mg base R (n + 2) f (PySem.W.fnOf name qual params bodyE scope dV kV doc pm an cdv ct) ps (body Pg C d) := by
  refine ⟨fun hid A outer s H args us vs ds φ st Q E hr e0 hb r hl S0 T0 x0 p => ?_⟩
  have hvl : vs.length = ps.length := by rw [← x0.length]; exact hl
  refine LamX.run_ofS lk hcd S hr e0 hb r hvl fun hr' => ?_
  have c := ctx_body (D := D) (P := P) (w := w) (K := K) (E := E) (outer := outer) (H := H) S htab hr'
  have F := hF (cxOf (L2.CX P w) P w K mg base N qual scope f cdv A outer s H E) rfl rfl rfl rfl rfl
  refine ⟨_, okSs (n := n) d.body c (F.h (hid := hid)) hck ⟨L2.start N vs, List.range N.length⟩ rfl, ?_⟩
  have hb0 : body Pg C d ds = M.bnd (exs Pg C d.body (ds.map some ++ List.replicate (d.nl - d.np) none)) fun q => (match q.1 with
    | .nx => M.ret .non
    | .ret v => M.ret v
    | _ => M.bad) := by
    unfold body
    rw [if_pos (by rw [hnp]; exact hl)]
    all_goals (refine congrArg _ (funext fun q => ?_); obtain ⟨f, ρ⟩ := q; cases f <;> rfl)
  rw [hb0] at p
  refine ⟨φ, st, _, S0, ?_, ⟨rfl, fun _ _ => rfl⟩, T0, body_ends p⟩
  unfold L2.start
  refine ⟨by rw [List.length_append, List.length_append, List.length_map, List.length_map, List.length_replicate, List.length_replicate, x0.length, hnp, hnl, hvl], fun i dd e => ?_⟩
  by_cases hi : i < ds.length
  · rw [List.getElem?_append_left (by rw [List.length_map]; exact hi), List.getElem?_map] at e
    cases q : ds[i]? with
    | none => rw [q] at e; cases e
    | some d' =>
      rw [q] at e
      cases e
      obtain ⟨v, g1, g2⟩ := x0.get q
      refine ⟨v, ?_, g2⟩
      rw [List.getElem?_append_left (by rw [List.length_map, ← x0.length]; exact hi), List.getElem?_map, g1]
      rfl
  · rw [List.getElem?_append_right (by rw [List.length_map]; omega), List.getElem?_replicate] at e
    split at e <;> cases e
structure LamT (D : Dt) (Pg : Prog) (k : Nat) (L : LamD) : Prop where
  ex : ∃ (l : Lam) (N ps : List Str), Pg.lams.lookup k = some l ∧ l.np = ps.length ∧ l.nl = N.length ∧ L.fr.length = l.caps.length ∧ NdefX.NScope N ps L.fr L.scope ∧
    (∀ (cl : List (Str × Addr)) (pm cv ctv : Value) (us : List Value), us.length = ps.length → bindArgs (PySem.W.kla_fn "<lambda>" L.qual L.params L.body L.scope cl pm cv ctv) ⟨us, []⟩ = pure (ps.zip us)) ∧ chkE (noLam D) (lamZ N L.scope L.qual) l.body L.body = true
theorem ctx_lam {n : Nat} {N ps : List Str} {L : LamD} {cl : List (Str × Addr)} {c f : Addr} {A : Around} {outer : List PySem.Env} {s : Shared} {H : Hp} {E : XK} (S : NdefX.NScope N ps L.fr L.scope) (hr : Room (n + 1) (A.deeper (NdefX.envF (nfOf L cl c) f s.heap.objs.size))) :
    Ctx D (lamZ N L.scope L.qual) n (lcx P w K mg base N L cl c f A outer s H E) (fun c d _ H => E c d H) where
  N := rfl
  sc := rfl
  nd := S.nd
  calm := rfl
  room := hr
  ex := fun _ => rfl
  fnc := fun _ h => by cases h
  tk := takes_of rfl rfl rfl rfl
  qual := rfl
  tab := fun h => by cases h
  cf := fun h => by cases h
  po := passes_of rfl
theorem lam_run {n : Nat} {C' : Nat → List PV → List PV → M PV} (hC : ∀ k cs args, C' k cs args = (match Pg.lams.lookup k with
      | some l => lamBody Pg C l cs args
      | none => M.bad)) (hL : ∀ k L, R.lam k L → LamT D Pg k L) (hF : FactsA D Pg C R n P w K mg base) : CloM P w K mg base R (n + 2) C' := by
  intro hid kk f A outer s H φ st vs avs cs ds us Q E hr e0 Cl xc rv xa S0 T0 p
  obtain ⟨L0, cl0, c0, pm0, ctv0, h1, _, _, _, _, _, _, h8⟩ := Cl
  have Cl : CloAt (R.h hid) ⟨s.heap, H, frs outer⟩ φ H f kk vs := ⟨L0, cl0, c0, pm0, ctv0, h1, by assumption, by assumption, by assumption, by assumption, by assumption, by assumption, h8⟩
  obtain ⟨l, N, ps, g1, g2, g3, g4, g5, g6, g7⟩ := (hL kk L0 h1).ex
  have e1 : C' kk cs ds = lamBody Pg C l cs ds := by rw [hC, g1]
  rw [e1] at p
  unfold lamBody at p
  by_cases hz : ds.length = l.np ∧ cs.length = l.caps.length
  · rw [if_pos hz] at p
    refine clo_run (np := l.np) (nl := l.nl) (nc := l.caps.length) (k := kk) (mb := fun ρ => ev Pg C ρ l.body) (n := n + 1) (fun L hL' => ?_) hr e0 Cl xc rv xa hz.1 S0 T0 p
    obtain ⟨l', N', ps', q1, q2, q3, q4, q5, q6, q7⟩ := (hL kk L hL').ex
    rw [g1] at q1
    cases q1
    exact ⟨N', ps', q2.symm, q3.symm, q4, q5, q6, fun cl c f A outer s H E hr' hcf => okE (n := n) l.body (ctx_lam (D := noLam D) q5 hr') ((hF (lcx P w K mg base N' L cl c f A outer s H E) rfl rfl rfl rfl rfl).noLam.h (hid := hid)) q7⟩
  · rw [if_neg hz] at p
    exact p.elim
theorem bad_fnm {k : Nat} {f : Addr} {fd : FuncData} {ps : List Str} : FnM P w K mg base R k f fd ps (fun _ => M.bad) := ⟨fun hid A outer s H args us vs ds φ st Q E hr e0 hb r hl S0 T0 x0 p => p.elim⟩
theorem bad_clo {k : Nat} : CloM P w K mg base R k (fun _ _ _ => M.bad) := fun hid kk f A outer s H φ st vs avs cs ds us Q E hr e0 Cl xc rv xa S0 T0 p => p.elim
structure DefG (D : Dt) (Pg : Prog) (K : PySem.W.Frag) (mg : Str → Option Value) (base : Heap) (k : Nat) (f : Addr) (fd : FuncData) (ps : List Str) : Prop where
  ex : ∃ (name qual : Str) (params : Arguments) (bodyE : List Stmt) (scope : Scope) (dV kV doc pm cdv ct oc : Value) (an od : Option Addr) (osl : Array (Option Value)) (N : List Str) (d : Def) (lamb : Bool),
    fd = PySem.W.fnOf name qual params bodyE scope dV kV doc pm an cdv ct ∧ K.lookup f = some ⟨oc, od, .func (PySem.W.fnOf name qual params bodyE scope dV kV doc pm an cdv ct), osl⟩ ∧ PySem.W.codeIn K cdv qual = true ∧ FnScope N ps scope ∧ Pg.defs.lookup k = some d ∧ d.np = ps.length ∧ d.nl = N.length ∧
    chkSs D (bodyZ N scope qual lamb) d.body bodyE = true ∧ (lamb = true → TabT D base mg cdv qual)
structure Stat (D : Dt) (Pg : Prog) (R : Rc) (P : Program) (w : World) (K : PySem.W.Frag) (mg : Str → Option Value) (base : Heap) : Prop where
  hK : R.K = K
  cts : R.cts = Pg.cts
  fld : R.fld = D.fld
  clsI : D.clsI = Pg.cls
  tabs : R.tabs = D.tabs
  lam : ∀ k L, D.lm k L = true → R.lam k L
  caps : ∀ k js, D.caps.lookup k = some js → ∃ l, Pg.lams.lookup k = some l ∧ l.caps = js
  lamT : ∀ k L, R.lam k L → LamT D Pg k L
  defn : ∀ x k, D.defn.lookup x = some k → ∃ (f : Addr) (fd : FuncData) (ps : List Str) (dvs : List V) (dds : List Value), mg x = some (.ref f) ∧ PySem.W.keepIn K (.ref f) = true ∧ DefG D Pg K mg base k f fd ps ∧
    Vals dvs dds ∧ (∀ hid φ H, RepL (R.h hid) φ H ((D.dfl.lookup k).getD []) dvs) ∧ ∀ j, Binds K fd ps (dds.drop j)
  glob : ∀ x g, D.glob.lookup x = some g → ∃ d v u, Pg.globs.lookup g = some d ∧ mg x = some u ∧ RelV v u ∧ ∀ hid φ H, RepV (R.h hid) φ H d v
  blt : ∀ x, D.blt.contains x = true → mg x = none
  mkc : ∀ x c, D.cls.lookup x = some c → mg x = some (.ref (R.cad c)) ∧ ∃ k f fd ps, Pg.cls.lookup c = some k ∧ Mk K (R.cad c) f ∧ DefG D Pg K mg base k f fd ps ∧ Binds K fd ps []
  cls : ClsOk R Pg.flds
  prop : ∀ c g j, Pg.props.lookup (c, g) = some j → ∃ (p f : Addr) (fd : FuncData) (ps : List Str), Cls K (R.cad c) ∧ PropOf K (R.cad c) (R.fnm g) p f ∧ DefG D Pg K mg base j f fd ps ∧ Binds K fd ps [] ∧ ps.length = 1
  isa : ∀ n ∈ ["int", "bool", "str", "tuple", "list", "dict"], ∀ t, tyOfN n = some t → IsaF R Pg.cls t (.type n)
  isaO : ∀ x c, D.cls.lookup x = some c → IsaF R Pg.cls (.own c) (.ref (R.cad c))
  xcl : XclOk R
  exm : ∀ x c f, D.exm.lookup x = some (c, f) → ExmF P K mg R x c f
  exm0 : ∀ x c, D.exm0.lookup x = some c → ExmF0 K mg R x c
  xtyB : ∀ x cs, D.xty.lookup x = some (true, cs) → ∃ n : String, bootBuiltins x = some (.type n) ∧ IsaF R Pg.cls (.xc cs) (.type n)
  xtyO : ∀ x cs, D.xty.lookup x = some (false, cs) → ∃ a : Addr, mg x = some (.ref a) ∧ IsaF R Pg.cls (.xc cs) (.ref a)
theorem fnm_of {m : Nat} {k : Nat} {f : Addr} {fd : FuncData} {ps : List Str} (G : DefG D Pg K mg base k f fd ps) (hF : ∀ j, j + 1 = m → FactsA D Pg (runs Pg j) R j P w K mg base) :
    FnM P w K mg base R (m + 1) f fd ps ((runs Pg m).def_ k) ∧ ∀ ds st, (runs Pg m).def_ k ds st ≠ .bad → ds.length = ps.length := by
  obtain ⟨name, qual, params, bodyE, scope, dV, kV, doc, pm, cdv, ct, oc, an, od, osl, N, d, lamb, rfl, h1, h2, h3, h4, h5, h6, h7, h8⟩ := G.ex
  cases m with
  | zero => exact ⟨bad_fnm, fun ds st h => absurd rfl h⟩
  | succ m =>
    have e : (runs Pg (m + 1)).def_ k = body Pg (runs Pg m) d := by
      funext args
      show (match Pg.defs.lookup k with
        | some d => body Pg (runs Pg m) d args
        | none => M.bad) = _
      rw [h4]
    rw [e]
    refine ⟨def_run h1 h2 h3 h5 h6 h7 h8 (hF m rfl), fun ds st h => ?_⟩
    unfold body at h
    by_cases hl : ds.length = d.np
    · rw [← h5]; exact hl
    · rw [if_neg hl] at h
      exact absurd rfl h
theorem facts_step (Z : Stat D Pg R P w K mg base) {m : Nat} (hF : ∀ j, j < m → FactsA D Pg (runs Pg j) R j P w K mg base) : FactsA D Pg (runs Pg m) R m P w K mg base := by
  intro X e1 e2 e3 e4 e5
  subst e1 e2 e3 e4 e5
  refine ⟨Z.hK, Z.cts, Z.fld, Z.clsI, Z.tabs, Z.lam, Z.caps, fun x k h => ?_, Z.glob, Z.blt, fun x c h => ?_, ?_, Z.cls, fun c g j h => ?_, Z.isa, Z.isaO, Z.xcl, Z.exm, Z.exm0, Z.xtyB, Z.xtyO⟩
  · obtain ⟨f, fd, ps, dvs, dds, h1, h2, h3, h4, h5, h6⟩ := Z.defn x k h
    obtain ⟨q1, q2⟩ := fnm_of (P := X.prog) (w := X.w) (R := R) (m := m) h3 fun j hj => hF j (by omega)
    exact ⟨f, fd, ps, dvs, dds, h1, h2, q1, q2, h4, h5, h6⟩
  · obtain ⟨h1, k, f, fd, ps, h2, h3, h4, h5⟩ := Z.mkc x c h
    refine ⟨h1, f, fd, ps, ?_⟩
    cases m with
    | zero => exact ⟨fun _ => M.bad, h3, bad_fnm, fun ds st h => absurd rfl h, h5, rfl⟩
    | succ m =>
      obtain ⟨q1, q2⟩ := fnm_of (P := X.prog) (w := X.w) (R := R) (m := m) h4 fun j hj => hF j (by omega)
      refine ⟨(runs Pg m).def_ k, h3, q1, q2, h5, ?_⟩
      funext args
      show (match Pg.cls.lookup c with
        | some k => mkM ((runs Pg m).def_ k) c args
        | none => M.bad) = _
      rw [h2]
  · cases m with
    | zero => exact bad_clo
    | succ m => exact lam_run (C := runs Pg m) (fun k cs args => rfl) Z.lamT (hF m (Nat.lt_succ_self m))
  · obtain ⟨p, f, fd, ps, h1, h2, h3, h4, h5⟩ := Z.prop c g j h
    cases m with
    | zero => exact ⟨p, f, fd, ps, h1, h2, bad_fnm, h4, h5⟩
    | succ m =>
      obtain ⟨q1, q2⟩ := fnm_of (P := X.prog) (w := X.w) (R := R) (m := m) h3 fun j hj => hF j (by omega)
      exact ⟨p, f, fd, ps, h1, h2, q1, h4, h5⟩
theorem facts_all (Z : Stat D Pg R P w K mg base) (m : Nat) : FactsA D Pg (runs Pg m) R m P w K mg base := by
  induction m using Nat.strongRecOn with
  | ind m ih => exact facts_step Z ih
theorem def_all (Z : Stat D Pg R P w K mg base) (m : Nat) {k : Nat} {f : Addr} {fd : FuncData} {ps : List Str} (G : DefG D Pg K mg base k f fd ps) : FnM P w K mg base R (m + 1) f fd ps ((runs Pg m).def_ k) :=
  (fnm_of G fun j _ => facts_all Z j).1
end
end Mp
namespace Mp
open PySem PySem.Spec PyProof.Rows L2 He
theorem oxB_ok {K : PySem.W.Frag} {C : Addr} (q : oxB K C = true) : ∃ nm q N bs bm sn sub ab col dd k0 k1 k2 k3 k5, K.lookup C = some (excClassObj nm q C N bs bm true sn sub ab col dd k0 k1 k2 k3 k5 "ValueError.__new__") ∧ PySem.HandSPX.refsVE bm = true ∧ PySem.W.alongIn K "__init__" bm = some (some (.builtin "ValueError.__init__")) := by
  unfold oxB at q
  split at q
  · rename_i dd cd sl ho
    split at q
    · rename_i C' bm k0 k1 k2 k3 n k5 hm hs
      simp only [Bool.and_eq_true, beq_iff_eq, Bool.not_eq_true', decide_eq_true_eq] at q
      obtain ⟨⟨⟨⟨⟨rfl, rfl⟩, hdel⟩, hdc⟩, ht⟩, ha⟩ := q
      obtain ⟨nm, bs, mro, ns, qn, hd, sn, sub, ab, col, del⟩ := cd
      dsimp only at hm hdel hdc
      subst hm hdel hdc
      have hsl : sl = #[k0, k1, k2, k3, some (.builtin "ValueError.__new__"), k5] := by
        obtain ⟨l⟩ := sl
        simp only at hs
        rw [hs]
      subst hsl
      exact ⟨nm, qn, ns, bs, bm, sn, sub, ab, col, dd, k0, k1, k2, k3, k5, ho, ht, ha⟩
    · cases q
  · cases q
theorem xclB_ok {K : PySem.W.Frag} {C : Addr} (h : xclB K C = true) : XcF K C := by
  obtain ⟨h1, h⟩ := ba h
  obtain ⟨h2, h⟩ := ba h
  obtain ⟨h3, h⟩ := ba h
  obtain ⟨h4, h⟩ := ba h
  obtain ⟨h5, h⟩ := ba h
  obtain ⟨h6, h⟩ := ba h
  obtain ⟨h7, h⟩ := ba h
  obtain ⟨h8, h9⟩ := ba h
  have xf := xfB_ok h5
  obtain ⟨nm, q, N, bs, bm, sn, sub, ab, col, dd, k0, k1, k2, k3, k5, e1, e2, e3⟩ := oxB_ok h1
  exact ⟨⟨⟨nm, q, N, bs, bm, sn, sub, ab, col, dd, k0, k1, k2, k3, k5, e1, e2⟩, of_decide_eq_true h2, xf.exC, of_decide_eq_true h3, h4⟩, xf, ⟨xf.ga, xf.gg, xf.exC, xf.hdC, of_decide_eq_true h6, of_decide_eq_true h7, of_decide_eq_true h8, of_decide_eq_true h9⟩⟩
theorem noneV_ok {v : Value} (h : noneV v = true) : v = .none := by
  cases v with
  | none => rfl
  | _ => cases h
theorem shB_ok {f : Str} {b : List Stmt} (h : shB f b = true) : ∃ p0 p1 p2 p3 p4 q0 q1 q2 q3, b = PySem.W.xiBody f f p0 p1 p2 p3 p4 q0 q1 q2 q3 ∧ (p2.endLine == p3.line) = true := by
  unfold shB at h
  split at h
  · simp only [Bool.and_eq_true] at h
    obtain ⟨⟨⟨⟨⟨h1, h2⟩, h3⟩, h4⟩, h5⟩, h6⟩ := h
    cases eq_of_beq h1
    cases eq_of_beq h2
    cases eq_of_beq h3
    cases eq_of_beq h4
    cases eq_of_beq h5
    exact ⟨_, _, _, _, _, _, _, _, _, rfl, h6⟩
  · cases h
theorem methEq_of {o : Expr} {name : Str} {ap cp : Pos} (h : (ap.endLine == cp.line) = true) : PySem.W.MethEq o name ap cp := by
  intro env
  refine ⟨do return (← importBound o env).getD true, ?_⟩
  have e : methodCallForm (([] : List Expr).length + ([] : List Keyword).length) (backTo cp (starEach [] env)) (backToKw cp (keywordEach [] env)) = true := rfl
  simp only [eval, methodCall, methodCallPos, e, h, calleeOf, Bool.not_true, Bool.false_or, if_true, pure_bind]
  rfl
theorem xiC_of {prog : Program} {K : PySem.W.Frag} {x f q : Str} {a : Arguments} {b : List Stmt} {sc : Scope} (hw : xiW K x = (some (("__init__" : Str), q, a, FuncBody.stmts b, sc, mainGlobals, [("__class__" : Str)], builtinsNs) : XiW)) (ha : shA f a = true) (h0 : xclB K (He.ga K x) = true) (h1 : xiB K prog.main.file (He.ga K x) (He.ma K (He.ga K x) "__init__") = true) (h2 : xi2B K (He.ga K x) (He.ma K (He.ga K x) "__init__") f = true)
    (hb : shB f b = true) (hs : shS f sc = true) (hf : f ≠ "self") (hd : (f == ("__debug__" : Str)) = false) :
    ∃ fd : FuncData, PySem.W.XiC prog K (He.ga K x) (He.ma K (He.ga K x) "__init__") fd f f ∧ ∃ (name qual : Str) (kV doc pm cdv ct : Value) (an : Option Addr) (cc : Addr), fd = PySem.W.ksFn name qual a b sc .none kV doc pm an cdv ct cc := by
  unfold xiW at hw
  cases e : K.lookup (He.ma K (He.ga K x) "__init__") with
  | none => rw [e] at hw; cases hw
  | some o =>
    obtain ⟨oc, od, dt, osl⟩ := o
    rw [e] at hw
    cases dt with
    | func fd =>
      obtain ⟨n1, n2, n3, n4, n5, n6, n7, n8, n9, n10, n11, n12, n13, n14, n15⟩ := fd
      have e2 : (some (n1, n2, n3, n4, n5, n6, n7.map (·.1), n15) : XiW) = some (("__init__" : Str), q, a, FuncBody.stmts b, sc, mainGlobals, [("__class__" : Str)], builtinsNs) := hw
      simp only [Option.some.injEq, Prod.mk.injEq] at e2
      obtain ⟨g1, g2, g3, g4, g5, g6, g7, g8⟩ := e2
      subst g1 g2 g3 g4 g5 g6 g8
      unfold xiB at h1
      rw [e] at h1
      simp only at h1
      split at h1
      · rename_i _ _ nm cc cda
        have g7 : nm = ("__class__" : Str) := by simpa using g7
        subst g7
        simp only [Bool.and_eq_true] at h1
        obtain ⟨⟨⟨c1, c2⟩, c3⟩, c4⟩ := h1
        have c4 := noneV_ok c4
        subst c4
        cases e3 : K.lookup cda with
        | none => rw [e3] at c2; cases c2
        | some o3 =>
          obtain ⟨oc3, od3, dt3, osl3⟩ := o3
          rw [e3] at c2
          cases dt3 with
          | fields vs =>
            simp only at c2
            cases e4 : (vs[2]? : Option Value) with
            | none => rw [e4] at c2; cases c2
            | some v =>
              rw [e4] at c2
              cases v with
              | str fl tf =>
                simp only at c2
                cases e5 : K.lookup cc with
                | none => rw [e5] at c3; cases c3
                | some o5 =>
                  obtain ⟨oc5, od5, dt5, osl5⟩ := o5
                  rw [e5] at c3
                  cases dt5 with
                  | cell vv =>
                    cases vv with
                    | none => cases c3
                    | some w =>
                      cases w with
                      | ref C' =>
                        simp only at c3
                        have c3 := eq_of_beq c3
                        subst c3
                        obtain ⟨p0, p1, p2, p3, p4, q0, q1, q2, q3, hbody, hline⟩ := shB_ok hb
                        subst hbody
                        unfold shS at hs
                        simp only [Bool.and_eq_true, decide_eq_true_eq, Bool.not_eq_true', List.all_eq_true, decide_eq_false_iff_not] at hs
                        obtain ⟨⟨⟨⟨⟨⟨⟨s1, s2⟩, s3⟩, s4⟩, s5⟩, s6⟩, s7⟩, s8⟩ := hs
                        unfold xi2B at h2
                        obtain ⟨x1, h2⟩ := ba h2
                        obtain ⟨x2, h2⟩ := ba h2
                        obtain ⟨x3, h2⟩ := ba h2
                        obtain ⟨x4, h2⟩ := ba h2
                        obtain ⟨x5, x6⟩ := ba h2
                        have X := xclB_ok h0
                        obtain ⟨y1, _⟩ := ba h0
                        have ha2 : ∃ ar, (n3.posonlyargs ++ n3.args).head? = some ar ∧ ar.arg = "self" := by
                          unfold shA at ha
                          split at ha
                          · simp only [Bool.and_eq_true] at ha
                            exact ⟨_, rfl, eq_of_beq ha.1⟩
                          · cases ha
                        obtain ⟨ar, a1, a2⟩ := ha2
                        refine ⟨_, ⟨⟨_, _, _, _, _, _, _, _, _, _, _, _, _, _, _, _, _, _, _, cc, cda, ar, vs, fl, tf, p0, p1, p2, p3, p4, q0, q1, q2, q3, rfl, e, c1, a1, a2, e3, e4, c2, e5, s1, s2, s3, s4, s5, s6, s7, s8, hf, hd, methEq_of hline⟩, oxB_ok y1, of_decide_eq_true x1, of_decide_eq_true x2, X.ox.sa, of_decide_eq_true x3, of_decide_eq_true x4, of_decide_eq_true x5, of_decide_eq_true x6⟩, _, _, _, _, _, _, _, _, cc, rfl⟩
                      | _ => cases c3
                  | _ => cases c3
              | _ => cases c2
          | _ => cases c2
      · cases h1
    | _ => cases hw
end Mp
namespace Mp
open PySem PySem.Spec PyProof.Rows L2 He
theorem binds_given {name qual : Str} {a : Arguments} {b : List Stmt} {sc : Scope} {kV doc pm cdv ct : Value} {an : Option Addr} {cc : Addr} (h : shA "given" a = true) (e : Addr) (u : Value) (s : Shared) :
    BindsTo s (PySem.W.ksFn name qual a b sc .none kV doc pm an cdv ct cc) ⟨[.ref e, u], []⟩ [("self", .ref e), ("given", u)] ∧ BindsTo s (PySem.W.ksFn name qual a b sc .none kV doc pm an cdv ct cc) ⟨[.ref e], [("given", u)]⟩ [("self", .ref e), ("given", u)] := by
  unfold shA at h
  split at h
  · simp only [Bool.and_eq_true] at h
    obtain ⟨h1, h2⟩ := h
    cases eq_of_beq h1
    cases eq_of_beq h2
    exact ⟨.of_eq (by rfl), .of_eq (by rfl)⟩
  · cases h
theorem binds_index {name qual : Str} {a : Arguments} {b : List Stmt} {sc : Scope} {kV doc pm cdv ct : Value} {an : Option Addr} {cc : Addr} (h : shA "index" a = true) (e : Addr) (u : Value) (s : Shared) :
    BindsTo s (PySem.W.ksFn name qual a b sc .none kV doc pm an cdv ct cc) ⟨[.ref e, u], []⟩ [("self", .ref e), ("index", u)] ∧ BindsTo s (PySem.W.ksFn name qual a b sc .none kV doc pm an cdv ct cc) ⟨[.ref e], [("index", u)]⟩ [("self", .ref e), ("index", u)] := by
  unfold shA at h
  split at h
  · simp only [Bool.and_eq_true] at h
    obtain ⟨h1, h2⟩ := h
    cases eq_of_beq h1
    cases eq_of_beq h2
    exact ⟨.of_eq (by rfl), .of_eq (by rfl)⟩
  · cases h
theorem exmF_of {prog : Program} {K : PySem.W.Frag} {mg : Str → Option Value} {R : Rc} {x nm : Str} {c f i : Nat} (hmem : c ∈ R.xcl) (hcad : R.cad c = He.ga K x) (hgm : mg x = some (.ref (He.ga K x))) (hsu : mg "super" = none) (htop : (prog.main.scope.names.lookup ("super" : Str)).isSome = false) (hfl : R.fld.lookup f = some nm) (hg : gix nm = true)
    (hw : xiW K x = xiVal prog x i) (h0 : xclB K (He.ga K x) = true) (h1 : xiB K prog.main.file (He.ga K x) (He.ma K (He.ga K x) "__init__") = true) (h2 : xi2B K (He.ga K x) (He.ma K (He.ga K x) "__init__") nm = true)
    (ha : shA nm (defArgs (iniOf (topS prog i))) = true) (hb : shB nm (defBody (iniOf (topS prog i))) = true) (hs : shS nm (defScope (iniOf (topS prog i))) = true) : ExmF prog K mg R x c f := by
  have hn : nm ≠ "self" ∧ (nm == ("__debug__" : Str)) = false := by
    unfold gix at hg
    rw [Bool.or_eq_true] at hg
    rcases hg with hg | hg
    · cases eq_of_beq hg
      decide
    · cases eq_of_beq hg
      decide
  obtain ⟨fd, T, name, qual, kV, doc, pm, cdv, ct, an, cc, rfl⟩ := xiC_of hw ha h0 h1 h2 hb hs hn.1 hn.2
  refine ⟨hmem, by rw [hcad]; exact hgm, by rw [hcad]; exact (xclB_ok h0).ox.kC, hsu, htop, _, _, nm, nm, hfl, by rw [hcad]; exact T, ?_, ?_⟩
  · intro e u s
    unfold gix at hg
    rw [Bool.or_eq_true] at hg
    rcases hg with hg | hg
    · cases eq_of_beq hg
      exact (binds_given ha e u s).1
    · cases eq_of_beq hg
      exact (binds_index ha e u s).1
  · intro e u s
    unfold gix at hg
    rw [Bool.or_eq_true] at hg
    rcases hg with hg | hg
    · cases eq_of_beq hg
      exact (binds_given ha e u s).2
    · cases eq_of_beq hg
      exact (binds_index ha e u s).2
theorem kitBs_ok {K : PySem.W.Frag} {as : List Addr} {u : Value} {cs : List Nat} (h : kitBs K as u cs = true) : (∀ (c : Nat) (a : Addr), as[c]? = some a → PySem.W.kitOne K (.ref a) u = some (decide (c ∈ cs))) ∧ ∀ n ∈ seven, PySem.W.kitOne K (.type n) u = some false := by
  unfold kitBs at h
  obtain ⟨h1, h2⟩ := ba h
  refine ⟨fun c a e => ?_, fun n hn => of_decide_eq_true (List.all_eq_true.mp h2 n hn)⟩
  have m : (a, c) ∈ as.zipIdx := by
    rw [List.mem_zipIdx_iff_getElem?]
    exact e
  exact of_decide_eq_true (List.all_eq_true.mp h1 (a, c) m)
theorem isaX_of {R : Rc} {cl : List (Nat × Nat)} {u : Value} {cs : List Nat} {as : List Addr} (hcl : cl = []) (hc : ∀ c ∈ R.xcl, as[c]? = some (R.cad c)) (h : kitBs R.K as u cs = true) : IsaF R cl (.xc cs) u := by
  obtain ⟨h1, h2⟩ := kitBs_ok h
  subst hcl
  refine ⟨fun n hn => h2 n hn, (fun c z => by cases z), fun cs' e c m => ?_⟩
  cases e
  exact h1 c _ (hc c m)
theorem isaT_of {R : Rc} {cl : List (Nat × Nat)} (hcl : cl = []) : ∀ n ∈ ["int", "bool", "str", "tuple", "list", "dict"], ∀ t, tyOfN n = some t → IsaF R cl t (.type n) := by
  subst hcl
  intro n hn t ht
  refine ⟨fun m hm => ?_, (fun c z => by cases z), fun cs e => ?_⟩
  · have key : ∀ n ∈ ["int", "bool", "str", "tuple", "list", "dict"], ∀ m ∈ ["NoneType", "bool", "int", "str", "tuple", "list", "dict"], (tyOfN n).map (fun t => kitB m n = some (tyAns t m)) = some (kitB m n = some ((((tyOfN n).map fun t => tyAns t m)).getD false)) := by
      intro n hn m hm
      cases q : tyOfN n with
      | none => simp [tyOfN] at q hn; rcases hn with rfl | rfl | rfl | rfl | rfl | rfl <;> simp at q
      | some t => rfl
    have k2 : (["int", "bool", "str", "tuple", "list", "dict"].all fun n => ["NoneType", "bool", "int", "str", "tuple", "list", "dict"].all fun m => decide (kitB m n = some ((((tyOfN n).map fun t => tyAns t m)).getD false))) = true := by decide +kernel
    have k3 := of_decide_eq_true (List.all_eq_true.mp (List.all_eq_true.mp k2 n hn) m hm)
    rw [ht] at k3
    exact kit_ty k3
  · subst e
    simp [tyOfN] at ht hn
    rcases hn with rfl | rfl | rfl | rfl | rfl | rfl <;> simp at ht
theorem defG_of {D : Dt} {Pg : Prog} {K : PySem.W.Frag} {mg : Str → Option Value} {base : Heap} {x q : Str} {params : Arguments} {bodyE : List Stmt} {scope : Scope} {dvs : List V} {kws : List (Str × V)} {f : Addr} {fd : FuncData} {N ps : List Str} {k : Nat} {df : Def} {lamb : Bool} (F : FunD K x q params bodyE scope dvs kws f fd)
    (S : FnScope N ps scope) (hd : Pg.defs.lookup k = some df) (hp : df.np = ps.length) (hl : df.nl = N.length) (hck : chkSs D (bodyZ N scope q lamb) df.body bodyE = true) (ht : ∀ cdv, lamb = true → TabT D base mg cdv q) : DefG D Pg K mg base k f fd ps := by
  obtain ⟨oc, od, dV, kV, doc, pm, an, cdv, ct, osl, rfl, h1, h2, _, _⟩ := F.ex
  exact ⟨x, q, params, bodyE, scope, dV, kV, doc, pm, cdv, ct, oc, an, od, osl, N, df, lamb, rfl, h1, h2, S, hd, hp, hl, hck, ht cdv⟩
def plainP (ps : List Str) : Arguments → Bool
  | ⟨[], as, none, [], [], none, []⟩ => decide (as.map (·.arg) = ps)
  | _ => false
theorem fn0 {P : Program} {w : World} {K : PySem.W.Frag} {mg : Str → Option Value} {base : Heap} {k : Nat} {f : Addr} {fd : FuncData} {ps : List Str} {sp : Sp} (F : FnOk P w K mg base (L2.CX P w) k f fd ps sp) : FnOk P w K mg base (fun _ _ _ _ _ _ => False) k f fd ps (fun vs H Q _ => sp vs H Q fun _ _ _ => False) := by
  refine ⟨fun vs H Q E h => F.len vs H Q _ h, fun A outer s H args us vs Q E hr e0 hb r h => codeAny_mono (F.run A outer s H args us vs Q _ hr e0 hb r h) fun r s' hq => ?_⟩
  cases r with
  | error e =>
    obtain ⟨_, _, _, _, _, _, _, _, _, _, _, _, z⟩ := hq
    exact z.elim
  | ok fl =>
    cases fl with
    | ret u => exact hq
    | next => exact hq
    | brk => exact hq
    | cont => exact hq
end Mp
namespace Mp.K01
open Mp PySem
abbrev N_law : List Str := ["script", "lap"]
def d_law : Def := ⟨1, 2, (.cons (.ret (.bf .all false (.cons (.lc false [1] (.name 1) (.rng (.bf .max2 false (.cons (.cst (.int 1)) (.cons (.bf .min2 false (.cons (.bf .len false (.cons (.var 0) .nil)) (.cons (.cst (.int 3)) .nil))) .nil)))) .non (.call 1 (.cons (.call 2 (.cons (.var 0) (.cons (.var 1) .nil)) []) .nil) [])) .nil))) .nil)⟩
abbrev N__law_right : List Str := ["bowl", "lap", "value", "given", "index", "every", "e", "k"]
def d__law_right : Def := ⟨1, 8, (.cons (.for_ (.name 1) (.rng (.cst (.int 4))) (.cons (.asg (.name 2) (.call 3 (.cons (.var 0) (.cons (.tup (.cons (.cst .non) (.cons (.cst (.int 0)) (.cons (.cst (.int 3)) (.cons (.tup .nil) (.cons (.tup (.cons (.cst (.int 1)) (.cons (.cst (.int 2)) .nil))) (.cons (.cst (.str "x")) (.cons (.cst (.bl true)) (.cons (.lst false (.cons (.cst (.int 1)) .nil)) (.cons (.dct .nil .nil) (.cons (.bin .pow false (.cst (.int 10)) (.cst (.int 40))) (.cons (.tup (.cons (.tup (.cons (.cst (.int 1)) .nil)) (.cons (.cst .non) .nil))) .nil)))))))))))) .nil)) [])) (.cons (.asg (.tup (.cons (.name 3) (.cons (.name 4) .nil))) (.tup (.cons (.call 4 (.cons (.var 2) (.cons (.cmp .gt (.var 1) (.cst (.int 1))) .nil)) []) (.cons (.call 5 (.cons (.var 2) (.cons (.cmp .gt (.var 1) (.cst (.int 1))) .nil)) []) .nil)))) (.cons (.asg (.name 5) (.bin .add false (.bin .add false (.var 3) (.var 4)) (.lst false (.cons (.exm 37 0 .nil) (.cons (.exm 38 0 .nil) .nil))))) (.cons (.cond (.cmp .ne (.lc false [6] (.name 6) (.of (.var 5)) .non (.call 6 (.cons (.var 6) .nil) [])) (.lc false [7] (.name 7) (.rng (.bf .len false (.cons (.var 5) .nil))) .non (.lst false (.cons (.var 7) .nil)))) (.cons (.ret (.cst (.bl false))) .nil) .nil) (.cons (.cond (.or (.not (.of (.bf .all false (.cons (.lc false [6] (.name 6) (.of (.var 3)) .non (.call 7 (.cons (.atr (.var 6) 0) (.cons (.var 2) .nil)) [])) .nil)))) (.not (.of (.bf .all false (.cons (.lc false [6] (.name 6) (.of (.var 4)) .non (.call 7 (.cons (.atr (.var 6) 1) (.cons (.var 2) .nil)) [])) .nil))))) (.cons (.ret (.cst (.bl false))) .nil) .nil) (.cons (.for_ (.name 6) (.of (.var 5)) (.cons (.cond (.or (.not (.of (.isi (.var 6) (.xc xc_GrantError)))) (.not (.of (.isi (.var 6) (.xc xc_ValueError))))) (.cons (.ret (.cst (.bl false))) .nil) .nil) (.cons (.cond (.or (.of (.isi (.var 6) (.xc xc_LookupError))) (.or (.of (.isi (.var 6) (.xc xc_ArithmeticError))) (.of (.isi (.var 6) (.xc xc_TypeError))))) (.cons (.ret (.cst (.bl false))) .nil) .nil) .nil))) .nil))))))) (.cons (.ret (.cst (.bl true))) .nil))⟩
abbrev N__law_bowl : List Str := ["script", "lap", "stir", "cell", "own"]
def d__law_bowl : Def := ⟨2, 5, (.cons (.asg (.name 2) (.bin .add false (.cst (.int 771041)) (.bin .mul false (.cst (.int 8819)) (.var 1)))) (.cons (.for_ (.name 3) (.of (.slc false (.var 0) .non (.som (.cst (.int 9))))) (.cons (.asg (.name 2) (.bin .mod false (.bf .int false (.cons (.bin .add false (.bin .add false (.bin .mul false (.var 2) (.cst (.int 48611))) (.bin .mul false (.bin .mod false (.bf .int false (.cons (.var 3) .nil)) (.cst (.int 2147483053))) (.cst (.int 19)))) (.cst (.int 41))) .nil)) (.cst (.int 2147483563)))) .nil)) (.cons (.asg (.name 4) (.ite (.cmp .lt (.var 1) (.bf .len false (.cons (.var 0) .nil))) (.bf .int false (.cons (.ix (.var 0) (.var 1)) .nil)) (.cst (.int 0)))) (.cons (.asg (.name 2) (.bin .mod false (.bf .int false (.cons (.bin .add false (.bin .add false (.bin .mul false (.var 2) (.cst (.int 53))) (.bin .mul false (.bin .mod false (.var 4) (.cst (.int 2147483053))) (.cst (.int 27011)))) (.cst (.int 11))) .nil)) (.cst (.int 2147483563)))) (.cons (.ret (.lst true (.cons (.ite (.or (.cmp .lt (.var 4) (.cst (.int 0))) (.cmp .ge (.var 4) (.bin .pow false (.cst (.int 10)) (.cst (.int 16))))) (.bf .abs true (.cons (.var 4) .nil)) (.cst (.int 0))) (.cons (.var 2) (.cons (.cst (.int 0)) .nil))))) .nil)))))⟩
abbrev N__law_of : List Str := ["bowl", "some"]
def d__law_of : Def := ⟨2, 2, (.cons (.ret (.ix (.var 1) (.call 8 (.cons (.var 0) (.cons (.bf .len false (.cons (.var 1) .nil)) .nil)) []))) .nil)⟩
abbrev N__law_with_given : List Str := ["value", "by_name", "found", "other"]
def d__law_with_given : Def := ⟨2, 4, (.cons (.asg (.name 2) (.lst false (.cons (.exm 0 0 (.cons (.var 0) .nil)) (.cons (.exm 1 0 (.cons (.var 0) .nil)) (.cons (.exm 2 0 (.cons (.var 0) .nil)) .nil))))) (.cons (.asg (.name 2) (.bin .add false (.var 2) (.lst false (.cons (.exm 3 0 (.cons (.var 0) .nil)) (.cons (.exm 4 0 (.cons (.var 0) .nil)) (.cons (.exm 5 0 (.cons (.var 0) .nil)) .nil)))))) (.cons (.asg (.name 2) (.bin .add false (.var 2) (.lst false (.cons (.exm 6 0 (.cons (.var 0) .nil)) (.cons (.exm 7 0 (.cons (.var 0) .nil)) (.cons (.exm 8 0 (.cons (.var 0) .nil)) .nil)))))) (.cons (.asg (.name 2) (.bin .add false (.var 2) (.lst false (.cons (.exm 9 0 (.cons (.var 0) .nil)) (.cons (.exm 10 0 (.cons (.var 0) .nil)) (.cons (.exm 11 0 (.cons (.var 0) .nil)) (.cons (.exm 12 0 (.cons (.var 0) .nil)) .nil))))))) (.cons (.asg (.name 2) (.bin .add false (.var 2) (.lst false (.cons (.exm 13 0 (.cons (.var 0) .nil)) (.cons (.exm 14 0 (.cons (.var 0) .nil)) (.cons (.exm 15 0 (.cons (.var 0) .nil)) (.cons (.exm 16 0 (.cons (.var 0) .nil)) .nil))))))) (.cons (.asg (.name 2) (.bin .add false (.var 2) (.lst false (.cons (.exm 17 0 (.cons (.var 0) .nil)) .nil)))) (.cons (.asg (.name 3) (.lst false (.cons (.exm 0 0 (.cons (.var 0) .nil)) (.cons (.exm 1 0 (.cons (.var 0) .nil)) (.cons (.exm 2 0 (.cons (.var 0) .nil)) (.cons (.exm 3 0 (.cons (.var 0) .nil)) .nil)))))) (.cons (.asg (.name 3) (.bin .add false (.var 3) (.lst false (.cons (.exm 4 0 (.cons (.var 0) .nil)) (.cons (.exm 5 0 (.cons (.var 0) .nil)) (.cons (.exm 6 0 (.cons (.var 0) .nil)) (.cons (.exm 7 0 (.cons (.var 0) .nil)) .nil))))))) (.cons (.asg (.name 3) (.bin .add false (.var 3) (.lst false (.cons (.exm 8 0 (.cons (.var 0) .nil)) (.cons (.exm 9 0 (.cons (.var 0) .nil)) (.cons (.exm 10 0 (.cons (.var 0) .nil)) (.cons (.exm 11 0 (.cons (.var 0) .nil)) (.cons (.exm 12 0 (.cons (.var 0) .nil)) .nil)))))))) (.cons (.asg (.name 3) (.bin .add false (.var 3) (.lst false (.cons (.exm 13 0 (.cons (.var 0) .nil)) (.cons (.exm 14 0 (.cons (.var 0) .nil)) (.cons (.exm 15 0 (.cons (.var 0) .nil)) (.cons (.exm 16 0 (.cons (.var 0) .nil)) (.cons (.exm 17 0 (.cons (.var 0) .nil)) .nil)))))))) (.cons (.ret (.ite (.of (.var 1)) (.var 2) (.var 3))) .nil)))))))))))⟩
abbrev N__law_with_index : List Str := ["value", "by_name", "found", "other"]
def d__law_with_index : Def := ⟨2, 4, (.cons (.asg (.name 2) (.lst false (.cons (.exm 18 1 (.cons (.var 0) .nil)) (.cons (.exm 19 1 (.cons (.var 0) .nil)) (.cons (.exm 20 1 (.cons (.var 0) .nil)) .nil))))) (.cons (.asg (.name 2) (.bin .add false (.var 2) (.lst false (.cons (.exm 21 1 (.cons (.var 0) .nil)) (.cons (.exm 22 1 (.cons (.var 0) .nil)) (.cons (.exm 23 1 (.cons (.var 0) .nil)) .nil)))))) (.cons (.asg (.name 2) (.bin .add false (.var 2) (.lst false (.cons (.exm 24 1 (.cons (.var 0) .nil)) (.cons (.exm 25 1 (.cons (.var 0) .nil)) (.cons (.exm 26 1 (.cons (.var 0) .nil)) .nil)))))) (.cons (.asg (.name 2) (.bin .add false (.var 2) (.lst false (.cons (.exm 27 1 (.cons (.var 0) .nil)) (.cons (.exm 28 1 (.cons (.var 0) .nil)) (.cons (.exm 29 1 (.cons (.var 0) .nil)) .nil)))))) (.cons (.asg (.name 2) (.bin .add false (.var 2) (.lst false (.cons (.exm 30 1 (.cons (.var 0) .nil)) (.cons (.exm 31 1 (.cons (.var 0) .nil)) (.cons (.exm 32 1 (.cons (.var 0) .nil)) .nil)))))) (.cons (.asg (.name 2) (.bin .add false (.var 2) (.lst false (.cons (.exm 33 1 (.cons (.var 0) .nil)) (.cons (.exm 34 1 (.cons (.var 0) .nil)) (.cons (.exm 35 1 (.cons (.var 0) .nil)) .nil)))))) (.cons (.asg (.name 2) (.bin .add false (.var 2) (.lst false (.cons (.exm 36 1 (.cons (.var 0) .nil)) .nil)))) (.cons (.asg (.name 3) (.lst false (.cons (.exm 18 1 (.cons (.var 0) .nil)) (.cons (.exm 19 1 (.cons (.var 0) .nil)) (.cons (.exm 20 1 (.cons (.var 0) .nil)) (.cons (.exm 21 1 (.cons (.var 0) .nil)) .nil)))))) (.cons (.asg (.name 3) (.bin .add false (.var 3) (.lst false (.cons (.exm 22 1 (.cons (.var 0) .nil)) (.cons (.exm 23 1 (.cons (.var 0) .nil)) (.cons (.exm 24 1 (.cons (.var 0) .nil)) (.cons (.exm 25 1 (.cons (.var 0) .nil)) .nil))))))) (.cons (.asg (.name 3) (.bin .add false (.var 3) (.lst false (.cons (.exm 26 1 (.cons (.var 0) .nil)) (.cons (.exm 27 1 (.cons (.var 0) .nil)) (.cons (.exm 28 1 (.cons (.var 0) .nil)) (.cons (.exm 29 1 (.cons (.var 0) .nil)) .nil))))))) (.cons (.asg (.name 3) (.bin .add false (.var 3) (.lst false (.cons (.exm 30 1 (.cons (.var 0) .nil)) (.cons (.exm 31 1 (.cons (.var 0) .nil)) (.cons (.exm 32 1 (.cons (.var 0) .nil)) (.cons (.exm 33 1 (.cons (.var 0) .nil)) .nil))))))) (.cons (.asg (.name 3) (.bin .add false (.var 3) (.lst false (.cons (.exm 34 1 (.cons (.var 0) .nil)) (.cons (.exm 35 1 (.cons (.var 0) .nil)) (.cons (.exm 36 1 (.cons (.var 0) .nil)) .nil)))))) (.cons (.ret (.ite (.of (.var 1)) (.var 2) (.var 3))) .nil)))))))))))))⟩
abbrev N__law_kinds : List Str := ["e", "found", "k"]
def d__law_kinds : Def := ⟨1, 3, (.cons (.asg (.name 1) (.lst false (.cons (.isi (.var 0) (.xc xc_InvalidNumber)) (.cons (.isi (.var 0) (.xc xc_InvalidKind)) (.cons (.isi (.var 0) (.xc xc_InvalidName)) .nil))))) (.cons (.asg (.name 1) (.bin .add false (.var 1) (.lst false (.cons (.isi (.var 0) (.xc xc_InvalidPurse)) (.cons (.isi (.var 0) (.xc xc_InvalidBill)) (.cons (.isi (.var 0) (.xc xc_InvalidPayment)) .nil)))))) (.cons (.asg (.name 1) (.bin .add false (.var 1) (.lst false (.cons (.isi (.var 0) (.xc xc_InvalidOrder)) (.cons (.isi (.var 0) (.xc xc_InvalidWord)) (.cons (.isi (.var 0) (.xc xc_InvalidCommand)) .nil)))))) (.cons (.asg (.name 1) (.bin .add false (.var 1) (.lst false (.cons (.isi (.var 0) (.xc xc_NotABook)) (.cons (.isi (.var 0) (.xc xc_NotAProgram)) (.cons (.isi (.var 0) (.xc xc_NotALedger)) .nil)))))) (.cons (.asg (.name 1) (.bin .add false (.var 1) (.lst false (.cons (.isi (.var 0) (.xc xc_NotPlain)) (.cons (.isi (.var 0) (.xc xc_UnknownPot)) (.cons (.isi (.var 0) (.xc xc_UnknownHouse)) .nil)))))) (.cons (.asg (.name 1) (.bin .add false (.var 1) (.lst false (.cons (.isi (.var 0) (.xc xc_UnknownNote)) (.cons (.isi (.var 0) (.xc xc_TooMany)) (.cons (.isi (.var 0) (.xc xc_OverBounds)) .nil)))))) (.cons (.asg (.name 1) (.bin .add false (.var 1) (.lst false (.cons (.isi (.var 0) (.xc xc_InvalidPots)) (.cons (.isi (.var 0) (.xc xc_InvalidMoves)) (.cons (.isi (.var 0) (.xc xc_InvalidCosts)) .nil)))))) (.cons (.asg (.name 1) (.bin .add false (.var 1) (.lst false (.cons (.isi (.var 0) (.xc xc_InvalidForecast)) (.cons (.isi (.var 0) (.xc xc_InvalidIndexes)) (.cons (.isi (.var 0) (.xc xc_InvalidNames)) .nil)))))) (.cons (.asg (.name 1) (.bin .add false (.var 1) (.lst false (.cons (.isi (.var 0) (.xc xc_InvalidCells)) (.cons (.isi (.var 0) (.xc xc_InvalidPrices)) (.cons (.isi (.var 0) (.xc xc_InvalidOwners)) .nil)))))) (.cons (.asg (.name 1) (.bin .add false (.var 1) (.lst false (.cons (.isi (.var 0) (.xc xc_InvalidPeople)) (.cons (.isi (.var 0) (.xc xc_InvalidWorks)) (.cons (.isi (.var 0) (.xc xc_InvalidPlan)) .nil)))))) (.cons (.asg (.name 1) (.bin .add false (.var 1) (.lst false (.cons (.isi (.var 0) (.xc xc_InvalidRates)) (.cons (.isi (.var 0) (.xc xc_InvalidQuotas)) (.cons (.isi (.var 0) (.xc xc_InvalidInstalments)) .nil)))))) (.cons (.asg (.name 1) (.bin .add false (.var 1) (.lst false (.cons (.isi (.var 0) (.xc xc_InvalidRanks)) (.cons (.isi (.var 0) (.xc xc_InvalidYears)) (.cons (.isi (.var 0) (.xc xc_InvalidCarries)) .nil)))))) (.cons (.asg (.name 1) (.bin .add false (.var 1) (.lst false (.cons (.isi (.var 0) (.xc xc_InvalidText)) (.cons (.isi (.var 0) (.xc xc_NoPaying)) (.cons (.isi (.var 0) (.xc xc_Over)) .nil)))))) (.cons (.ret (.lc false [2] (.name 2) (.rng (.bf .len false (.cons (.var 1) .nil))) (.som (.of (.ix (.var 1) (.var 2)))) (.var 2))) .nil))))))))))))))⟩
abbrev N__law_same : List Str := ["told", "due", "k"]
def d__law_same : Def := ⟨2, 3, (.cons (.cond (.of (.isi (.var 1) .tup)) (.cons (.cond (.or (.not (.of (.isi (.var 0) .tup))) (.cmp .ne (.bf .len false (.cons (.var 0) .nil)) (.bf .len false (.cons (.var 1) .nil)))) (.cons (.ret (.cst (.bl false))) .nil) .nil) (.cons (.ret (.bf .all false (.cons (.lc false [2] (.name 2) (.rng (.bf .len false (.cons (.var 1) .nil))) .non (.call 7 (.cons (.ix (.var 0) (.var 2)) (.cons (.ix (.var 1) (.var 2)) .nil)) [])) .nil))) .nil)) .nil) (.cons (.cond (.cmp .is (.var 1) (.cst .non)) (.cons (.ret (.cmp .is (.var 0) (.cst .non))) .nil) .nil) (.cons (.cond (.of (.isi (.var 1) .bool)) (.cons (.ret (.and (.isi (.var 0) .bool) (.cmp .eq (.var 0) (.var 1)))) .nil) .nil) (.cons (.cond (.of (.isi (.var 1) .int)) (.cons (.ret (.and (.isi (.var 0) .int) (.and (.not (.isi (.var 0) .bool)) (.cmp .eq (.var 0) (.var 1))))) .nil) .nil) (.cons (.cond (.of (.isi (.var 1) .str)) (.cons (.ret (.and (.isi (.var 0) .str) (.cmp .eq (.var 0) (.var 1)))) .nil) .nil) (.cons (.ret (.cmp .eq (.var 0) (.var 1))) .nil))))))⟩
abbrev N__law_draw : List Str := ["bowl", "many", "figure", "turn"]
def d__law_draw : Def := ⟨2, 4, (.cons (.cond (.cmp .gt (.ix (.var 0) (.cst (.int 0))) (.cst (.int 0))) (.cons (.asg (.tup (.cons (.sub (.var 0) (.cst (.int 0))) (.cons (.name 2) .nil))) (.bf .divmod true (.cons (.ix (.var 0) (.cst (.int 0))) (.cons (.var 1) .nil)))) (.cons (.ret (.var 2)) .nil)) .nil) (.cons (.asg (.sub (.var 0) (.cst (.int 2))) (.bin .add true (.ix (.var 0) (.cst (.int 2))) (.cst (.int 1)))) (.cons (.asg (.name 3) (.bin .mod false (.bf .int false (.cons (.bin .add false (.bin .mul false (.ix (.var 0) (.cst (.int 1))) (.cst (.int 39373))) (.bin .mul false (.cst (.int 17011)) (.ix (.var 0) (.cst (.int 2))))) .nil)) (.cst (.int 2147483563)))) (.cons (.asg (.sub (.var 0) (.cst (.int 1))) (.bin .mod true (.bf .int false (.cons (.bin .add false (.bin .mul false (.var 3) (.bin .add false (.bin .mod false (.bf .int false (.cons (.var 3) .nil)) (.cst (.int 4093))) (.cst (.int 30011)))) (.bin .mul false (.cst (.int 7)) (.ix (.var 0) (.cst (.int 2))))) .nil)) (.cst (.int 2147483563)))) (.cons (.ret (.bin .mod false (.bf .int false (.cons (.bin .fdiv false (.ix (.var 0) (.cst (.int 1))) (.cst (.int 733))) .nil)) (.var 1))) .nil)))))⟩
def prog : Prog := ⟨[(0, d_law), (1, d__law_right), (2, d__law_bowl), (3, d__law_of), (4, d__law_with_given), (5, d__law_with_index), (6, d__law_kinds), (7, d__law_same), (8, d__law_draw)], [], [], [], [], [], [], [], []⟩
def D : Dt := ⟨defn, [], [], blt, [], fld, [], [], [], exm, exm0, xty, fun _ _ => false⟩
end Mp.K01
set_option maxHeartbeats 0
namespace Mp.K01
open PySem PySem.Spec PyProof.Rows L2 He Mp
theorem s_law : FnScope N_law ["script"] (defScope (topS PySem.Challenge.pw_grantlines_k01_errors_each_of_its_own 50)) := ⟨rfl, rfl, rfl, by decide +kernel, rfl, by decide +kernel, by decide +kernel⟩
theorem c_law : chkSs D (bodyZ N_law (defScope (topS PySem.Challenge.pw_grantlines_k01_errors_each_of_its_own 50)) "law" false) d_law.body (defBody (topS PySem.Challenge.pw_grantlines_k01_errors_each_of_its_own 50)) = true := by decide +kernel
theorem s__law_right : FnScope N__law_right ["bowl"] (defScope (topS PySem.Challenge.pw_grantlines_k01_errors_each_of_its_own 49)) := ⟨rfl, rfl, rfl, by decide +kernel, rfl, by decide +kernel, by decide +kernel⟩
theorem c__law_right : chkSs D (bodyZ N__law_right (defScope (topS PySem.Challenge.pw_grantlines_k01_errors_each_of_its_own 49)) "_law_right" false) d__law_right.body (defBody (topS PySem.Challenge.pw_grantlines_k01_errors_each_of_its_own 49)) = true := by decide +kernel
theorem s__law_bowl : FnScope N__law_bowl ["script", "lap"] (defScope (topS PySem.Challenge.pw_grantlines_k01_errors_each_of_its_own 42)) := ⟨rfl, rfl, rfl, by decide +kernel, rfl, by decide +kernel, by decide +kernel⟩
theorem c__law_bowl : chkSs D (bodyZ N__law_bowl (defScope (topS PySem.Challenge.pw_grantlines_k01_errors_each_of_its_own 42)) "_law_bowl" false) d__law_bowl.body (defBody (topS PySem.Challenge.pw_grantlines_k01_errors_each_of_its_own 42)) = true := by decide +kernel
theorem s__law_of : FnScope N__law_of ["bowl", "some"] (defScope (topS PySem.Challenge.pw_grantlines_k01_errors_each_of_its_own 44)) := ⟨rfl, rfl, rfl, by decide +kernel, rfl, by decide +kernel, by decide +kernel⟩
theorem c__law_of : chkSs D (bodyZ N__law_of (defScope (topS PySem.Challenge.pw_grantlines_k01_errors_each_of_its_own 44)) "_law_of" false) d__law_of.body (defBody (topS PySem.Challenge.pw_grantlines_k01_errors_each_of_its_own 44)) = true := by decide +kernel
theorem s__law_with_given : FnScope N__law_with_given ["value", "by_name"] (defScope (topS PySem.Challenge.pw_grantlines_k01_errors_each_of_its_own 46)) := ⟨rfl, rfl, rfl, by decide +kernel, rfl, by decide +kernel, by decide +kernel⟩
theorem c__law_with_given : chkSs D (bodyZ N__law_with_given (defScope (topS PySem.Challenge.pw_grantlines_k01_errors_each_of_its_own 46)) "_law_with_given" false) d__law_with_given.body (defBody (topS PySem.Challenge.pw_grantlines_k01_errors_each_of_its_own 46)) = true := by decide +kernel
theorem s__law_with_index : FnScope N__law_with_index ["value", "by_name"] (defScope (topS PySem.Challenge.pw_grantlines_k01_errors_each_of_its_own 47)) := ⟨rfl, rfl, rfl, by decide +kernel, rfl, by decide +kernel, by decide +kernel⟩
theorem c__law_with_index : chkSs D (bodyZ N__law_with_index (defScope (topS PySem.Challenge.pw_grantlines_k01_errors_each_of_its_own 47)) "_law_with_index" false) d__law_with_index.body (defBody (topS PySem.Challenge.pw_grantlines_k01_errors_each_of_its_own 47)) = true := by decide +kernel
theorem s__law_kinds : FnScope N__law_kinds ["e"] (defScope (topS PySem.Challenge.pw_grantlines_k01_errors_each_of_its_own 48)) := ⟨rfl, rfl, rfl, by decide +kernel, rfl, by decide +kernel, by decide +kernel⟩
theorem c__law_kinds : chkSs D (bodyZ N__law_kinds (defScope (topS PySem.Challenge.pw_grantlines_k01_errors_each_of_its_own 48)) "_law_kinds" false) d__law_kinds.body (defBody (topS PySem.Challenge.pw_grantlines_k01_errors_each_of_its_own 48)) = true := by decide +kernel
theorem s__law_same : FnScope N__law_same ["told", "due"] (defScope (topS PySem.Challenge.pw_grantlines_k01_errors_each_of_its_own 45)) := ⟨rfl, rfl, rfl, by decide +kernel, rfl, by decide +kernel, by decide +kernel⟩
theorem c__law_same : chkSs D (bodyZ N__law_same (defScope (topS PySem.Challenge.pw_grantlines_k01_errors_each_of_its_own 45)) "_law_same" false) d__law_same.body (defBody (topS PySem.Challenge.pw_grantlines_k01_errors_each_of_its_own 45)) = true := by decide +kernel
theorem s__law_draw : FnScope N__law_draw ["bowl", "many"] (defScope (topS PySem.Challenge.pw_grantlines_k01_errors_each_of_its_own 43)) := ⟨rfl, rfl, rfl, by decide +kernel, rfl, by decide +kernel, by decide +kernel⟩
theorem c__law_draw : chkSs D (bodyZ N__law_draw (defScope (topS PySem.Challenge.pw_grantlines_k01_errors_each_of_its_own 43)) "_law_draw" false) d__law_draw.body (defBody (topS PySem.Challenge.pw_grantlines_k01_errors_each_of_its_own 43)) = true := by decide +kernel
end Mp.K01
set_option maxHeartbeats 4000000
namespace Mp.K01
open Mp PySem
theorem draw_ok (n : Nat) (s : Sto) (b : Nat) (a x y m : Int) (hb : s[b]? = some (.lst [.int a, .int x, .int y])) (hm : 0 < m) (hm2 : m < 1073741824) :
    ∃ r a' x' y', (runs prog (n + 1)).def_ 8 [.loc b, .int m] s = .ok (.int r) (s.set b (.lst [.int a', .int x', .int y'])) ∧ 0 ≤ r ∧ r < m := by
  have e : (runs prog (n + 1)).def_ 8 = body prog (runs prog n) d__law_draw := rfl
  rw [e]
  have hlt : b < s.length := (List.getElem?_eq_some_iff.mp hb).1
  by_cases ha : 0 < a
  · refine ⟨a.fmod m, a.fdiv m, x, y, ?_, ?_, ?_⟩
    · simp [body, d__law_draw, exs, ex, evT, ev, evs, evg, evgs, M.bnd, M.ret, M.grd, M.opt, getVar, getX, isClo, ixV, asS, atI, ixN, cmpV, cmpI, bfV, setV, tupG, consG, nilG, hb, ha, gsLen, truth, two, divmodV, hm, hm2]
    · exact Int.fmod_nonneg_of_pos a hm
    · exact Int.fmod_lt_of_pos a hm
  · let t := (x * 39373 + 17011 * (y + 1)).fmod 2147483563
    let x' := (t * (t.fmod 4093 + 30011) + 7 * (y + 1)).fmod 2147483563
    refine ⟨(x'.fdiv 733).fmod m, a, x', y + 1, ?_, ?_, ?_⟩
    · have g1 : ∀ t : Int, in64 (t.fmod 4093 + 30011) = true := by
        intro t
        have h1 := Int.fmod_nonneg_of_pos t (b := 4093) (by decide)
        have h2 := Int.fmod_lt_of_pos t (b := 4093) (by decide)
        unfold in64
        simp only [Bool.and_eq_true, decide_eq_true_eq]
        omega
      have ne : m ≠ 0 := by omega
      have hs : ∀ v, (s.set b v)[b]? = some v := fun v => List.getElem?_set_self hlt
      clear hlt
      have g2 : in64 39373 = true := by decide
      have g3 : in64 17011 = true := by decide
      have g4 : in64 7 = true := by decide
      simp [body, d__law_draw, exs, ex, evT, ev, evs, evg, evgs, M.bnd, M.ret, M.grd, M.opt, getVar, getX, isClo, ixV, asS, atI, ixN, cmpV, cmpI, bfV, setV, tupG, consG, nilG, hb, ha, gsLen, truth, two, divmodV, hm, hm2, binV, intV, ne, hs, List.set_set, g1, g2, g3, g4, t, x']
    · exact Int.fmod_nonneg_of_pos _ hm
    · exact Int.fmod_lt_of_pos _ hm
end Mp.K01
set_option maxHeartbeats 4000000
namespace Mp
open PySem
theorem M.go {α β : Type} {m : M α} {f : α → M β} {s s' : Sto} {a : α} (h : m s = .ok a s') : M.bnd m f s = f a s' := by unfold M.bnd; rw [h]
theorem exs_step {P : Prog} {C : Call} {a : S} {r : Ss} {ρ : Mp.Env} {s : Sto} {res : Out (Fl × Mp.Env)} (ρ' : Mp.Env) (s' : Sto) (h : ex P C a ρ s = .ok (.nx, ρ') s') (k : exs P C r ρ' s' = res) : exs P C (.cons a r) ρ s = res := by
  rw [← k]
  show M.bnd (ex P C a ρ) _ s = _
  rw [M.go h]
theorem body_ret {P : Prog} {C : Call} {np nl : Nat} {b : Ss} {args : List PV} {s s' : Sto} {v : PV} {ρ : Mp.Env} (hl : args.length = np) (h : exs P C b (args.map some ++ List.replicate (nl - np) none) s = .ok (.ret v, ρ) s') : body P C ⟨np, nl, b⟩ args s = .ok v s' := by
  unfold body
  rw [if_pos hl, M.go h]
  rfl
namespace K01
theorem slice_ints (ns : List Int) (lo hi : Option Int) : ∃ l : List Int, cut (ns.map PV.int) lo hi = l.map PV.int ∧ l.length ≤ ns.length := by
  refine ⟨cut ns lo hi, ?_, ?_⟩
  · unfold cut
    rw [List.length_map, List.map_take, List.map_drop]
  · unfold cut
    rw [List.length_take, List.length_drop]
    omega
theorem bowl_ok (n : Nat) (s : Sto) (ns : List Int) (hl : ns.length ≤ 63) (lap : Int) (h0 : 0 ≤ lap) (h3 : lap < 3) :
    ∃ a x y, (runs prog (n + 1)).def_ 2 [.scr ns, .int lap] s = .ok (.loc s.length) (s ++ [.lst [.int a, .int x, .int y]]) := by
  have e : (runs prog (n + 1)).def_ 2 = body prog (runs prog n) d__law_bowl := rfl
  rw [e]
  have g1 : in64 48611 = true := by decide
  have g2 : in64 19 = true := by decide
  have g3 : in64 53 = true := by decide
  have g4 : in64 27011 = true := by decide
  have g5 : in64 8819 = true := by decide
  have loop : ∀ (l : List Int) (st : Int) (c : Option PV), ∃ st' c', loopM [] (fun x ρ => M.bnd (evg prog (runs prog n) (.name 3) x ρ) (exs prog (runs prog n) (.cons (.asg (.name 2) (.bin .mod false (.bf .int false (.cons (.bin .add false (.bin .add false (.bin .mul false (.var 2) (.cst (.int 48611))) (.bin .mul false (.bin .mod false (.bf .int false (.cons (.var 3) .nil)) (.cst (.int 2147483053))) (.cst (.int 19)))) (.cst (.int 41))) .nil)) (.cst (.int 2147483563)))) .nil)))
      (l.map .int) [some (.scr ns), some (.int lap), some (.int st), c, none] s = .ok (.nx, [some (.scr ns), some (.int lap), some (.int st'), c', none]) s := by
    intro l
    induction l with
    | nil => exact fun st c => ⟨st, c, rfl⟩
    | cons i l ih =>
      intro st c
      obtain ⟨st', c', h⟩ := ih (((st * 48611 + (i.fmod 2147483053) * 19 + 41)).fmod 2147483563) (some (.int i))
      refine ⟨st', c', ?_⟩
      rw [← h]
      simp [loopM, exs, ex, evT, ev, evs, evg, evgs, M.bnd, M.ret, M.grd, M.opt, getVar, getX, isClo, binV, bfV, intV, g1, g2, watch]
  obtain ⟨l, hl1, hl2⟩ := slice_ints ns none (some 9)
  obtain ⟨st', c', hloop⟩ := loop l (771041 + 8819 * lap) none
  have ownE : ∃ w : Int, ∀ s, ev prog (runs prog n) [some (.scr ns), some (.int lap), some (.int st'), c', none] (.ite (.cmp .lt (.var 1) (.bf .len false (.cons (.var 0) .nil))) (.bf .int false (.cons (.ix (.var 0) (.var 1)) .nil)) (.cst (.int 0))) s = .ok (.int w) s := by
    by_cases q : lap < ns.length
    · have hz : ∃ w, ns[lap.toNat]? = some w := by
        refine ⟨ns[lap.toNat]'(by omega), List.getElem?_eq_getElem _⟩
      obtain ⟨w, hw⟩ := hz
      refine ⟨w, fun s => ?_⟩
      simp [ev, evT, evs, M.bnd, M.ret, M.grd, M.opt, getVar, getX, isClo, bfV, intV, lenV, asS, cmpV, cmpI, ixV, atI, ixN, q, h0, hw]
      obtain ⟨_, hh⟩ := List.getElem?_eq_some_iff.mp hw
      exact hh
    · refine ⟨0, fun s => ?_⟩
      simp [ev, evT, evs, M.bnd, M.ret, M.grd, M.opt, getVar, getX, isClo, bfV, intV, lenV, asS, cmpV, cmpI, ixV, atI, ixN, q]
  obtain ⟨w, hw⟩ := ownE
  refine ⟨if w < 0 ∨ 10000000000000000 ≤ w then (if w < 0 then -w else w) else 0, (st' * 53 + w.fmod 2147483053 * 27011 + 11).fmod 2147483563, 0, ?_⟩
  refine body_ret (ρ := [some (.scr ns), some (.int lap), some (.int ((st' * 53 + w.fmod 2147483053 * 27011 + 11).fmod 2147483563)), c', some (.int w)]) rfl ?_
  refine exs_step [some (.scr ns), some (.int lap), some (.int (771041 + 8819 * lap)), none, none] s ?_ ?_
  · simp [exs, ex, evT, ev, evs, evg, evgs, M.bnd, M.ret, M.grd, M.opt, getVar, getX, isClo, binV, g5]
  refine exs_step [some (.scr ns), some (.int lap), some (.int st'), c', none] s ?_ ?_
  · have hz : l.length ≤ SZ := by
      show _ ≤ 16777216
      omega
    simp only [ex, evi, ev, evo, M.bnd, M.ret, getVar, getX, isClo, M.grd]
    simp [slcV, asL2, hl1, newL, hz, M.bnd, M.ret, itemsOf, asS, watOf]
    exact hloop
  refine exs_step [some (.scr ns), some (.int lap), some (.int st'), c', some (.int w)] s ?_ ?_
  · simp only [ex, M.go (hw s)]
    simp [evg, M.bnd, M.ret]
  refine exs_step [some (.scr ns), some (.int lap), some (.int ((st' * 53 + w.fmod 2147483053 * 27011 + 11).fmod 2147483563)), c', some (.int w)] s ?_ ?_
  · simp [exs, ex, evT, ev, evs, evg, evgs, M.bnd, M.ret, M.grd, M.opt, getVar, getX, isClo, binV, bfV, intV, g3, g4]
  by_cases q1 : w < 0
  · simp [exs, ex, evT, ev, evs, evg, evgs, M.bnd, M.ret, M.grd, M.opt, getVar, getX, isClo, binV, bfV, intV, absV, cmpV, cmpI, truth, newL, q1, in64, show 3 ≤ SZ from by decide]
  · by_cases q2 : 10000000000000000 ≤ w
    · simp [exs, ex, evT, ev, evs, evg, evgs, M.bnd, M.ret, M.grd, M.opt, getVar, getX, isClo, binV, bfV, intV, absV, cmpV, cmpI, truth, newL, q1, q2, in64, show 3 ≤ SZ from by decide]
    · simp [exs, ex, evT, ev, evs, evg, evgs, M.bnd, M.ret, M.grd, M.opt, getVar, getX, isClo, binV, bfV, intV, absV, cmpV, cmpI, truth, newL, q1, q2, in64, show 3 ≤ SZ from by decide]
end K01
end Mp
set_option maxHeartbeats 4000000
namespace Mp
open PySem
def ssN : Ss → Nat → S
  | .nil, _ => .pass
  | .cons a _, 0 => a
  | .cons _ r, n + 1 => ssN r n
def forB : S → Ss
  | .for_ _ _ b => b
  | _ => .nil
def rhsE : S → E
  | .asg _ e => e
  | _ => .cst .non
def callAs : E → As
  | .call _ es _ => es
  | _ => .nil
namespace K01
def B : Ss := forB (ssN d__law_right.body 0)
theorem kinds_all (n c : Nat) (hc : c < 39) (f : Nat) (vs : List PV) (s : Sto) : (runs prog (n + 1)).def_ 6 [.exn c f vs] s = .ok (.lst [.int c]) s := match c, hc with
  | 0, _ => by kernel_rfl
  | 1, _ => by kernel_rfl
  | 2, _ => by kernel_rfl
  | 3, _ => by kernel_rfl
  | 4, _ => by kernel_rfl
  | 5, _ => by kernel_rfl
  | 6, _ => by kernel_rfl
  | 7, _ => by kernel_rfl
  | 8, _ => by kernel_rfl
  | 9, _ => by kernel_rfl
  | 10, _ => by kernel_rfl
  | 11, _ => by kernel_rfl
  | 12, _ => by kernel_rfl
  | 13, _ => by kernel_rfl
  | 14, _ => by kernel_rfl
  | 15, _ => by kernel_rfl
  | 16, _ => by kernel_rfl
  | 17, _ => by kernel_rfl
  | 18, _ => by kernel_rfl
  | 19, _ => by kernel_rfl
  | 20, _ => by kernel_rfl
  | 21, _ => by kernel_rfl
  | 22, _ => by kernel_rfl
  | 23, _ => by kernel_rfl
  | 24, _ => by kernel_rfl
  | 25, _ => by kernel_rfl
  | 26, _ => by kernel_rfl
  | 27, _ => by kernel_rfl
  | 28, _ => by kernel_rfl
  | 29, _ => by kernel_rfl
  | 30, _ => by kernel_rfl
  | 31, _ => by kernel_rfl
  | 32, _ => by kernel_rfl
  | 33, _ => by kernel_rfl
  | 34, _ => by kernel_rfl
  | 35, _ => by kernel_rfl
  | 36, _ => by kernel_rfl
  | 37, _ => by kernel_rfl
  | 38, _ => by kernel_rfl
  | k + 39, h => absurd h (by omega)
abbrev gs (v : PV) : List PV := (List.range 18).map fun c => .exn c 0 [v]
abbrev xs (v : PV) : List PV := (List.range 19).map fun c => .exn (18 + c) 1 [v]
abbrev ev9 (v : PV) : List PV := gs v ++ xs v ++ [.exn 37 0 [], .exn 38 0 []]
theorem wg_all (n : Nat) (v : PV) (hv : isClo v = false) (k : Bool) (s : Sto) : (runs prog (n + 1)).def_ 4 [v, .bl k] s = .ok (.lst (gs v)) s := by
  cases v <;> cases k <;> first | (cases hv; done) | kernel_rfl
theorem wi_all (n : Nat) (v : PV) (hv : isClo v = false) (k : Bool) (s : Sto) : (runs prog (n + 1)).def_ 5 [v, .bl k] s = .ok (.lst (xs v)) s := by
  cases v <;> cases k <;> first | (cases hv; done) | kernel_rfl
def vals (d : Nat) : List PV := [.non, .int 0, .int 3, .tup [], .tup [.int 1, .int 2], .str "x", .bl true, .lst [.int 1], .loc d, .int (10 ^ 40), .tup [.tup [.int 1], .non]]
theorem same_all (n d : Nat) (v : PV) (hv : v ∈ vals d) (s : Sto) (hd : s[d]? = some (.dct [])) : (runs prog (n + 3)).def_ 7 [v, v] s = .ok (.bl true) s := by
  simp only [vals, List.mem_cons, List.not_mem_nil, or_false] at hv
  rcases hv with rfl | rfl | rfl | rfl | rfl | rfl | rfl | rfl | rfl | rfl | rfl
  · kernel_rfl
  · kernel_rfl
  · kernel_rfl
  · kernel_rfl
  · kernel_rfl
  · kernel_rfl
  · kernel_rfl
  · kernel_rfl
  · have e : (runs prog (n + 3)).def_ 7 = body prog (runs prog (n + 2)) d__law_same := rfl
    rw [e]
    simp [body, d__law_same, exs, ex, evT, ev, evs, M.bnd, M.ret, M.grd, M.opt, getVar, getX, isClo, cmpV, isB, hd, truth, isNon, isD0]
  · kernel_rfl
  · kernel_rfl
end K01
end Mp
set_option maxHeartbeats 4000000
namespace Mp
open PySem
section
variable {P : Prog} {C : Call} {ρ ρ' : Mp.Env} {s s1 s2 : Sto} {v v1 v2 : PV}
theorem asg_ok {g : Tg} {e : E} (h : ev P C ρ e s = .ok v s1) (k : evg P C g v ρ s1 = .ok ρ' s2) : ex P C (.asg g e) ρ s = .ok (.nx, ρ') s2 := by
  show M.bnd (ev P C ρ e) (fun v => M.bnd (evg P C g v ρ) fun ρ' => M.ret (Fl.nx, ρ')) s = _
  rw [M.go h, M.go k]
  rfl
theorem call_ok {k : Nat} {es : As} {dv xs : List PV} {r : Out PV} (h : eva P C ρ es s = .ok xs s1) (q : C.def_ k (xs ++ dv) s1 = r) : ev P C ρ (.call k es dv) s = r := by
  show M.bnd (eva P C ρ es) (fun xs => C.def_ k (xs ++ dv)) s = _
  rw [M.go h]
  exact q
theorem eva1_ok {a : E} {r : As} {xs : List PV} (h : ev P C ρ a s = .ok v s1) (k : eva P C ρ r s1 = .ok xs s2) : eva P C ρ (.cons a r) s = .ok (v :: xs) s2 := by
  show M.bnd (ev P C ρ a) (fun x => M.bnd (eva P C ρ r) fun xs => M.ret (x :: xs)) s = _
  rw [M.go h, M.go k]
  rfl
theorem evs1_ok {a : E} {r : Es} {xs : List PV} (h : ev P C ρ a s = .ok v s1) (k : evs P C ρ r s1 = .ok xs s2) : evs P C ρ (.cons a r) s = .ok (v :: xs) s2 := by
  show M.bnd (ev P C ρ a) (fun x => M.bnd (evs P C ρ r) fun xs => M.ret (x :: xs)) s = _
  rw [M.go h, M.go k]
  rfl
theorem tup_ok {es : Es} {xs : List PV} (h : evs P C ρ es s = .ok xs s1) (hl : xs.length ≤ SZ) : ev P C ρ (.tup es) s = .ok (.tup xs) s1 := by
  show M.bnd (evs P C ρ es) newT s = _
  rw [M.go h]
  unfold newT M.grd
  rw [decide_eq_true hl]
  rfl
theorem lst_ok {es : Es} {xs : List PV} (h : evs P C ρ es s = .ok xs s1) (hl : xs.length ≤ SZ) : ev P C ρ (.lst false es) s = .ok (.lst xs) s1 := by
  show M.bnd (evs P C ρ es) (newL false) s = _
  rw [M.go h]
  unfold newL
  rw [if_pos hl]
  rfl
theorem mapM_true {f : PV → M (Option PV)} : ∀ (xs acc : List PV) (s : Sto), (∀ x ∈ xs, f x s = .ok (some (.bl true)) s) → Mp.mapM [] f xs acc s = .ok (acc ++ List.replicate xs.length (.bl true)) s
  | [], acc, s, _ => by
    show M.bnd (watch []) (fun _ => M.ret acc) s = _
    simp [M.bnd, watch, M.ret]
  | x :: r, acc, s, h => by
    show M.bnd (watch []) (fun _ => M.bnd (f x) fun o => Mp.mapM [] f r (addO acc o)) s = _
    rw [M.go (show watch [] s = .ok () s from rfl), M.go (h x (List.mem_cons_self ..))]
    rw [mapM_true r (addO acc (some (.bl true))) s fun y hy => h y (List.mem_cons_of_mem _ hy)]
    simp [addO, List.replicate_succ]
theorem asBls_rep : ∀ k : Nat, asBls (List.replicate k (.bl true)) = some (List.replicate k true)
  | 0 => rfl
  | k + 1 => by
    rw [List.replicate_succ, List.replicate_succ]
    show (asBls (List.replicate k (.bl true))).map (true :: ·) = _
    rw [asBls_rep k]
    rfl
theorem alls_ok {i j : Nat} {e : E} {zs : List PV} (hi : ρ[i]? = some (some (.lst zs))) (hz : zs.length ≤ SZ) (h : ∀ z ∈ zs, ev P C ((Mp.wipe [j] ρ).set j (some z)) e s = .ok (.bl true) s) :
    ev P C ρ (.bf .all false (.cons (.lc false [j] (.name j) (.of (.var i)) .non e) .nil)) s = .ok (.bl true) s := by
  have h1 : evi P C ρ (.of (.var i)) s = .ok (zs, []) s := by
    simp [evi, ev, getVar, getX, hi, isClo, M.bnd, M.ret, M.grd, itemsOf, asS, watOf]
  have h2 : ev P C ρ (.lc false [j] (.name j) (.of (.var i)) .non e) s = .ok (.lst (List.replicate zs.length (.bl true))) s := by
    show M.bnd (evi P C ρ (.of (.var i))) (fun xs => M.bnd (Mp.mapM xs.2 (fun x => M.nox (M.bnd (evg P C (.name j) x (Mp.wipe [j] ρ)) fun ρ' => M.bnd (evC P C ρ' .non) fun k => if k then M.bnd (ev P C ρ' e) fun y => M.ret (some y) else M.ret none)) xs.1 []) (newL false)) s = _
    rw [M.go h1]
    have h3 := mapM_true (f := fun x => M.nox (M.bnd (evg P C (.name j) x (Mp.wipe [j] ρ)) fun ρ' => M.bnd (evC P C ρ' .non) fun k => if k then M.bnd (ev P C ρ' e) fun y => M.ret (some y) else M.ret none)) zs [] s fun z hz => by
      show M.nox (M.bnd (evg P C (.name j) z (Mp.wipe [j] ρ)) fun ρ' => M.bnd (evC P C ρ' .non) fun k => if k then M.bnd (ev P C ρ' e) fun y => M.ret (some y) else M.ret none) s = _
      unfold M.nox
      rw [M.go (show evg P C (.name j) z (Mp.wipe [j] ρ) s = .ok ((Mp.wipe [j] ρ).set j (some z)) s from rfl), M.go (show evC P C ((Mp.wipe [j] ρ).set j (some z)) .non s = .ok true s from rfl)]
      simp only [if_true]
      rw [M.go (h z hz)]
      rfl
    rw [M.go h3, List.nil_append]
    unfold newL
    rw [if_pos (by rw [List.length_replicate]; exact hz)]
    rfl
  show M.bnd (evs P C ρ (.cons _ .nil)) (bfV .all false) s = _
  rw [M.go (evs1_ok h2 (show evs P C ρ .nil s = .ok [] s from rfl))]
  show M.bnd (asL2 (.lst (List.replicate zs.length (.bl true)))) (fun ys => M.bnd (M.opt (asBls ys)) fun bs => M.ret (PV.bl (bs.all id))) s = _
  rw [M.go (show asL2 (.lst (List.replicate zs.length (.bl true))) s = .ok _ s from rfl), asBls_rep]
  show Out.ok (PV.bl ((List.replicate zs.length true).all id)) s = _
  simp
end
namespace K01
theorem of_ok (n : Nat) (s : Sto) (b : Nat) (a x y : Int) (ys : List PV) (hb : s[b]? = some (.lst [.int a, .int x, .int y])) (h1 : 0 < ys.length) (h2 : ys.length < 1073741824) :
    ∃ v a' x' y', v ∈ ys ∧ (runs prog (n + 2)).def_ 3 [.loc b, .tup ys] s = .ok v (s.set b (.lst [.int a', .int x', .int y'])) := by
  obtain ⟨r, a', x', y', h, r1, r2⟩ := draw_ok n s b a x y ys.length hb (by omega) (by omega)
  have hr : r.toNat < ys.length := by omega
  refine ⟨ys[r.toNat], a', x', y', List.getElem_mem hr, ?_⟩
  have e : (runs prog (n + 2)).def_ 3 = body prog (runs prog (n + 1)) d__law_of := rfl
  rw [e]
  have q : ¬ r < 0 := by omega
  simp [body, d__law_of, exs, ex, ev, evs, eva, M.bnd, M.ret, M.grd, M.opt, getVar, getX, isClo, bfV, lenV, asS, h, ixV, atI, ixN, r1, r2, hr]
theorem turn_ok (n : Nat) (s : Sto) (b : Nat) (a x y : Int) (lap : Nat) (hlap : lap < 4) (c2 c3 c4 c5 c6 c7 : Option PV) (hb : s[b]? = some (.lst [.int a, .int x, .int y])) :
    ∃ s' d2 d3 d4 d5 d6 d7 a' x' y', exs prog (runs prog (n + 3)) B [some (.loc b), some (.int lap), c2, c3, c4, c5, c6, c7] s = .ok (.nx, [some (.loc b), some (.int lap), d2, d3, d4, d5, d6, d7]) s' ∧ s'[b]? = some (.lst [.int a', .int x', .int y']) := by
  have hlt : b < s.length := (List.getElem?_eq_some_iff.mp hb).1
  have e1 : eva prog (runs prog (n + 3)) [some (.loc b), some (.int lap), c2, c3, c4, c5, c6, c7] (callAs (rhsE (ssN B 0))) s = .ok [.loc b, .tup (vals s.length)] (s ++ [.dct []]) := by kernel_rfl
  have hb1 : (s ++ [MO.dct []])[b]? = some (.lst [.int a, .int x, .int y]) := by rw [List.getElem?_append_left hlt]; exact hb
  obtain ⟨v, a', x', y', hv, hc⟩ := of_ok (n + 1) (s ++ [.dct []]) b a x y (vals s.length) hb1 (by simp [vals]) (by simp [vals])
  generalize hs1 : (s ++ [MO.dct []]).set b (.lst [.int a', .int x', .int y']) = s1 at hc
  have hd : s1[s.length]? = some (.dct []) := by
    rw [← hs1, List.getElem?_set_ne (by omega)]
    simp
  have hb2 : s1[b]? = some (.lst [.int a', .int x', .int y']) := by
    rw [← hs1]
    exact List.getElem?_set_self (by simp; omega)
  have nc : isClo v = false := by
    simp only [vals, List.mem_cons, List.not_mem_nil, or_false] at hv
    rcases hv with rfl | rfl | rfl | rfl | rfl | rfl | rfl | rfl | rfl | rfl | rfl <;> rfl
  have hsame := same_all n s.length v hv s1 hd
  have hk : ∃ k : Bool, ∀ ρ : Mp.Env, ρ[1]? = some (some (.int lap)) → ev prog (runs prog (n + 3)) ρ (.cmp .gt (.var 1) (.cst (.int 1))) s1 = .ok (.bl k) s1 := by
    refine ⟨decide (1 < (lap : Int)), fun ρ hρ => ?_⟩
    simp [ev, getVar, getX, hρ, isClo, M.bnd, M.ret, M.grd, cmpV, cmpI, M.opt]
  obtain ⟨k, hk⟩ := hk
  have hB : B = .cons (ssN B 0) (.cons (ssN B 1) (.cons (ssN B 2) (.cons (ssN B 3) (.cons (ssN B 4) (.cons (ssN B 5) .nil))))) := rfl
  rw [hB]
  refine ⟨s1, some v, some (.lst (gs v)), some (.lst (xs v)), some (.lst (ev9 v)), some (.exn 38 0 []), c7, a', x', y', ?_, hb2⟩
  refine exs_step [some (.loc b), some (.int lap), some v, c3, c4, c5, c6, c7] s1 ?_ ?_
  · exact asg_ok (call_ok e1 hc) rfl
  refine exs_step [some (.loc b), some (.int lap), some v, some (.lst (gs v)), some (.lst (xs v)), c5, c6, c7] s1 ?_ ?_
  · have g1 := wg_all (n + 2) v nc k s1
    have g2 := wi_all (n + 2) v nc k s1
    have g3 := hk [some (.loc b), some (.int lap), some v, c3, c4, c5, c6, c7] rfl
    have gv : ev prog (runs prog (n + 3)) [some (.loc b), some (.int lap), some v, c3, c4, c5, c6, c7] (.var 2) s1 = .ok v s1 := by
      simp [ev, getVar, getX, M.bnd, M.ret, M.grd, nc]
    have ga : eva prog (runs prog (n + 3)) [some (.loc b), some (.int lap), some v, c3, c4, c5, c6, c7] (.cons (.var 2) (.cons (.cmp .gt (.var 1) (.cst (.int 1))) .nil)) s1 = .ok [v, .bl k] s1 := eva1_ok gv (eva1_ok g3 rfl)
    exact asg_ok (tup_ok (evs1_ok (call_ok ga g1) (evs1_ok (call_ok ga g2) rfl)) (by show 2 ≤ 16777216; decide)) rfl
  refine exs_step [some (.loc b), some (.int lap), some v, some (.lst (gs v)), some (.lst (xs v)), some (.lst (ev9 v)), c6, c7] s1 ?_ ?_
  · kernel_rfl
  refine exs_step [some (.loc b), some (.int lap), some v, some (.lst (gs v)), some (.lst (xs v)), some (.lst (ev9 v)), c6, c7] s1 ?_ ?_
  · kernel_rfl
  refine exs_step [some (.loc b), some (.int lap), some v, some (.lst (gs v)), some (.lst (xs v)), some (.lst (ev9 v)), c6, c7] s1 ?_ ?_
  · have h4 : ∀ (f i : Nat) (zs : List PV) (ρ : Mp.Env), ρ[i]? = some (some (.lst zs)) → zs.length ≤ SZ → ρ[2]? = some (some v) → 6 < ρ.length → (∀ z ∈ zs, ∃ c, z = .exn c f [v]) →
        ev prog (runs prog (n + 3)) ρ (.bf .all false (.cons (.lc false [6] (.name 6) (.of (.var i)) .non (.call 7 (.cons (.atr (.var 6) f) (.cons (.var 2) .nil)) [])) .nil)) s1 = .ok (.bl true) s1 := by
      intro f i zs ρ hi hz h2 h6 hall
      refine alls_ok hi hz fun z hz => ?_
      obtain ⟨c, rfl⟩ := hall z hz
      have hw : (Mp.wipe [6] ρ)[2]? = some (some v) := by
        show ((noClo ρ).set 6 none)[2]? = _
        rw [List.getElem?_set_ne (by decide)]
        unfold noClo
        rw [List.getElem?_map, h2]
        cases v <;> first | (cases nc; done) | rfl
      have hl : (Mp.wipe [6] ρ).length = ρ.length := by
        show ((noClo ρ).set 6 none).length = _
        rw [List.length_set]
        unfold noClo
        rw [List.length_map]
      have g6 : ev prog (runs prog (n + 3)) ((Mp.wipe [6] ρ).set 6 (some (.exn c f [v]))) (.atr (.var 6) f) s1 = .ok v s1 := by
        simp [ev, getVar, getX, isClo, M.bnd, M.ret, M.grd, M.opt, atrV, hl, h6]
      have g2 : ev prog (runs prog (n + 3)) ((Mp.wipe [6] ρ).set 6 (some (.exn c f [v]))) (.var 2) s1 = .ok v s1 := by
        have hw2 : ((Mp.wipe [6] ρ).set 6 (some (.exn c f [v])))[2]? = some (some v) := by
          rw [List.getElem?_set_ne (by decide)]
          exact hw
        simp [ev, getVar, getX, hw2, M.bnd, M.ret, M.grd, nc]
      exact call_ok (eva1_ok g6 (eva1_ok g2 rfl)) hsame
    have q1 := h4 0 3 (gs v) [some (.loc b), some (.int lap), some v, some (.lst (gs v)), some (.lst (xs v)), some (.lst (ev9 v)), c6, c7] rfl (by show 18 ≤ 16777216; decide) rfl (by show 6 < 8; decide) (fun z hz => by
      obtain ⟨c, _, rfl⟩ := List.mem_map.mp hz
      exact ⟨c, rfl⟩)
    have q2 := h4 1 4 (xs v) [some (.loc b), some (.int lap), some v, some (.lst (gs v)), some (.lst (xs v)), some (.lst (ev9 v)), c6, c7] rfl (by show 19 ≤ 16777216; decide) rfl (by show 6 < 8; decide) (fun z hz => by
      obtain ⟨c, _, rfl⟩ := List.mem_map.mp hz
      exact ⟨18 + c, rfl⟩)
    have hS : ssN B 4 = .cond (.or (.not (.of (.bf .all false (.cons (.lc false [6] (.name 6) (.of (.var 3)) .non (.call 7 (.cons (.atr (.var 6) 0) (.cons (.var 2) .nil)) [])) .nil)))) (.not (.of (.bf .all false (.cons (.lc false [6] (.name 6) (.of (.var 4)) .non (.call 7 (.cons (.atr (.var 6) 1) (.cons (.var 2) .nil)) [])) .nil))))) (.cons (.ret (.cst (.bl false))) .nil) .nil := rfl
    rw [hS]
    simp only [ex, evT, exs, M.bnd, M.ret, q1, q2, truth, Bool.not_true, Bool.false_eq_true, if_false]
  refine exs_step [some (.loc b), some (.int lap), some v, some (.lst (gs v)), some (.lst (xs v)), some (.lst (ev9 v)), some (.exn 38 0 []), c7] s1 ?_ ?_
  · kernel_rfl
  rfl
end K01
end Mp
set_option maxHeartbeats 4000000
namespace Mp
open PySem
theorem mapM_true2 {f : PV → M (Option PV)} : ∀ (xs acc : List PV) (s : Sto), (∀ x ∈ xs, ∀ s, ∃ s', f x s = .ok (some (.bl true)) s') → ∃ s', Mp.mapM [] f xs acc s = .ok (acc ++ List.replicate xs.length (.bl true)) s'
  | [], acc, s, _ => by
    refine ⟨s, ?_⟩
    show M.bnd (watch []) (fun _ => M.ret acc) s = _
    simp [M.bnd, watch, M.ret]
  | x :: r, acc, s, h => by
    obtain ⟨s1, h1⟩ := h x (List.mem_cons_self ..) s
    obtain ⟨s2, h2⟩ := mapM_true2 r (addO acc (some (.bl true))) s1 fun y hy => h y (List.mem_cons_of_mem _ hy)
    refine ⟨s2, ?_⟩
    show M.bnd (watch []) (fun _ => M.bnd (f x) fun o => Mp.mapM [] f r (addO acc o)) s = _
    rw [M.go (show watch [] s = .ok () s from rfl), M.go h1, h2]
    simp [addO, List.replicate_succ]
theorem exs_ret {P : Prog} {C : Call} {e : E} {r : Ss} {ρ : Mp.Env} {s s' : Sto} {v : PV} (h : ev P C ρ e s = .ok v s') : exs P C (.cons (.ret e) r) ρ s = .ok (.ret v, ρ) s' := by
  have h1 : ex P C (.ret e) ρ s = .ok (.ret v, ρ) s' := by
    show M.bnd (ev P C ρ e) (fun v => M.ret (Fl.ret v, ρ)) s = _
    rw [M.go h]
    rfl
  show M.bnd (ex P C (.ret e) ρ) _ s = _
  rw [M.go h1]
  rfl
theorem rng_ok {P : Prog} {C : Call} {a : E} {ρ : Mp.Env} {s s' : Sto} {m : Int} (h : ev P C ρ a s = .ok (.int m) s') (q : in62 m = true) : evi P C ρ (.rng a) s = .ok (rngL 0 m, []) s' := by
  simp [evi, M.bnd, h, M.grd, q, M.ret]
namespace K01
abbrev turnF (n : Nat) : PV → Mp.Env → M (Fl × Mp.Env) := fun x ρ => M.bnd (evg prog (runs prog (n + 3)) (.name 1) x ρ) (exs prog (runs prog (n + 3)) B)
theorem loop_ok (n b : Nat) : ∀ (l : List Nat) (s : Sto) (a x y : Int) (c1 c2 c3 c4 c5 c6 c7 : Option PV), (∀ k ∈ l, k < 4) → s[b]? = some (.lst [.int a, .int x, .int y]) →
    ∃ s' ρ', loopM [] (turnF n) (l.map fun (k : Nat) => PV.int k) [some (.loc b), c1, c2, c3, c4, c5, c6, c7] s = .ok (.nx, ρ') s'
  | [], s, a, x, y, c1, c2, c3, c4, c5, c6, c7, _, _ => ⟨s, _, rfl⟩
  | k :: l, s, a, x, y, c1, c2, c3, c4, c5, c6, c7, hk, hb => by
    obtain ⟨s1, d2, d3, d4, d5, d6, d7, a', x', y', h1, hb1⟩ := turn_ok n s b a x y k (hk k (List.mem_cons_self ..)) c2 c3 c4 c5 c6 c7 hb
    obtain ⟨s2, ρ2, h2⟩ := loop_ok n b l s1 a' x' y' (some (.int k)) d2 d3 d4 d5 d6 d7 (fun j hj => hk j (List.mem_cons_of_mem _ hj)) hb1
    refine ⟨s2, ρ2, ?_⟩
    rw [← h2]
    have h3 : turnF n (.int k) [some (.loc b), c1, c2, c3, c4, c5, c6, c7] s = .ok (.nx, [some (.loc b), some (.int k), d2, d3, d4, d5, d6, d7]) s1 := h1
    show M.bnd (watch []) (fun _ => M.bnd (turnF n (.int k) [some (.loc b), c1, c2, c3, c4, c5, c6, c7]) fun q => (match q.1 with
      | .nx => loopM [] (turnF n) (l.map fun (k : Nat) => PV.int k) q.2
      | .cnt => loopM [] (turnF n) (l.map fun (k : Nat) => PV.int k) q.2
      | .brk => M.ret (.nx, q.2)
      | .ret v => M.ret (.ret v, q.2))) s = _
    rw [M.go (show watch [] s = .ok () s from rfl), M.go h3]
theorem right_ok (n b : Nat) (s : Sto) (a x y : Int) (hb : s[b]? = some (.lst [.int a, .int x, .int y])) : ∃ s', (runs prog (n + 4)).def_ 1 [.loc b] s = .ok (.bl true) s' := by
  have e : (runs prog (n + 4)).def_ 1 = body prog (runs prog (n + 3)) d__law_right := rfl
  rw [e]
  obtain ⟨s', ρ', h⟩ := loop_ok n b [0, 1, 2, 3] s a x y none none none none none none none (by decide) hb
  refine ⟨s', ?_⟩
  refine body_ret (ρ := ρ') rfl ?_
  refine exs_step ρ' s' ?_ rfl
  have h2 : evi prog (runs prog (n + 3)) [some (.loc b), none, none, none, none, none, none, none] (.rng (.cst (.int 4))) s = .ok ([0, 1, 2, 3].map (fun (k : Nat) => PV.int k), []) s := by rfl
  show M.bnd (evi prog (runs prog (n + 3)) [some (.loc b), none, none, none, none, none, none, none] (.rng (.cst (.int 4)))) (fun xs => loopM xs.2 (turnF n) xs.1 [some (.loc b), none, none, none, none, none, none, none]) s = _
  rw [M.go h2]
  exact h
theorem law_ok (ns : List Int) (hl : ns.length ≤ 63) : ∃ s', (runs prog 5).def_ 0 [.scr ns] [] = .ok (.bl true) s' := by
  have e : (runs prog 5).def_ 0 = body prog (runs prog 4) d_law := rfl
  rw [e]
  have hit : ∃ l : List Int, l.length ≤ SZ ∧ (∀ k ∈ l, 0 ≤ k ∧ k < 3) ∧ evi prog (runs prog 4) [some (.scr ns), none] (.rng (.bf .max2 false (.cons (.cst (.int 1)) (.cons (.bf .min2 false (.cons (.bf .len false (.cons (.var 0) .nil)) (.cons (.cst (.int 3)) .nil))) .nil)))) [] = .ok (l.map PV.int, []) [] := by
    have hm : ∃ m : Int, 1 ≤ m ∧ m ≤ 3 ∧ ev prog (runs prog 4) [some (.scr ns), none] (.bf .max2 false (.cons (.cst (.int 1)) (.cons (.bf .min2 false (.cons (.bf .len false (.cons (.var 0) .nil)) (.cons (.cst (.int 3)) .nil))) .nil))) [] = .ok (.int m) [] := by
      refine ⟨if (if (3 : Int) < ns.length then 3 else (ns.length : Int)) > 1 then (if (3 : Int) < ns.length then 3 else (ns.length : Int)) else 1, ?_, ?_, ?_⟩
      · split <;> omega
      · split
        · split <;> omega
        · omega
      · simp [ev, evs, getVar, getX, isClo, M.bnd, M.ret, M.grd, bfV, lenV, asS, two]
    obtain ⟨m, m1, m2, hm⟩ := hm
    refine ⟨(List.range m.toNat).map fun (k : Nat) => (k : Int), ?_, ?_, ?_⟩
    · rw [List.length_map, List.length_range]
      show _ ≤ 16777216
      omega
    · intro k hk
      obtain ⟨j, hj, rfl⟩ := List.mem_map.mp hk
      have := List.mem_range.mp hj
      omega
    · have q : in62 m = true := by
        unfold in62
        simp only [Bool.and_eq_true, decide_eq_true_eq]
        omega
      rw [rng_ok hm q]
      simp [rngL, List.map_map, Function.comp_def]
  obtain ⟨l, l1, l2, hit⟩ := hit
  obtain ⟨s', hmap⟩ := mapM_true2 (f := fun x => M.nox (M.bnd (evg prog (runs prog 4) (.name 1) x (Mp.wipe [1] [some (.scr ns), none])) fun ρ' => M.bnd (evC prog (runs prog 4) ρ' .non) fun k => if k then M.bnd (ev prog (runs prog 4) ρ' (.call 1 (.cons (.call 2 (.cons (.var 0) (.cons (.var 1) .nil)) []) .nil) [])) fun y => M.ret (some y) else M.ret none)) (l.map PV.int) [] [] (by
    intro x hx s
    obtain ⟨k, hk, rfl⟩ := List.mem_map.mp hx
    obtain ⟨k1, k2⟩ := l2 k hk
    obtain ⟨a, x, y, hb⟩ := bowl_ok 3 s ns hl k k1 k2
    obtain ⟨s2, hr⟩ := right_ok 0 s.length (s ++ [.lst [.int a, .int x, .int y]]) a x y (by simp)
    refine ⟨s2, ?_⟩
    have g : ev prog (runs prog 4) [some (.scr ns), some (.int k)] (.call 1 (.cons (.call 2 (.cons (.var 0) (.cons (.var 1) .nil)) []) .nil) []) s = .ok (.bl true) s2 :=
      call_ok (eva1_ok (call_ok (xs := [.scr ns, .int k]) (s1 := s) rfl hb) rfl) hr
    show M.nox (M.bnd (evg prog (runs prog 4) (.name 1) (.int k) (Mp.wipe [1] [some (.scr ns), none])) fun ρ' => M.bnd (evC prog (runs prog 4) ρ' .non) fun k => if k then M.bnd (ev prog (runs prog 4) ρ' (.call 1 (.cons (.call 2 (.cons (.var 0) (.cons (.var 1) .nil)) []) .nil) [])) fun y => M.ret (some y) else M.ret none) s = _
    unfold M.nox
    rw [M.go (show evg prog (runs prog 4) (.name 1) (.int k) (Mp.wipe [1] [some (.scr ns), none]) s = .ok [some (.scr ns), some (.int k)] s from rfl), M.go (show evC prog (runs prog 4) [some (.scr ns), some (.int k)] .non s = .ok true s from rfl)]
    simp only [if_true]
    rw [M.go g]
    rfl)
  refine ⟨s', body_ret (ρ := [some (.scr ns), none]) rfl ?_⟩
  have h2 : ev prog (runs prog 4) [some (.scr ns), none] (.lc false [1] (.name 1) (.rng (.bf .max2 false (.cons (.cst (.int 1)) (.cons (.bf .min2 false (.cons (.bf .len false (.cons (.var 0) .nil)) (.cons (.cst (.int 3)) .nil))) .nil)))) .non (.call 1 (.cons (.call 2 (.cons (.var 0) (.cons (.var 1) .nil)) []) .nil) [])) [] = .ok (.lst (List.replicate (l.map PV.int).length (.bl true))) s' := by
    show M.bnd (evi prog (runs prog 4) [some (.scr ns), none] (.rng _)) (fun xs => M.bnd (Mp.mapM xs.2 (fun x => M.nox (M.bnd (evg prog (runs prog 4) (.name 1) x (Mp.wipe [1] [some (.scr ns), none])) fun ρ' => M.bnd (evC prog (runs prog 4) ρ' .non) fun k => if k then M.bnd (ev prog (runs prog 4) ρ' (.call 1 (.cons (.call 2 (.cons (.var 0) (.cons (.var 1) .nil)) []) .nil) [])) fun y => M.ret (some y) else M.ret none)) xs.1 []) (newL false)) [] = _
    rw [M.go hit, M.go hmap, List.nil_append]
    unfold newL
    rw [if_pos (by rw [List.length_replicate, List.length_map]; exact l1)]
    rfl
  have h3 : ev prog (runs prog 4) [some (.scr ns), none] (.bf .all false (.cons (.lc false [1] (.name 1) (.rng (.bf .max2 false (.cons (.cst (.int 1)) (.cons (.bf .min2 false (.cons (.bf .len false (.cons (.var 0) .nil)) (.cons (.cst (.int 3)) .nil))) .nil)))) .non (.call 1 (.cons (.call 2 (.cons (.var 0) (.cons (.var 1) .nil)) []) .nil) [])) .nil)) [] = .ok (.bl true) s' := by
    show M.bnd (evs prog (runs prog 4) [some (.scr ns), none] (.cons _ .nil)) (bfV .all false) [] = _
    rw [M.go (evs1_ok h2 (show evs prog (runs prog 4) [some (.scr ns), none] .nil s' = .ok [] s' from rfl))]
    show M.bnd (asL2 (.lst (List.replicate (l.map PV.int).length (.bl true)))) (fun ys => M.bnd (M.opt (asBls ys)) fun bs => M.ret (PV.bl (bs.all id))) s' = _
    rw [M.go (show asL2 (.lst (List.replicate (l.map PV.int).length (.bl true))) s' = .ok _ s' from rfl), asBls_rep]
    show Out.ok (PV.bl ((List.replicate (l.map PV.int).length true).all id)) s' = _
    simp
  exact exs_ret h3
end K01
end Mp
set_option maxHeartbeats 0
namespace Mp.K01
open PySem PySem.Spec PyProof.Rows L2 He Mp
def adr (K : PySem.W.Frag) (c : Nat) : Addr := He.ga K (xn.getD c "")
def Rk (K : PySem.W.Frag) : Rc := { K := K, lam := fun _ _ => False, cad := adr K, fld := fld, tabs := [], xfld := fun _ => "", cts := [], mnm := fun _ => "", xcl := List.range 39, hid := [] }
section
variable {K : PySem.W.Frag} {mg : Str → Option Value} {base : Heap}
theorem dfact (c : obsM chk fnL xsL K = (true, vf, vx)) {x : Str} {i : Nat} (h : (x, i) ∈ dtop) : ∃ fd, FunD K x x (defArgs (topS pr i)) (defBody (topS pr i)) (defScope (topS pr i)) [] [] (He.ga K x) fd := by
  have c1 : chk K = true := congrArg (fun z : AlM => z.1) c
  unfold chk at c1
  simp only [HandSHeadRun.frNat_eq, frL_eq] at c1
  have c2 : fnL.map (fnW K) = vf := congrArg (fun z : AlM => z.2.1) c
  obtain ⟨_, c1⟩ := ba c1
  obtain ⟨c3, _⟩ := ba c1
  have e : dtop.map (fun p => fnW K (p.1, none)) = dtop.map fun p => (defAt pr p.1 p.2).val := by
    have := c2
    rw [List.map_map] at this
    exact this
  exact DefD.funD (d := defAt pr x i) (List.map_inj_left.mp e (x, i) h) (List.all_eq_true.mp c3 (x, i) h)
theorem ffact (c : obsM chk fnL xsL K = (true, vf, vx)) {f : Fa} (h : f ∈ fas) : f.ok K = true := by
  have c1 : chk K = true := congrArg (fun z : AlM => z.1) c
  exact List.all_eq_true.mp (ba c1).1 f h
theorem glo_mem {x : Str} (h : x ∈ defn.map (·.1)) : Fa.glo x ∈ fas := by
  obtain ⟨p, hp, rfl⟩ := List.mem_map.mp h
  exact List.mem_append_left _ (List.mem_map.mpr ⟨p, hp, rfl⟩)
theorem xn_mem {x : Str} (h : x ∈ xn) : Fa.glo x ∈ fas := List.mem_append_right _ (List.mem_append_right _ (List.mem_append_right _ (List.mem_append_left _ (List.mem_map.mpr ⟨x, h, rfl⟩))))
theorem xpar_mem {x : Str} (h : x ∈ xpar) : Fa.glo x ∈ fas := List.mem_append_right _ (List.mem_append_right _ (List.mem_append_right _ (List.mem_append_right _ (List.mem_map.mpr ⟨x, h, rfl⟩))))
theorem blt_mem {x : Str} (h : x ∈ blt) : Fa.free x ∈ fas := List.mem_append_right _ (List.mem_append_left _ (List.mem_map.mpr ⟨x, h, rfl⟩))
theorem sup_mem : Fa.free "super" ∈ fas := List.mem_append_right _ (List.mem_append_right _ (List.mem_append_left _ (List.mem_singleton.mpr rfl)))
theorem t1 : xall.all (fun p => decide (p.2.1 < 39) && decide (xn[p.2.1]? = some p.1) && decide (fld.lookup p.2.2.1 = some p.2.2.2.2) && gix p.2.2.2.2) = true := by decide +kernel
theorem t2 : xall.all (fun p => shA p.2.2.2.2 (defArgs (iniOf (topS pr p.2.2.2.1))) && (shB p.2.2.2.2 (defBody (iniOf (topS pr p.2.2.2.1))) && shS p.2.2.2.2 (defScope (iniOf (topS pr p.2.2.2.1))))) = true := by decide +kernel
theorem t3 : exm0.all (fun p => decide (p.2 < 39) && decide (xn[p.2]? = some p.1)) = true := by decide +kernel
theorem t4 : exm = xall.map (fun p => (p.1, (p.2.1, p.2.2.1))) := by decide +kernel
theorem t5 : xty.all (fun p => (!p.2.1 || (match btys.lookup p.1 with
  | some n => (match bootBuiltins p.1 with
    | some (.type m) => decide (m = n)
    | _ => false)
  | none => false)) && (p.2.1 || xn.contains p.1 || xpar.contains p.1)) = true := by decide +kernel
theorem stat {w : World} (KX : K.In base) (G : base.Ns mainGlobals mg) (c : obsM chk fnL xsL K = (true, vf, vx)) : Stat D prog (Rk K) pr w K mg base := by
  have c1 : chk K = true := congrArg (fun z : AlM => z.1) c
  unfold chk at c1
  simp only [HandSHeadRun.frNat_eq, frL_eq] at c1
  obtain ⟨_, c1⟩ := ba c1
  obtain ⟨_, c1⟩ := ba c1
  obtain ⟨c3, c1⟩ := ba c1
  obtain ⟨c4, c1⟩ := ba c1
  obtain ⟨c5, c6⟩ := ba c1
  have hx : xall.map (fun p => xiW K p.1) = xall.map fun p => xiVal pr p.1 p.2.2.2.1 := by
    have : xsL.map (xiW K) = vx := congrArg (fun z : AlM => z.2.2) c
    rw [List.map_map] at this
    exact this
  have glo : ∀ {x : Str}, Fa.glo x ∈ fas → mg x = some (.ref (He.ga K x)) := fun h => glo_ok KX G (ffact c h)
  have df : ∀ {x : Str} {i k : Nat} {N ps : List Str} {d : Def}, (x, i) ∈ dtop → FnScope N ps (defScope (topS pr i)) → prog.defs.lookup k = some d → d.np = ps.length → d.nl = N.length → chkSs D (bodyZ N (defScope (topS pr i)) x false) d.body (defBody (topS pr i)) = true →
      (∀ (kV doc pm : Value) (an : Option Addr) (cdv ct : Value) (us : List Value), us.length = ps.length → bindArgs (PySem.W.fnOf x x (defArgs (topS pr i)) (defBody (topS pr i)) (defScope (topS pr i)) .none kV doc pm an cdv ct) ⟨us, []⟩ = pure (ps.zip us)) → Fa.glo x ∈ fas →
      ∃ (f : Addr) (fd : FuncData) (ps : List Str) (dvs : List V) (dds : List Value), mg x = some (.ref f) ∧ PySem.W.keepIn K (.ref f) = true ∧ DefG D prog K mg base k f fd ps ∧ Vals dvs dds ∧ (∀ hid φ H, RepL ((Rk K).h hid) φ H [] dvs) ∧ ∀ j, Binds K fd ps (dds.drop j) := fun {x i k N ps d} h1 h2 h3 h4 h5 h6 h7 h8 => by
    obtain ⟨fd, F⟩ := dfact c h1
    exact ⟨He.ga K x, fd, ps, [], [], glo h8, F.kp, defG_of F h2 h3 h4 h5 h6 (fun _ z => by cases z), .nil, fun _ _ _ => rfl, fun j => by rw [List.drop_nil]; exact F.bindsN h7⟩
  have xmem : ∀ c ∈ List.range 39, ∃ x, xn[c]? = some x ∧ adr K c = He.ga K x := fun c hc => by
    have hl : c < xn.length := by
      have := List.mem_range.mp hc
      show c < 39
      exact this
    exact ⟨xn[c], List.getElem?_eq_getElem hl, by unfold adr; rw [List.getD_eq_getElem?_getD, List.getElem?_eq_getElem hl]; rfl⟩
  refine ⟨rfl, rfl, rfl, rfl, rfl, fun k L h => (by cases h), fun k js h => (by cases h), fun k L h => h.elim, ?_, fun x g h => (by cases h), fun x h => ?_, fun x c h => (by cases h), ?_, fun c g j h => (by cases h), isaT_of rfl, fun x c h => (by cases h), fun c hc => ?_, ?_, ?_, ?_, ?_⟩
  · intro x k h
    have hm := PySem.mem_of_lookup h
    have hg := glo_mem (List.mem_map.mpr ⟨_, hm, rfl⟩)
    have e0 : ((D.dfl.lookup k).getD [] : List PV) = [] := rfl
    rw [e0]
    simp only [D, defn, List.mem_cons, List.not_mem_nil, or_false, Prod.mk.injEq] at hm
    rcases hm with ⟨rfl, rfl⟩ | ⟨rfl, rfl⟩ | ⟨rfl, rfl⟩ | ⟨rfl, rfl⟩ | ⟨rfl, rfl⟩ | ⟨rfl, rfl⟩ | ⟨rfl, rfl⟩ | ⟨rfl, rfl⟩ | ⟨rfl, rfl⟩
    · exact df (i := 50) (by simp [dtop]) s_law rfl rfl rfl c_law (fun _ _ _ _ _ _ us hl => match us, hl with | [_], _ => rfl) hg
    · exact df (i := 49) (by simp [dtop]) s__law_right rfl rfl rfl c__law_right (fun _ _ _ _ _ _ us hl => match us, hl with | [_], _ => rfl) hg
    · exact df (i := 42) (by simp [dtop]) s__law_bowl rfl rfl rfl c__law_bowl (fun _ _ _ _ _ _ us hl => match us, hl with | [_, _], _ => rfl) hg
    · exact df (i := 44) (by simp [dtop]) s__law_of rfl rfl rfl c__law_of (fun _ _ _ _ _ _ us hl => match us, hl with | [_, _], _ => rfl) hg
    · exact df (i := 46) (by simp [dtop]) s__law_with_given rfl rfl rfl c__law_with_given (fun _ _ _ _ _ _ us hl => match us, hl with | [_, _], _ => rfl) hg
    · exact df (i := 47) (by simp [dtop]) s__law_with_index rfl rfl rfl c__law_with_index (fun _ _ _ _ _ _ us hl => match us, hl with | [_, _], _ => rfl) hg
    · exact df (i := 48) (by simp [dtop]) s__law_kinds rfl rfl rfl c__law_kinds (fun _ _ _ _ _ _ us hl => match us, hl with | [_], _ => rfl) hg
    · exact df (i := 45) (by simp [dtop]) s__law_same rfl rfl rfl c__law_same (fun _ _ _ _ _ _ us hl => match us, hl with | [_, _], _ => rfl) hg
    · exact df (i := 43) (by simp [dtop]) s__law_draw rfl rfl rfl c__law_draw (fun _ _ _ _ _ _ us hl => match us, hl with | [_, _], _ => rfl) hg
  · exact free_ok KX G (ffact c (blt_mem (List.contains_iff_mem.mp h)))
  · refine ⟨fun c f h => (by cases h), fun f g x h1 h2 => ?_⟩
    have key : ∀ (f : Nat) (x : Str), fld.lookup f = some x → (f = 0 ∧ x = "given") ∨ (f = 1 ∧ x = "index") := fun f x h => by
      match f, h with
      | 0, h => exact .inl ⟨rfl, (Option.some.inj h).symm⟩
      | 1, h => exact .inr ⟨rfl, (Option.some.inj h).symm⟩
      | n + 2, h => cases h
    rcases key f x h1 with ⟨rfl, rfl⟩ | ⟨rfl, rfl⟩ <;> rcases key g _ h2 with ⟨rfl, e⟩ | ⟨rfl, e⟩ <;> first | rfl | exact absurd e (by decide)
  · obtain ⟨x, h1, h2⟩ := xmem c hc
    show XcF K (adr K c)
    rw [h2]
    exact xclB_ok (List.all_eq_true.mp c3 x (List.mem_of_getElem? h1))
  · intro x k f h
    have hm := PySem.mem_of_lookup h
    have hm : (x, (k, f)) ∈ exm := hm
    rw [t4] at hm
    obtain ⟨⟨x', k', f', i, nm⟩, hp, e⟩ := List.mem_map.mp hm
    simp only [Prod.mk.injEq] at e
    obtain ⟨rfl, rfl, rfl⟩ := e
    have a1 := List.all_eq_true.mp t1 _ hp
    simp only [Bool.and_eq_true, decide_eq_true_eq] at a1
    obtain ⟨⟨⟨a1, a2⟩, a3⟩, a4⟩ := a1
    obtain ⟨b1, b2⟩ := ba (List.all_eq_true.mp t2 _ hp)
    obtain ⟨b2, b3⟩ := ba b2
    obtain ⟨d1, d2⟩ := ba (List.all_eq_true.mp c4 _ hp)
    have hx' := List.mem_of_getElem? a2
    refine exmF_of (R := Rk K) (i := i) (nm := nm) (List.mem_range.mpr a1) ?_ (glo (xn_mem hx')) (free_ok KX G (ffact c sup_mem)) (by rfl) a3 a4 (List.map_inj_left.mp hx _ hp) (List.all_eq_true.mp c3 _ hx') d1 d2 b1 b2 b3
    show adr K k' = _
    unfold adr
    rw [List.getD_eq_getElem?_getD, a2]
    rfl
  · intro x k h
    have hm : (x, k) ∈ exm0 := PySem.mem_of_lookup h
    have a1 := List.all_eq_true.mp t3 _ hm
    simp only [Bool.and_eq_true, decide_eq_true_eq] at a1
    have hx' := List.mem_of_getElem? a1.2
    have ea : adr K k = He.ga K x := by
      unfold adr
      rw [List.getD_eq_getElem?_getD, a1.2]
      rfl
    refine ⟨List.mem_range.mpr a1.1, ?_, ?_, veBase, PySem.F.excBase_ValueError, ?_⟩
    · show mg x = some (.ref (adr K k))
      rw [ea]
      exact glo (xn_mem hx')
    · show PySem.W.keepIn K (.ref (adr K k)) = true
      rw [ea]
      exact (xclB_ok (List.all_eq_true.mp c3 _ hx')).ox.kC
    · show PySem.W.excIn K (adr K k) _ _ = true
      rw [ea]
      exact List.all_eq_true.mp c5 _ hm
  · intro x cs h
    have hm : (x, (true, cs)) ∈ xty := PySem.mem_of_lookup h
    have a1 := (ba (List.all_eq_true.mp t5 _ hm)).1
    simp only [Bool.not_true, Bool.false_or] at a1
    have a2 := List.all_eq_true.mp c6 _ hm
    simp only [if_true] at a2
    cases e : btys.lookup x with
    | none => rw [e] at a1; cases a1
    | some n =>
      rw [e] at a1 a2
      simp only at a1 a2
      cases e2 : bootBuiltins x with
      | none => rw [e2] at a1; cases a1
      | some v =>
        rw [e2] at a1
        cases v with
        | type m =>
          simp only [decide_eq_true_eq] at a1
          subst a1
          exact ⟨m, rfl, isaX_of (R := Rk K) rfl (fun c hc => by
            obtain ⟨y, g1, g2⟩ := xmem c hc
            show (xn.map (He.ga K))[c]? = some (adr K c)
            rw [List.getElem?_map, g1, g2]
            rfl) a2⟩
        | _ => cases a1
  · intro x cs h
    have hm : (x, (false, cs)) ∈ xty := PySem.mem_of_lookup h
    have a1 := (ba (List.all_eq_true.mp t5 _ hm)).2
    simp only [Bool.false_or, Bool.or_eq_true] at a1
    have a2 := List.all_eq_true.mp c6 _ hm
    simp only [Bool.false_eq_true, if_false] at a2
    refine ⟨He.ga K x, ?_, isaX_of (R := Rk K) rfl (fun c hc => by
      obtain ⟨y, g1, g2⟩ := xmem c hc
      show (xn.map (He.ga K))[c]? = some (adr K c)
      rw [List.getElem?_map, g1, g2]
      rfl) a2⟩
    rcases a1 with a1 | a1
    · exact glo (xn_mem (List.contains_iff_mem.mp a1))
    · exact glo (xpar_mem (List.contains_iff_mem.mp a1))
end
end Mp.K01
set_option maxHeartbeats 0
namespace Mp.K01
open PySem PySem.Spec PyProof.Rows L2 He Mp
theorem scr_at {K : PySem.W.Frag} {H : Hp} {a : Addr} {ns : List Int} (hO : Only H) (hS : SqL K H a (ns.map V.int)) : ScrAt (Rk K) [] H a ns := by
  rcases hS with (h | ⟨o, h⟩) | h
  · rcases hO a with z | ⟨o, xs, z⟩
    · rw [h] at z; cases z
    · rw [h] at z; cases z
  · exact .inl ⟨_, ⟨h, ⟨by simp, by simp [Rk]⟩, fun ps z => by cases z⟩, .inr ⟨o, rfl⟩⟩
  · exact .inr h
theorem entry {K : PySem.W.Frag} {H : Hp} {a : Addr} {ns : List Int} (hl : ns.length ≤ 63) (hO : Only H) (hS : SqL K H a (ns.map V.int)) : spM (Rk K) 1 ((runs prog 5).def_ 0) [.ref a] H (fun v _ => v = .bl true) fun _ _ _ => False := by
  obtain ⟨s', h⟩ := law_ok ns hl
  refine ⟨[], [], [.scr ns], rfl, ⟨rfl, List.nodup_nil, fun n o a e => by simp at e, fun D hD => by simp [Rk] at hD⟩, fun p hp => by simp [Rk] at hp, ⟨.ref a, [], rfl, ⟨a, (), rfl, scr_at hO hS, by show _ ≤ 16777216; omega⟩, rfl⟩, ?_⟩
  rw [h]
  exact fun φ' H' v _ _ _ r => r
end Mp.K01
open PySem PySem.W PySem.Calls PyProof.Rows
theorem PySem.Challenge.cw_grantlines_k01_errors_each_of_its_own_holds : PySem.Challenge.rw_grantlines_k01_errors_each_of_its_own.Holds := by
  w_on; o_law
  refine HandSHeadRun.head_any (r := OpenLaw.row PySem.Challenge.rw_grantlines_k01_errors_each_of_its_own) (q := view (OpenLaw.row PySem.Challenge.rw_grantlines_k01_errors_each_of_its_own).prog [50]) (H := Mp.K01.hk) (ob := Mp.K01.ob) (M := 20000) (loose := Mp.K01.topN) (d := HandSHeadRun.topDef (OpenLaw.row PySem.Challenge.rw_grantlines_k01_errors_each_of_its_own).prog 50) (kwd := []) Mp.K01.ob_eq
    (by kernel_rfl) (fun s => by kernel_rfl) Mp.K01.run (by kernel_rfl) (by kernel_rfl) (by kernel_rfl) (by rfl) (by first | assumption | decide +kernel) (by decide +kernel) ⟨rfl, rfl, rfl, rfl, rfl, by decide +kernel⟩ ?hw ?hc
  case hw => w_witness2
  case hc =>
    refine L2.walk_ofE (l := PySem.Challenge.rw_grantlines_k01_errors_each_of_its_own) (n := 63) (k := 6) (x := "script") (CX := fun _ _ _ _ _ _ => False) rfl (by decide) (by kernel_rfl) ⟨rfl, by decide, by decide⟩ ?F (fun _ _ _ _ z => z)
    intro w mg fa h Y G hmg0
    obtain ⟨K, KX, c⟩ := Y
    have hmg : mg ("law" : PySem.Str) = some (.ref fa) := by
      have e : (HandSHeadRun.topDef (OpenLaw.row PySem.Challenge.rw_grantlines_k01_errors_each_of_its_own).prog 50).name = ("law" : PySem.Str) := by kernel_rfl
      rw [← e]
      exact hmg0
    obtain ⟨fd, F⟩ := Mp.K01.dfact c (x := "law") (i := 50) (by simp [Mp.K01.dtop])
    have e := hmg.symm.trans (He.glo_ok KX G (Mp.K01.ffact c (Mp.K01.glo_mem (x := "law") (by simp [Mp.K01.defn]))))
    cases e
    have b := L2.FunD.bindsA (ps := ["script"]) F fun _ _ _ _ _ _ us hl => match us, hl with | [_], _ => rfl
    refine ⟨K, fd, fun vs H Q _ => Mp.spM (Mp.K01.Rk K) 1 ((Mp.runs Mp.K01.prog 5).def_ 0) vs H Q fun _ _ _ => False, KX, fun s v => b s [v] rfl, fun H a ns hl hO hS => Mp.K01.entry hl hO hS, fun base KB GB => ?_⟩
    exact Mp.fn0 (w := w) (Mp.def_all (Mp.K01.stat (w := w) KB GB c) 5 (Mp.defG_of F Mp.K01.s_law rfl rfl rfl Mp.K01.c_law (fun _ z => by cases z))).ok


import PyProof.Rows.All
import PySem.Challenge.RW_causeloft_k00_exact_ratios
import Wide.All
import OpenK.AllK
import HandS.HeadNt
import HandS.ExcCtx
import HandS.IsInst
import Lean
import HandS.Head0
import HandS.Head1
import HandS.Head2
import HandS.Head3
import HandS.HeadEnd
import Wide.FinOn
import KE.KExcSuper
import KE.KExcIs
import HandS.ForMost
import HandS.Exc
import HandS.ExcInit
import HandS.ExcField
import HandS.ExcIs
import KE.KCallOwn
import KE.KOpsOwn
import HandS.OwnEq
import HandS.HotCalls
import HandS.CallSlots
import HandS.FStr
import HandS.Defaults
import HandS.Gcd
import HandS.Wide
import HandS.RaiseMore
import HandS.MakeKw
import HandS.TryMany
import HandS.Codes
import HandS.Walk
set_option Elab.async false
set_option linter.all false
set_option maxRecDepth 100000
set_option maxHeartbeats 0
namespace L2.LX
open PySem PySem.Spec PyProof.Rows L2
open PySem.W (Frag)
abbrev ga (K : Frag) (x : Str) : Addr := He.ga K x
abbrev ma (K : Frag) (C : Addr) (m : Str) : Addr := He.ma K C m
/-- the function object at a -/
def fdOf (K : Frag) (a : Addr) : FuncData := match K.lookup a with
  | some ⟨_, _, .func fd, _⟩ => fd
  | _ => PySem.W.fnOf "" "" ⟨[], [], none, [], [], none, []⟩ [] ⟨.function, [], false, false, []⟩ .none .none .none .none none .none .none
/-- a def that closes over its class: where it stands, its text -/
structure DefC where
  at_ : Frag → Addr
  cell : Frag → Addr
  name : Str
  qual : Str
  params : Arguments
  body : List Stmt
  scope : Scope
abbrev FnC : Type := Option (Str × Str × Arguments × FuncBody × Scope × Addr × List (Str × Addr) × Addr)
def fnC (K : Frag) (a cc : Addr) : FnC := match K.lookup a with
  | some ⟨_, _, .func fd, _⟩ => some (fd.name, fd.qualname, fd.params, fd.body, fd.scope, fd.globals, fd.closure.map (fun q => (q.1, if q.2 = cc then 0 else 1)), fd.builtins)
  | _ => none
def DefC.val (d : DefC) : FnC := some (d.name, d.qual, d.params, .stmts d.body, d.scope, mainGlobals, [("__class__", 0)], builtinsNs)
/-- the file of the code object -/
def codeB (K : Frag) (cdv : Value) (file : Str) : Bool := match cdv with
  | .ref c => (match K.lookup c with
    | some ⟨_, _, .fields vs, _⟩ => (match (vs[2]? : Option Value) with
      | some (Value.str z _) => decide (z = file)
      | _ => false)
    | _ => false)
  | _ => false
def DefC.ok (file : Str) (K : Frag) (d : DefC) : Bool := PySem.W.keepIn K (.ref (d.at_ K)) && (match K.lookup (d.at_ K) with
  | some ⟨_, _, .func fd, _⟩ => PySem.W.codeIn K fd.code d.qual && (codeB K fd.code file && decide (fd.defaults = .none))
  | _ => false)
/-- what is looked at -/
abbrev AlL : Type := Bool × List He.FnW × List FnC
def obsL (file : Str) (fb : List (Frag → Bool)) (fn : List He5.DefA) (fc : List DefC) (K : Frag) : AlL := ((fb.all fun f => f K) && ((fn.all fun d => d.ok K) && (fc.all fun d => d.ok file K)), fn.map (fun d => He5.fnA K (d.at_ K)), fc.map fun d => fnC K (d.at_ K) (d.cell K))
def valL (fn : List He5.DefA) (fc : List DefC) : AlL := (true, fn.map He5.DefA.val, fc.map DefC.val)
def SaysL (file : Str) (fb : List (Frag → Bool)) (fn : List He5.DefA) (fc : List DefC) (K : Frag) : Prop := obsL file fb fn fc K = valL fn fc
def obsLG (n : Nat) (file : Str) (fb : List (Frag → Bool)) (fn : List He5.DefA) (fc : List DefC) (g : Addr → Option Obj) : AlL := obsL file fb fn fc (He.frG g (He5.asA g n))
def hookL (n : Nat) (file : Str) (fb : List (Frag → Bool)) (fn : List He5.DefA) (fc : List DefC) : PySem.W.Hook where
  α := AlL
  obs := fun s => obsLG n file fb fn fc s.heap.get?
  val := fun _ => valL fn fc
  says := fun _ h => ∃ K : Frag, K.In h ∧ SaysL file fb fn fc K
  of := fun _ _ e => ⟨_, He.frG_in, e⟩
  keeps := fun _ _ _ ⟨K, hK, c⟩ k => ⟨K, PySem.W.Frag.In.keeps hK k, c⟩
theorem obsLG_eq {n : Nat} {file : Str} {fb : List (Frag → Bool)} {fn : List He5.DefA} {fc : List DefC} {g : Addr → Option Obj} {s : Shared} (h : ∀ a, g a = s.heap.get? a) : obsLG n file fb fn fc g = (hookL n file fb fn fc).obs s := by
  have e : g = s.heap.get? := funext h
  rw [e] <;> rfl
/-- the cell that its maker closes over -/
def cellOf (K : Frag) (f : Addr) : Addr := match K.lookup f with
  | some ⟨_, _, .func fd, _⟩ => (match fd.closure with
    | [(_, c)] => c
    | _ => 0)
  | _ => 0
def clsB (K : Frag) (C : Addr) : Bool := match K.lookup C with
  | some ⟨.type "type", _, .cls cd, sl⟩ => (match cd.mro, sl.toList with
    | .ref C' :: bm, [_, _, _, _, some (.builtin n), _] => C' == C && n == "ValueError.__new__" && !cd.hasDel && cd.hasDict && PySem.HandSPX.refsVE bm
    | _, _ => false)
  | _ => false
def cellB (K : Frag) (C cc : Addr) : Bool := match K.lookup cc with
  | some ⟨_, _, .cell (some (.ref D)), _⟩ => decide (D = C)
  | _ => false
/-- all that the written part says of the own error x (its maker closes over the class) -/
def errB (x : Str) (K : Frag) : Bool :=
  He.eqO (PySem.W.nsIn K mainGlobals x) (some (some (.ref (ga K x)))) &&
  (clsB K (ga K x) && (He.eqO (PySem.W.findIn K (.ref (ga K x)) "__setattr__") (some (some (.builtin "object.__setattr__"))) &&
  (decide (PySem.W.subIn K (.ref (ga K x)) (.type "BaseException") = some true) && (decide (PySem.W.typeIn K (.ref (ga K x)) = some (.type "type")) && (PySem.W.keepIn K (.ref (ga K x)) &&
  (He.eqO (PySem.W.findIn K (.ref (ga K x)) "__init__") (some (some (.ref (ma K (ga K x) "__init__")))) && (decide (PySem.W.typeIn K (.ref (ma K (ga K x) "__init__")) = some (.type "function")) &&
  (cellB K (ga K x) (cellOf K (ma K (ga K x) "__init__")) && (decide (PySem.W.ks_superIn K (ga K x) (ga K x) "__init__" = some (some (.builtin "ValueError.__init__"))) &&
  (decide (PySem.W.subIn K (.ref (ga K x)) (.type "ValueError") = some true) && (decide (PySem.W.mroIn K (ga K x) (.ref (ga K x)) = some true) &&
  (He.eqO (PySem.W.nsIn K cStatics "thirdparty.any") (some none) &&
  (He.eqO (PySem.W.findIn K (.ref (ga K x)) "__getattribute__") (some (some (.builtin "BaseException.__getattribute__"))) && (He.eqO (PySem.W.findIn K (.ref (ga K x)) "__getattr__") (some none) &&
  (PySem.W.hasDictIn K (ga K x) && (He.eqO (PySem.W.findIn K (.ref (ga K x)) "__class__") (some (some (.builtin "object.__class__"))) &&
  (decide (PySem.W.specialIn K (.builtin "object.__class__") "__get__" = some (some (.builtin "getset_descriptor.__get__"))) && (decide (PySem.W.takesIn K (.builtin "object.__class__") = some true) &&
  (decide (PySem.W.mroIn K (ga K x) (.type "object") = some true) && (decide (PySem.W.exmOne K (.ref (ga K x)) (.ref (ga K x)) = some true)))))))))))))))))))))
/-- no class of x has the name f -/
def noB (x f : Str) (K : Frag) : Bool := He.eqO (PySem.W.findIn K (.ref (ga K x)) f) (some none)
/-- the class x and its operator m -/
def opB (x m : Str) (K : Frag) : Bool := He.eqO (PySem.W.findIn K (.ref (ga K x)) m) (some (some (.ref (ma K (ga K x) m)))) && PySem.W.isFn K (.ref (ma K (ga K x) m)) && PySem.W.keepIn K (.ref (ma K (ga K x) m))
def staB (x m : Str) (K : Frag) : Bool := PySem.W.readsIn K (ga K x) (.type "type") && (decide (PySem.W.specialIn K (.ref (ga K x)) "__getattribute__" = some (some (.builtin "type.__getattribute__"))) && (He5.wrapB K (ga K x) "staticmethod" "staticmethod.__get__" m && PySem.W.keepIn K (.ref (He5.wf K (ga K x) "staticmethod" m))))
def isiB (x : Str) (K : Frag) : Bool := He.eqO (PySem.W.findIn K (.ref (ga K x)) "__class__") (some (some (.builtin "object.__class__"))) &&
  (decide (PySem.W.specialIn K (.builtin "object.__class__") "__get__" = some (some (.builtin "getset_descriptor.__get__"))) && (decide (PySem.W.takesIn K (.builtin "object.__class__") = some true) &&
  (decide (PySem.W.mroIn K (ga K x) (.type "object") = some true) && decide (PySem.W.kitOne K (.ref (ga K x)) (.ref (ga K x)) = some true))))
def strB (x : Str) (T : String) (K : Frag) : Bool := decide (PySem.W.kitOne K (.type T) (.ref (ga K x)) = some false) && (PySem.W.notFirst K (ga K x) (.type T) && decide (PySem.W.subIn K (.ref (ga K x)) (.type T) = some false))
/-- how own errors stand under each other -/
def kindsB (es : List Str) (K : Frag) : Bool := es.all fun x => decide (PySem.W.kitOne K (.ref (ga K x)) (.type "ValueError") = some true) && (decide (PySem.W.kitOne K (.ref (ga K x)) (.ref (ga K "LoftError")) = some true) &&
  es.all fun y => decide (PySem.W.kitOne K (.ref (ga K x)) (.ref (ga K y)) = some (decide (x = y))))
end L2.LX
namespace K00
open PySem PySem.Spec PyProof.Rows L2 L2.LX
open PySem.W (Frag)
def top (i : Nat) : Stmt := PySem.Challenge.pw_causeloft_k00_exact_ratios.main.body.getD i (.Pass ⟨0, 0, 0, 0⟩)
abbrev s_InvalidRatio___init__ : Stmt := inClass (top 3) 0
abbrev s_InvalidText___init__ : Stmt := inClass (top 4) 0
abbrev s_InvalidTable___init__ : Stmt := inClass (top 5) 0
abbrev s_InvalidGraph___init__ : Stmt := inClass (top 6) 0
abbrev s_InvalidModel___init__ : Stmt := inClass (top 7) 0
abbrev s_UnknownName___init__ : Stmt := inClass (top 8) 0
abbrev s_InvalidFact___init__ : Stmt := inClass (top 9) 0
abbrev s_InvalidQuestion___init__ : Stmt := inClass (top 10) 0
abbrev s_InvalidPaper___init__ : Stmt := inClass (top 11) 0
abbrev s_TooLarge___init__ : Stmt := inClass (top 12) 0
abbrev s_ZeroChance___init__ : Stmt := inClass (top 13) 0
abbrev s_Untold___init__ : Stmt := inClass (top 14) 0
abbrev s_Misfit___init__ : Stmt := inClass (top 15) 0
abbrev s_InvalidDeed___init__ : Stmt := inClass (top 16) 0
abbrev s_DeedRefused___init__ : Stmt := inClass (top 17) 0
abbrev s_InvalidJournal___init__ : Stmt := inClass (top 18) 0
abbrev s_Ratio___init__ : Stmt := inClass (top 22) 0
abbrev s_Ratio___add__ : Stmt := inClass (top 22) 1
abbrev s_Ratio___sub__ : Stmt := inClass (top 22) 2
abbrev s_Ratio___mul__ : Stmt := inClass (top 22) 3
abbrev s_Ratio___neg__ : Stmt := inClass (top 22) 4
abbrev s_Ratio___abs__ : Stmt := inClass (top 22) 5
abbrev s_Ratio_over : Stmt := inClass (top 22) 6
abbrev s_Ratio_less : Stmt := inClass (top 22) 7
abbrev s_Ratio___eq__ : Stmt := inClass (top 22) 8
abbrev s_Ratio___bool__ : Stmt := inClass (top 22) 9
abbrev s_Ratio___str__ : Stmt := inClass (top 22) 10
abbrev s_Ratio___repr__ : Stmt := inClass (top 22) 11
abbrev s_Ratio_read : Stmt := inClass (top 22) 12
abbrev s__is_integer : Stmt := top 23
abbrev s__law_box : Stmt := top 25
abbrev s__law_take : Stmt := top 26
abbrev s__law_gcd : Stmt := top 27
abbrev s__law_lowest : Stmt := top 28
abbrev s__law_digits : Stmt := top 29
abbrev s__law_signed : Stmt := top 30
abbrev s__law_near : Stmt := top 31
abbrev s__law_pair : Stmt := top 32
abbrev s__law_made : Stmt := top 33
abbrev s__law_whole : Stmt := top 34
abbrev s__law_is : Stmt := top 35
abbrev s__law_zero_refused : Stmt := top 36
abbrev s__law_over_right : Stmt := top 37
abbrev s__law_pair_right : Stmt := top 38
abbrev s__law_text : Stmt := top 39
abbrev s__law_one_right : Stmt := top 40
abbrev s__law_run_right : Stmt := top 41
abbrev s__law_is_number : Stmt := top 42
abbrev s__law_read : Stmt := top 43
abbrev s__law_read_right : Stmt := top 44
abbrev s__law_long : Stmt := top 45
abbrev s__law_bent : Stmt := top 46
abbrev s__law_texts : Stmt := top 47
abbrev s__law_kinds : Stmt := top 48
abbrev s__law_alone : Stmt := top 49
abbrev s__law_errors_right : Stmt := top 50
abbrev s_law : Stmt := top 51
abbrev a_Ratio___init__ (K : Frag) : Addr := ma K (ga K "Ratio") "__init__"
abbrev a_Ratio___add__ (K : Frag) : Addr := ma K (ga K "Ratio") "__add__"
abbrev a_Ratio___sub__ (K : Frag) : Addr := ma K (ga K "Ratio") "__sub__"
abbrev a_Ratio___mul__ (K : Frag) : Addr := ma K (ga K "Ratio") "__mul__"
abbrev a_Ratio___neg__ (K : Frag) : Addr := ma K (ga K "Ratio") "__neg__"
abbrev a_Ratio___abs__ (K : Frag) : Addr := ma K (ga K "Ratio") "__abs__"
abbrev a_Ratio_over (K : Frag) : Addr := ma K (ga K "Ratio") "over"
abbrev a_Ratio_less (K : Frag) : Addr := ma K (ga K "Ratio") "less"
abbrev a_Ratio___eq__ (K : Frag) : Addr := ma K (ga K "Ratio") "__eq__"
abbrev a_Ratio___bool__ (K : Frag) : Addr := ma K (ga K "Ratio") "__bool__"
abbrev a_Ratio___str__ (K : Frag) : Addr := ma K (ga K "Ratio") "__str__"
abbrev a_Ratio___repr__ (K : Frag) : Addr := ma K (ga K "Ratio") "__repr__"
abbrev a_Ratio_read (K : Frag) : Addr := He5.wf K (ga K "Ratio") "staticmethod" "read"
abbrev a__is_integer (K : Frag) : Addr := ga K "_is_integer"
abbrev a__law_box (K : Frag) : Addr := ga K "_law_box"
abbrev a__law_take (K : Frag) : Addr := ga K "_law_take"
abbrev a__law_gcd (K : Frag) : Addr := ga K "_law_gcd"
abbrev a__law_lowest (K : Frag) : Addr := ga K "_law_lowest"
abbrev a__law_digits (K : Frag) : Addr := ga K "_law_digits"
abbrev a__law_signed (K : Frag) : Addr := ga K "_law_signed"
abbrev a__law_near (K : Frag) : Addr := ga K "_law_near"
abbrev a__law_pair (K : Frag) : Addr := ga K "_law_pair"
abbrev a__law_made (K : Frag) : Addr := ga K "_law_made"
abbrev a__law_whole (K : Frag) : Addr := ga K "_law_whole"
abbrev a__law_is (K : Frag) : Addr := ga K "_law_is"
abbrev a__law_zero_refused (K : Frag) : Addr := ga K "_law_zero_refused"
abbrev a__law_over_right (K : Frag) : Addr := ga K "_law_over_right"
abbrev a__law_pair_right (K : Frag) : Addr := ga K "_law_pair_right"
abbrev a__law_text (K : Frag) : Addr := ga K "_law_text"
abbrev a__law_one_right (K : Frag) : Addr := ga K "_law_one_right"
abbrev a__law_run_right (K : Frag) : Addr := ga K "_law_run_right"
abbrev a__law_is_number (K : Frag) : Addr := ga K "_law_is_number"
abbrev a__law_read (K : Frag) : Addr := ga K "_law_read"
abbrev a__law_read_right (K : Frag) : Addr := ga K "_law_read_right"
abbrev a__law_long (K : Frag) : Addr := ga K "_law_long"
abbrev a__law_bent (K : Frag) : Addr := ga K "_law_bent"
abbrev a__law_texts (K : Frag) : Addr := ga K "_law_texts"
abbrev a__law_kinds (K : Frag) : Addr := ga K "_law_kinds"
abbrev a__law_alone (K : Frag) : Addr := ga K "_law_alone"
abbrev a__law_errors_right (K : Frag) : Addr := ga K "_law_errors_right"
abbrev a_law (K : Frag) : Addr := ga K "law"
abbrev a_InvalidRatio___init__ (K : Frag) : Addr := ma K (ga K "InvalidRatio") "__init__"
abbrev a_InvalidText___init__ (K : Frag) : Addr := ma K (ga K "InvalidText") "__init__"
abbrev a_InvalidTable___init__ (K : Frag) : Addr := ma K (ga K "InvalidTable") "__init__"
abbrev a_InvalidGraph___init__ (K : Frag) : Addr := ma K (ga K "InvalidGraph") "__init__"
abbrev a_InvalidModel___init__ (K : Frag) : Addr := ma K (ga K "InvalidModel") "__init__"
abbrev a_UnknownName___init__ (K : Frag) : Addr := ma K (ga K "UnknownName") "__init__"
abbrev a_InvalidFact___init__ (K : Frag) : Addr := ma K (ga K "InvalidFact") "__init__"
abbrev a_InvalidQuestion___init__ (K : Frag) : Addr := ma K (ga K "InvalidQuestion") "__init__"
abbrev a_InvalidPaper___init__ (K : Frag) : Addr := ma K (ga K "InvalidPaper") "__init__"
abbrev a_TooLarge___init__ (K : Frag) : Addr := ma K (ga K "TooLarge") "__init__"
abbrev a_ZeroChance___init__ (K : Frag) : Addr := ma K (ga K "ZeroChance") "__init__"
abbrev a_Untold___init__ (K : Frag) : Addr := ma K (ga K "Untold") "__init__"
abbrev a_Misfit___init__ (K : Frag) : Addr := ma K (ga K "Misfit") "__init__"
abbrev a_InvalidDeed___init__ (K : Frag) : Addr := ma K (ga K "InvalidDeed") "__init__"
abbrev a_DeedRefused___init__ (K : Frag) : Addr := ma K (ga K "DeedRefused") "__init__"
abbrev a_InvalidJournal___init__ (K : Frag) : Addr := ma K (ga K "InvalidJournal") "__init__"
abbrev c_InvalidRatio___init__ (K : Frag) : Addr := cellOf K (a_InvalidRatio___init__ K)
abbrev c_InvalidText___init__ (K : Frag) : Addr := cellOf K (a_InvalidText___init__ K)
abbrev c_InvalidTable___init__ (K : Frag) : Addr := cellOf K (a_InvalidTable___init__ K)
abbrev c_InvalidGraph___init__ (K : Frag) : Addr := cellOf K (a_InvalidGraph___init__ K)
abbrev c_InvalidModel___init__ (K : Frag) : Addr := cellOf K (a_InvalidModel___init__ K)
abbrev c_UnknownName___init__ (K : Frag) : Addr := cellOf K (a_UnknownName___init__ K)
abbrev c_InvalidFact___init__ (K : Frag) : Addr := cellOf K (a_InvalidFact___init__ K)
abbrev c_InvalidQuestion___init__ (K : Frag) : Addr := cellOf K (a_InvalidQuestion___init__ K)
abbrev c_InvalidPaper___init__ (K : Frag) : Addr := cellOf K (a_InvalidPaper___init__ K)
abbrev c_TooLarge___init__ (K : Frag) : Addr := cellOf K (a_TooLarge___init__ K)
abbrev c_ZeroChance___init__ (K : Frag) : Addr := cellOf K (a_ZeroChance___init__ K)
abbrev c_Untold___init__ (K : Frag) : Addr := cellOf K (a_Untold___init__ K)
abbrev c_Misfit___init__ (K : Frag) : Addr := cellOf K (a_Misfit___init__ K)
abbrev c_InvalidDeed___init__ (K : Frag) : Addr := cellOf K (a_InvalidDeed___init__ K)
abbrev c_DeedRefused___init__ (K : Frag) : Addr := cellOf K (a_DeedRefused___init__ K)
abbrev c_InvalidJournal___init__ (K : Frag) : Addr := cellOf K (a_InvalidJournal___init__ K)
def fnL : List He5.DefA := [⟨a_Ratio___init__, "__init__", "Ratio.__init__", defArgs s_Ratio___init__, defBody s_Ratio___init__, defScope s_Ratio___init__, [.int 1], []⟩,
  ⟨a_Ratio___add__, "__add__", "Ratio.__add__", defArgs s_Ratio___add__, defBody s_Ratio___add__, defScope s_Ratio___add__, [], []⟩,
  ⟨a_Ratio___sub__, "__sub__", "Ratio.__sub__", defArgs s_Ratio___sub__, defBody s_Ratio___sub__, defScope s_Ratio___sub__, [], []⟩,
  ⟨a_Ratio___mul__, "__mul__", "Ratio.__mul__", defArgs s_Ratio___mul__, defBody s_Ratio___mul__, defScope s_Ratio___mul__, [], []⟩,
  ⟨a_Ratio___neg__, "__neg__", "Ratio.__neg__", defArgs s_Ratio___neg__, defBody s_Ratio___neg__, defScope s_Ratio___neg__, [], []⟩,
  ⟨a_Ratio___abs__, "__abs__", "Ratio.__abs__", defArgs s_Ratio___abs__, defBody s_Ratio___abs__, defScope s_Ratio___abs__, [], []⟩,
  ⟨a_Ratio_over, "over", "Ratio.over", defArgs s_Ratio_over, defBody s_Ratio_over, defScope s_Ratio_over, [], []⟩,
  ⟨a_Ratio_less, "less", "Ratio.less", defArgs s_Ratio_less, defBody s_Ratio_less, defScope s_Ratio_less, [], []⟩,
  ⟨a_Ratio___eq__, "__eq__", "Ratio.__eq__", defArgs s_Ratio___eq__, defBody s_Ratio___eq__, defScope s_Ratio___eq__, [], []⟩,
  ⟨a_Ratio___bool__, "__bool__", "Ratio.__bool__", defArgs s_Ratio___bool__, defBody s_Ratio___bool__, defScope s_Ratio___bool__, [], []⟩,
  ⟨a_Ratio___str__, "__str__", "Ratio.__str__", defArgs s_Ratio___str__, defBody s_Ratio___str__, defScope s_Ratio___str__, [], []⟩,
  ⟨a_Ratio___repr__, "__repr__", "Ratio.__repr__", defArgs s_Ratio___repr__, defBody s_Ratio___repr__, defScope s_Ratio___repr__, [], []⟩,
  ⟨a_Ratio_read, "read", "Ratio.read", defArgs s_Ratio_read, defBody s_Ratio_read, defScope s_Ratio_read, [], []⟩,
  ⟨a__is_integer, "_is_integer", "_is_integer", defArgs s__is_integer, defBody s__is_integer, defScope s__is_integer, [], []⟩,
  ⟨a__law_box, "_law_box", "_law_box", defArgs s__law_box, defBody s__law_box, defScope s__law_box, [], []⟩,
  ⟨a__law_take, "_law_take", "_law_take", defArgs s__law_take, defBody s__law_take, defScope s__law_take, [], []⟩,
  ⟨a__law_gcd, "_law_gcd", "_law_gcd", defArgs s__law_gcd, defBody s__law_gcd, defScope s__law_gcd, [], []⟩,
  ⟨a__law_lowest, "_law_lowest", "_law_lowest", defArgs s__law_lowest, defBody s__law_lowest, defScope s__law_lowest, [], []⟩,
  ⟨a__law_digits, "_law_digits", "_law_digits", defArgs s__law_digits, defBody s__law_digits, defScope s__law_digits, [], []⟩,
  ⟨a__law_signed, "_law_signed", "_law_signed", defArgs s__law_signed, defBody s__law_signed, defScope s__law_signed, [], []⟩,
  ⟨a__law_near, "_law_near", "_law_near", defArgs s__law_near, defBody s__law_near, defScope s__law_near, [], []⟩,
  ⟨a__law_pair, "_law_pair", "_law_pair", defArgs s__law_pair, defBody s__law_pair, defScope s__law_pair, [], []⟩,
  ⟨a__law_made, "_law_made", "_law_made", defArgs s__law_made, defBody s__law_made, defScope s__law_made, [], []⟩,
  ⟨a__law_whole, "_law_whole", "_law_whole", defArgs s__law_whole, defBody s__law_whole, defScope s__law_whole, [], []⟩,
  ⟨a__law_is, "_law_is", "_law_is", defArgs s__law_is, defBody s__law_is, defScope s__law_is, [], []⟩,
  ⟨a__law_zero_refused, "_law_zero_refused", "_law_zero_refused", defArgs s__law_zero_refused, defBody s__law_zero_refused, defScope s__law_zero_refused, [], []⟩,
  ⟨a__law_over_right, "_law_over_right", "_law_over_right", defArgs s__law_over_right, defBody s__law_over_right, defScope s__law_over_right, [], []⟩,
  ⟨a__law_pair_right, "_law_pair_right", "_law_pair_right", defArgs s__law_pair_right, defBody s__law_pair_right, defScope s__law_pair_right, [], []⟩,
  ⟨a__law_text, "_law_text", "_law_text", defArgs s__law_text, defBody s__law_text, defScope s__law_text, [], []⟩,
  ⟨a__law_one_right, "_law_one_right", "_law_one_right", defArgs s__law_one_right, defBody s__law_one_right, defScope s__law_one_right, [], []⟩,
  ⟨a__law_run_right, "_law_run_right", "_law_run_right", defArgs s__law_run_right, defBody s__law_run_right, defScope s__law_run_right, [], []⟩,
  ⟨a__law_is_number, "_law_is_number", "_law_is_number", defArgs s__law_is_number, defBody s__law_is_number, defScope s__law_is_number, [], []⟩,
  ⟨a__law_read, "_law_read", "_law_read", defArgs s__law_read, defBody s__law_read, defScope s__law_read, [], []⟩,
  ⟨a__law_read_right, "_law_read_right", "_law_read_right", defArgs s__law_read_right, defBody s__law_read_right, defScope s__law_read_right, [], []⟩,
  ⟨a__law_long, "_law_long", "_law_long", defArgs s__law_long, defBody s__law_long, defScope s__law_long, [], []⟩,
  ⟨a__law_bent, "_law_bent", "_law_bent", defArgs s__law_bent, defBody s__law_bent, defScope s__law_bent, [], []⟩,
  ⟨a__law_texts, "_law_texts", "_law_texts", defArgs s__law_texts, defBody s__law_texts, defScope s__law_texts, [], []⟩,
  ⟨a__law_kinds, "_law_kinds", "_law_kinds", defArgs s__law_kinds, defBody s__law_kinds, defScope s__law_kinds, [], []⟩,
  ⟨a__law_alone, "_law_alone", "_law_alone", defArgs s__law_alone, defBody s__law_alone, defScope s__law_alone, [], []⟩,
  ⟨a__law_errors_right, "_law_errors_right", "_law_errors_right", defArgs s__law_errors_right, defBody s__law_errors_right, defScope s__law_errors_right, [], []⟩,
  ⟨a_law, "law", "law", defArgs s_law, defBody s_law, defScope s_law, [], []⟩]
def fcL : List DefC := [⟨a_InvalidRatio___init__, c_InvalidRatio___init__, "__init__", "InvalidRatio.__init__", defArgs s_InvalidRatio___init__, defBody s_InvalidRatio___init__, defScope s_InvalidRatio___init__⟩,
  ⟨a_InvalidText___init__, c_InvalidText___init__, "__init__", "InvalidText.__init__", defArgs s_InvalidText___init__, defBody s_InvalidText___init__, defScope s_InvalidText___init__⟩,
  ⟨a_InvalidTable___init__, c_InvalidTable___init__, "__init__", "InvalidTable.__init__", defArgs s_InvalidTable___init__, defBody s_InvalidTable___init__, defScope s_InvalidTable___init__⟩,
  ⟨a_InvalidGraph___init__, c_InvalidGraph___init__, "__init__", "InvalidGraph.__init__", defArgs s_InvalidGraph___init__, defBody s_InvalidGraph___init__, defScope s_InvalidGraph___init__⟩,
  ⟨a_InvalidModel___init__, c_InvalidModel___init__, "__init__", "InvalidModel.__init__", defArgs s_InvalidModel___init__, defBody s_InvalidModel___init__, defScope s_InvalidModel___init__⟩,
  ⟨a_UnknownName___init__, c_UnknownName___init__, "__init__", "UnknownName.__init__", defArgs s_UnknownName___init__, defBody s_UnknownName___init__, defScope s_UnknownName___init__⟩,
  ⟨a_InvalidFact___init__, c_InvalidFact___init__, "__init__", "InvalidFact.__init__", defArgs s_InvalidFact___init__, defBody s_InvalidFact___init__, defScope s_InvalidFact___init__⟩,
  ⟨a_InvalidQuestion___init__, c_InvalidQuestion___init__, "__init__", "InvalidQuestion.__init__", defArgs s_InvalidQuestion___init__, defBody s_InvalidQuestion___init__, defScope s_InvalidQuestion___init__⟩,
  ⟨a_InvalidPaper___init__, c_InvalidPaper___init__, "__init__", "InvalidPaper.__init__", defArgs s_InvalidPaper___init__, defBody s_InvalidPaper___init__, defScope s_InvalidPaper___init__⟩,
  ⟨a_TooLarge___init__, c_TooLarge___init__, "__init__", "TooLarge.__init__", defArgs s_TooLarge___init__, defBody s_TooLarge___init__, defScope s_TooLarge___init__⟩,
  ⟨a_ZeroChance___init__, c_ZeroChance___init__, "__init__", "ZeroChance.__init__", defArgs s_ZeroChance___init__, defBody s_ZeroChance___init__, defScope s_ZeroChance___init__⟩,
  ⟨a_Untold___init__, c_Untold___init__, "__init__", "Untold.__init__", defArgs s_Untold___init__, defBody s_Untold___init__, defScope s_Untold___init__⟩,
  ⟨a_Misfit___init__, c_Misfit___init__, "__init__", "Misfit.__init__", defArgs s_Misfit___init__, defBody s_Misfit___init__, defScope s_Misfit___init__⟩,
  ⟨a_InvalidDeed___init__, c_InvalidDeed___init__, "__init__", "InvalidDeed.__init__", defArgs s_InvalidDeed___init__, defBody s_InvalidDeed___init__, defScope s_InvalidDeed___init__⟩,
  ⟨a_DeedRefused___init__, c_DeedRefused___init__, "__init__", "DeedRefused.__init__", defArgs s_DeedRefused___init__, defBody s_DeedRefused___init__, defScope s_DeedRefused___init__⟩,
  ⟨a_InvalidJournal___init__, c_InvalidJournal___init__, "__init__", "InvalidJournal.__init__", defArgs s_InvalidJournal___init__, defBody s_InvalidJournal___init__, defScope s_InvalidJournal___init__⟩]
def fbL : List (Frag → Bool) := [fun K => (He.Fa.glo "_is_integer").ok K,
  fun K => (He.Fa.glo "_law_box").ok K,
  fun K => (He.Fa.glo "_law_take").ok K,
  fun K => (He.Fa.glo "_law_gcd").ok K,
  fun K => (He.Fa.glo "_law_lowest").ok K,
  fun K => (He.Fa.glo "_law_digits").ok K,
  fun K => (He.Fa.glo "_law_signed").ok K,
  fun K => (He.Fa.glo "_law_near").ok K,
  fun K => (He.Fa.glo "_law_pair").ok K,
  fun K => (He.Fa.glo "_law_made").ok K,
  fun K => (He.Fa.glo "_law_whole").ok K,
  fun K => (He.Fa.glo "_law_is").ok K,
  fun K => (He.Fa.glo "_law_zero_refused").ok K,
  fun K => (He.Fa.glo "_law_over_right").ok K,
  fun K => (He.Fa.glo "_law_pair_right").ok K,
  fun K => (He.Fa.glo "_law_text").ok K,
  fun K => (He.Fa.glo "_law_one_right").ok K,
  fun K => (He.Fa.glo "_law_run_right").ok K,
  fun K => (He.Fa.glo "_law_is_number").ok K,
  fun K => (He.Fa.glo "_law_read").ok K,
  fun K => (He.Fa.glo "_law_read_right").ok K,
  fun K => (He.Fa.glo "_law_long").ok K,
  fun K => (He.Fa.glo "_law_bent").ok K,
  fun K => (He.Fa.glo "_law_texts").ok K,
  fun K => (He.Fa.glo "_law_kinds").ok K,
  fun K => (He.Fa.glo "_law_alone").ok K,
  fun K => (He.Fa.glo "_law_errors_right").ok K,
  fun K => (He.Fa.glo "law").ok K,
  errB "InvalidRatio",
  errB "InvalidText",
  errB "InvalidTable",
  errB "InvalidGraph",
  errB "InvalidModel",
  errB "UnknownName",
  errB "InvalidFact",
  errB "InvalidQuestion",
  errB "InvalidPaper",
  errB "TooLarge",
  errB "ZeroChance",
  errB "Untold",
  errB "Misfit",
  errB "InvalidDeed",
  errB "DeedRefused",
  errB "InvalidJournal",
  noB "InvalidRatio" "den",
  noB "InvalidText" "text",
  noB "InvalidTable" "part",
  noB "InvalidGraph" "part",
  noB "InvalidModel" "name",
  noB "UnknownName" "name",
  noB "InvalidFact" "name",
  noB "InvalidQuestion" "about",
  noB "InvalidPaper" "about",
  noB "TooLarge" "limit",
  noB "Untold" "hedge",
  noB "Misfit" "prices",
  noB "InvalidDeed" "word",
  noB "DeedRefused" "position",
  noB "InvalidJournal" "line",
  fun K => (He.Fa.free "super").ok K,
  fun K => (He.Fa.free "len").ok K,
  fun K => (He.Fa.free "range").ok K,
  fun K => (He.Fa.free "int").ok K,
  fun K => (He.Fa.free "str").ok K,
  fun K => (He.Fa.free "bool").ok K,
  fun K => (He.Fa.free "abs").ok K,
  fun K => (He.Fa.free "isinstance").ok K,
  fun K => (He.Fa.free "repr").ok K,
  fun K => (He.Fa.free "all").ok K,
  fun K => (He.Fa.free "list").ok K,
  fun K => (He.Fa.free "tuple").ok K,
  fun K => (He.Fa.free "ValueError").ok K,
  fun K => (He.Fa.str "_DIGITS" "0123456789").ok K,
  fun K => (He.Fa.int "_LONGEST_TEXT" 90).ok K,
  fun K => He.eqO (PySem.W.nsIn K mainGlobals "gcd") (some (some (.builtin "math.gcd"))),
  fun K => (He.Fa.glo "Ratio").ok K,
  fun K => (He.Fa.cls "Ratio").ok K,
  fun K => (He.Fa.mkr "Ratio").ok K,
  noB "Ratio" "num",
  noB "Ratio" "den",
  opB "Ratio" "__init__",
  opB "Ratio" "__add__",
  opB "Ratio" "__sub__",
  opB "Ratio" "__mul__",
  opB "Ratio" "__neg__",
  opB "Ratio" "__abs__",
  opB "Ratio" "over",
  opB "Ratio" "less",
  opB "Ratio" "__eq__",
  opB "Ratio" "__bool__",
  opB "Ratio" "__str__",
  opB "Ratio" "__repr__",
  staB "Ratio" "read",
  fun K => PySem.W.selfFirst K (ga K "Ratio"),
  isiB "Ratio",
  (fun K => (He.Fa.glo "LoftError").ok K),
  kindsB ["InvalidRatio", "InvalidText", "InvalidTable", "InvalidGraph", "InvalidModel", "UnknownName", "InvalidFact", "InvalidQuestion", "InvalidPaper", "TooLarge", "ZeroChance", "Untold", "Misfit", "InvalidDeed", "DeedRefused", "InvalidJournal"],
  strB "Ratio" "int",
  strB "Ratio" "str",
  strB "Ratio" "tuple",
  strB "Ratio" "list",
  strB "Ratio" "bool",
  strB "Ratio" "NoneType"]
abbrev file : Str := PySem.Challenge.pw_causeloft_k00_exact_ratios.main.file
end K00
namespace K00
open PySem PySem.W PySem.Calls PyProof.Rows
abbrev R : OpenRow := OpenLaw.row PySem.Challenge.rw_causeloft_k00_exact_ratios
def names : List PySem.Str := (R.prog.main.scope.names.filterMap fun q => if q.1 = ("law" : PySem.Str) ∨ q.1 = ("gcd" : PySem.Str) ∨ q.2 ≠ .local ∨ q.1 = ("__name__" : PySem.Str) then none else some q.1)
abbrev qv : Program := view R.prog [0, 51]
abbrev hk : Hook := L2.LX.hookL 5 file fbL fnL fcL
def ob (s : SharedT) : L2.LX.AlL := L2.LX.obsLG 5 file fbL fnL fcL (HandSHeadRun.getT s)
theorem ob_eq (s : SharedT) : ob s = hk.obs s.abs := L2.LX.obsLG_eq (HandSHeadRun.getT_eq s)
theorem run (w : World) : HandSHeadRun.RunEqI R qv hk ob 7000 names w := by
  delta HandSHeadRun.RunEqI
  kernel_rfl
end K00
namespace L2.LX
open PySem PySem.Spec PyProof.Rows L2
open PySem.W (Frag)
/-! a def that closes over its class: the super() of an own error's maker -/
/-- the names of such a def -/
structure SupScope (N ps : List Str) (sc : Scope) : Prop where
  kind : sc.kind = .function
  co : sc.isCoroutine = false
  gen : sc.isGenerator = false
  nd : N.Nodup
  pre : N = ps
  par : ∀ x ∈ ps, sc.names.lookup x = some .local
  nocell : ∀ y ∈ sc.names, y.2 ≠ .cell
  one : ∀ y ∈ sc.names, y.2 = .free → y.1 = ("__class__" : Str)
  sup : sc.names.lookup ("super" : Str) = some .globalImplicit
  cls : sc.names.lookup ("__class__" : Str) = some .free
abbrev envS (qual : Str) (sc : Scope) (L f : Addr) (cd : Value) (cc : Addr) : Env := PySem.W.envX qual sc L f cd [("__class__", cc)]
def cxS (CX : CXT) (P : Program) (w : World) (K : Frag) (mg : Str → Option Value) (base : Heap) (N : List Str) (qual : Str) (scope : Scope) (f : Addr) (cd : Value) (cc : Addr) (A : Around) (outer : List Env) (s : Shared) (H : Hp) (E : XK) : Cx where
  prog := P
  w := w
  K := K
  mg := mg
  base := base
  A := A.deeper (envS qual scope s.heap.objs.size f cd cc)
  N := N
  s_0 := s
  H_0 := H
  env := envS qual scope s.heap.objs.size f cd cc
  outer := outer
  stack := envS qual scope s.heap.objs.size f cd cc :: outer
  ex := []
  calm := true
  fn := fun _ => false
  pn := []
  xe := fun e s' => wpAny (model P w) (A.deeper (envS qual scope s.heap.objs.size f cd cc)) (leaving (envS qual scope s.heap.objs.size f cd cc) e) (fun _ s'' => CX outer H s E e s'') (fun e' s'' => CX outer H s E e' s'') s'
theorem zip_lookup : ∀ {ps : List Str} {us : List Value} {i : Nat} {x : Str} {u : Value}, ps.Nodup → ps[i]? = some x → us[i]? = some u → (ps.zip us).reverse.lookup x = some u := by
  intro ps us i x u nd h1 h2
  have hm : (x, u) ∈ (ps.zip us).reverse := by
    rw [List.mem_reverse]
    have : (ps.zip us)[i]? = some (x, u) := by
      rw [List.getElem?_zip_eq_some]
      exact ⟨h1, h2⟩
    exact List.mem_of_getElem? this
  have key : ∀ l : List (Str × Value), (∀ v, (x, v) ∈ l → v = u) → (x, u) ∈ l → l.lookup x = some u := by
    intro l
    induction l with
    | nil =>
      intro _ h
      cases h
    | cons p l ih =>
      intro hu hp
      obtain ⟨y, v⟩ := p
      by_cases e : x = y
      · subst e
        have : v = u := hu v List.mem_cons_self
        subst this
        simp [List.lookup]
      · have e2 : (x == y) = false := by simpa using e
        have hp2 : (x, u) ∈ l := by
          rcases List.mem_cons.mp hp with h | h
          · exact absurd (congrArg Prod.fst h) e
          · exact h
        simp only [List.lookup, e2]
        exact ih (fun v hv => hu v (List.mem_cons_of_mem _ hv)) hp2
  refine key _ (fun v hv => ?_) hm
  rw [List.mem_reverse] at hv
  obtain ⟨j, hj⟩ := List.getElem?_of_mem hv
  rw [List.getElem?_zip_eq_some] at hj
  have hi : i < ps.length := (List.getElem?_eq_some_iff.mp h1).1
  have hj2 : j < ps.length := (List.getElem?_eq_some_iff.mp hj.1).1
  have ei : ps[i] = x := (List.getElem?_eq_some_iff.mp h1).2
  have ej : ps[j] = x := (List.getElem?_eq_some_iff.mp hj.1).2
  have eij : i = j := by
    have key2 := List.pairwise_iff_getElem.mp nd
    rcases Nat.lt_trichotomy i j with h | h | h
    · exact absurd (ei.trans ej.symm) (key2 i j hi hj2 h)
    · exact h
    · exact absurd (ej.trans ei.symm) (key2 j i hj2 hi h)
  subst eij
  exact Option.some.inj (hj.2.symm.trans h2)
section
variable {CX : CXT} {P : Program} {w : World} {K : Frag} {mg : Str → Option Value} {base : Heap} {N ps : List Str} {qual : Str} {scope : Scope} {f cc D : Addr} {cd : Value} {A : Around} {outer : List Env} {s : Shared} {H : Hp} {E : XK} {us : List Value} {vs : List V}
theorem inv_startS (S : SupScope N ps scope) (hd : A.handled = none) (e0 : Env0 P w K mg base A outer s H) (hl : vs.length = ps.length) (r : Vals vs us) (hcc : ∃ o, base.get? cc = some o ∧ o.data = .cell (some (.ref D)))
    {h1 : Heap} {tk : Nat} (hns : h1.Ns s.heap.objs.size (fun x => (ps.zip us).reverse.lookup x)) (hk : ∀ b o, s.heap.get? b = some o → h1.get? b = some o) :
    Inv (cxS CX P w K mg base N qual scope f cd cc A outer s H E) [] (start N vs) H { s with heap := h1, toks := tk } := by
  have noA : ∀ b : Addr, b ∉ (cxS CX P w K mg base N qual scope f cd cc A outer s H E).ex := fun b z => absurd (show b ∈ ([] : List Addr) from z) (by simp)
  have cl : ∀ x c, (cxS CX P w K mg base N qual scope f cd cc A outer s H E).env.cells.lookup x = some c → c = cc := fun x c h => by
    have h' : ([(("__class__" : Str), cc)] : List (Str × Addr)).lookup x = some c := h
    by_cases e : x = "__class__"
    · subst e
      simp [List.lookup] at h'
      exact h'.symm
    · have e2 : (x == ("__class__" : Str)) = false := by simpa using e
      simp [List.lookup, e2] at h'
  have ce : ∀ x c, (cxS CX P w K mg base N qual scope f cd cc A outer s H E).env.cells.lookup x = some c → x = "__class__" := fun x c h => by
    have h' : ([(("__class__" : Str), cc)] : List (Str × Addr)).lookup x = some c := h
    by_cases e : x = "__class__"
    · exact e
    · have e2 : (x == ("__class__" : Str)) = false := by simpa using e
      simp [List.lookup, e2] at h'
  obtain ⟨oc, hoc, hdc⟩ := hcc
  refine ⟨⟨e0.mod, S.kind, rfl, rfl, Nat.le_refl _, fun y z c h1 h2 => ?_, fun y hy => ?_, fun y c h _ => ?_, fun _ => hd, Around.frames_deeper e0.frames, .inr ⟨rfl, rfl⟩, fun b z => absurd z (noA b), e0.bs, e0.bsz, fun b _ _ => noA b, fun b z => absurd z (noA b), e0.funs, e0.frf⟩,
    rfl, e0.bare, Un.kept hk, ⟨_, hns, fun i y v h1 h2 h3 => ?_⟩, fun y c h => ?_, e0.hok.fresh (Nat.le_refl _), fun y c h => ?_, fun p hp => absurd (show p ∈ ([] : List (Addr × Obj)) from hp) (by simp), e0.hok.kept hk, ?_⟩
  · rw [ce y c h1, ce z c h2]
  · have hy : scope.names.lookup y = some .cell ∨ scope.names.lookup y = some .free := hy
    rcases hy with hy | hy
    · exact absurd rfl (S.nocell _ (PySem.mem_of_lookup hy))
    · have e := S.one _ (PySem.mem_of_lookup hy) rfl
      dsimp only at e
      subst e
      exact ⟨cc, rfl⟩
  · cases h
  · have hi : i < vs.length := by
      unfold start at h2
      by_cases hi : i < vs.length
      · exact hi
      · rw [List.getElem?_append_right (by simpa using hi)] at h2
        rw [List.getElem?_replicate] at h2
        split at h2 <;> cases h2
    have ha : vs[i]? = some v := by
      unfold start at h2
      rw [List.getElem?_append_left (by simpa using hi), List.getElem?_map] at h2
      cases e : vs[i]? with
      | none => rw [e] at h2; cases h2
      | some a => rw [e] at h2; cases h2; rfl
    obtain ⟨u, hu, rv⟩ := r.get ha
    have hp : ps[i]? = some y := by
      rw [← S.pre]; exact h1
    have ndP : ps.Nodup := by rw [← S.pre]; exact S.nd
    exact ⟨u, rv, .inl ⟨S.par y (List.mem_of_getElem? hp), zip_lookup ndP hp hu⟩⟩
  · rw [cl y c h]
    exact ⟨_, oc, hk _ _ (e0.bs _ _ hoc).1, hdc⟩
  · rw [cl y c h]
    exact (e0.bs _ _ hoc).2
  · have e := S.pre
    unfold start
    show _ = N.length
    rw [List.length_append, List.length_map, List.length_replicate, e]
    omega
end
end L2.LX
namespace L2.LX
open PySem PySem.Spec PyProof.Rows L2
open PySem.W (Frag)
/-- what the written part says of an own error's class at C whose maker (closing over the cell at cc, its code object at cda) says super().__init__(..) -/
structure SupC (K : Frag) (C cc : Addr) : Prop where
  oex : OexC K C
  cell : ∃ cl cld csl, K.lookup cc = some ⟨cl, cld, .cell (some (.ref C)), csl⟩
  along : PySem.W.ks_superIn K C C "__init__" = some (some (.builtin "ValueError.__init__"))
  sub : PySem.W.subIn K (.ref C) (.type "ValueError") = some true
  self : PySem.W.mroIn K C (.ref C) = some true
  opq : PySem.W.nsIn K cStatics "thirdparty.any" = some none
/-- the def's code object, its file -/
def CodeAt (K : Frag) (cdv : Value) (file : Str) : Prop := ∃ cda ccl cdd vs ccs tf, cdv = .ref cda ∧ K.lookup cda = some ⟨ccl, cdd, .fields vs, ccs⟩ ∧ vs[2]? = some (.str file tf)
theorem call_mw {P : Program} {w : World} {A : Around} {E : Value → Shared → Prop} {h : Heap} {g : Array GenState} {d : Drawn} {t : Nat} {os : OsState} {nm q : Str} {C N u e t0 : Addr} {bs bm : List Value} {hdct : Bool} {sn : List Str} {sub : List Value} {ab : Bool} {col : Option Bool} {dd : Option Addr} {k0 k1 k2 k3 k5 : Option Value} {rest : List Value} {Q : Value → Shared → Prop}
    (hC : h.get? C = some (excClassObj nm q C N bs bm hdct sn sub ab col dd k0 k1 k2 k3 k5 "ValueError.__new__")) (he : h.get? e = some (PySem.HandSPX.excO C t0)) (hu : h.get? u = some (PySem.W.kxs_mw "ValueError.__init__" e)) (hz : rest.length ≤ sizeLine)
    (hq : ∀ h' t1, (∀ b o, b ≠ e → h.get? b = some o → h'.get? b = some o) → h'.get? e = some (PySem.HandSPX.excO C t1) → Q .none ⟨h', g, d, t, os⟩) :
    wpAny (model P w) A (call (.ref u) rest) Q E ⟨h, g, d, t, os⟩ := by
  refine wpAny_call (codeAny_of_tree ?_)
  show wpAny _ A.in1 (callAny (.ref u) ⟨rest, []⟩) _ _ _
  simp only [callAny]
  refine wpAny_bind (wpAny_load hu ?_)
  simp only [PySem.W.kxs_mw, show (Value.type "method-wrapper" == Value.type "method" || Value.type "method-wrapper" == Value.type "builtin_function_or_method" || Value.type "method-wrapper" == Value.type "method-wrapper") = true by decide, if_true]
  refine PySem.W.KFB.if_so (by decide) ?_
  refine wpAny_bind (PySem.W.check_bound_init F.excBase_ValueError.toExcCallFacts hC he rfl ?_)
  refine wpAny_bind (wpAny_pure (wpAny_pure ?_))
  refine ⟨plainId_quiet F.excBase_ValueError.init.plain _, codeAny_builtin F.excBase_ValueError.initEntry ?_⟩
  refine PySem.W.exc_init_tree (cls := .ref C) (t0 := t0) (dv := none) (c2 := .none) (c3 := .none) (b4 := .bool false) he hz fun h' k e' _ => ?_
  exact hq h' _ k e'
section
variable {CX : CXT} {P : Program} {w : World} {K : Frag} {mg : Str → Option Value} {base : Heap} {k : Nat} {f cc C : Addr} {name qual : Str} {params : Arguments} {scope : Scope} {dV kV doc pm cdv ct oc : Value} {an od : Option Addr}
  {osl : Array (Option Value)} {N ps : List Str} {sp : Sp} {e : Expr} {rest : List Stmt} {p0 p1 p2 p3 pos : Pos} {file : Str} {ar : Arg}
/-- the rule for the maker of an own error: super().__init__(e), then the rest -/
theorem fn_super (lk : K.lookup f = some ⟨oc, od, .func (PySem.W.ksFn name qual params (.Expr (.Call (.Attribute (.Call (.Name "super" p0) [] [] p1) "__init__" p2) [e] [] pos) p3 :: rest) scope dV kV doc pm an cdv ct cc), osl⟩)
    (hcd : PySem.W.codeIn K cdv qual = true) (S : SupScope N ps scope) (T : SupC K C cc) (hcode : CodeAt K cdv file) (hfile : (P.main.file : Str) = file) (htop : (P.main.scope.names.lookup ("super" : Str)).isSome = false) (hsg : mg "super" = none)
    (hpar : (params.posonlyargs ++ params.args).head? = some ar) (hps : ps[0]? = some ar.arg)
    (len : ∀ vs H Q E, sp vs H Q E → vs.length = ps.length)
    (hbody : ∀ (cda : Addr) (A : Around) (outer : List Env) (s : Shared) (H : Hp) (vs : List V) (Q : VK) (E : XK), Room k (A.deeper (envS qual scope s.heap.objs.size f (.ref cda) cc)) → sp vs H Q E →
      ∃ (a : Addr) (ta : TA) (t : TS), vs[0]? = some (.ref a) ∧ H a = some (exo a C none) ∧ PA (cxS CX P w K mg base N qual scope f (.ref cda) cc A outer s H E) [e] ta ∧ PSs (cxS CX P w K mg base N qual scope f (.ref cda) cc A outer s H E) rest t ∧
        ta (start N vs) H fun ws H1 => ws.length ≤ 1000 ∧ H1 a = some (exo a C none) ∧ t { nx := fun _ H' => Q .non H', rt := Q } (start N vs) H1)
    {pl : Addr → Addr → Sem Bool}
    (hc : ∀ (L cda : Addr), eval (.Call (.Attribute (.Call (.Name "super" p0) [] [] p1) "__init__" p2) [e] [] pos) (envS qual scope L f (.ref cda) cc) = (do
      let ov ← attributeBase (.Call (.Name "super" p0) [] [] p1) "__init__" (envS qual scope L f (.ref cda) cc) (eval (.Call (.Name "super" p0) [] [] p1) (envS qual scope L f (.ref cda) cc))
      standAt p2.atName
      let (g, first) ← holding [ov] (getMethod ov "__init__" (pl L cda))
      callWith pos g first (backTo pos (starEach [e] (envS qual scope L f (.ref cda) cc))) []) := by intro _ _; rfl)
    (he : ∀ (L cda : Addr), starEach [e] (envS qual scope L f (.ref cda) cc) = (false, eval e (envS qual scope L f (.ref cda) cc)) :: starEach [] (envS qual scope L f (.ref cda) cc) := by intro _ _; rfl) :
    FnOk P w K mg base CX (k + 1) f (PySem.W.ksFn name qual params (.Expr (.Call (.Attribute (.Call (.Name "super" p0) [] [] p1) "__init__" p2) [e] [] pos) p3 :: rest) scope dV kV doc pm an cdv ct cc) ps sp := by
  refine ⟨len, fun A outer s H args us vs Q E hr e0 hb r hsp => ?_⟩
  have hl := len _ _ _ _ hsp
  have KX : K.In s.heap := e0.mod.kin.keeps fun b o e => (e0.bs b o e).1
  have lim : s.heap.NoLimit := e0.mod.nolimit.keeps fun b o e => (e0.bs b o e).1
  obtain ⟨cda, ccl, cdd, cvs, ccs, tf, rfl, hcc, hcv⟩ := hcode
  obtain ⟨cl, cld, csl, hcell⟩ := T.cell
  obtain ⟨a, ta, t, ha0, hHa, hPA, hPS, hq⟩ := hbody cda A outer s H vs Q E (hr.deeper _) hsp
  refine PySem.ks_codeAny_call_defAt (fd := PySem.W.ksFn name qual params _ scope dV kV doc pm an (.ref cda) ct cc) (body := _) (binds := ps.zip us) hr.depth (KX _ _ lk) rfl lim (PySem.W.codeRec_of KX hcd) rfl hb S.nocell (fun y hy => S.par _ (List.of_mem_zip hy).1) (fun h₁ hns hk₁ => ?_) S.co S.gen S.kind
  have cell' : base.get? cc = some ⟨cl, cld, .cell (some (.ref C)), csl⟩ := e0.mod.kin _ _ hcell
  have I : Inv (cxS CX P w K mg base N qual scope f (.ref cda) cc A outer s H E) [] (start N vs) H { s with heap := h₁, toks := s.toks + (ps.zip us).length } :=
    inv_startS S hr.hd e0 hl r ⟨_, cell', rfl⟩ hns hk₁
  have KX1 : K.In h₁ := KX.keeps hk₁
  obtain ⟨nm, q, N', bs, bm, sn, sub, ab, col, dd, k0, k1, k2, k3, k5, hC, hbm⟩ := T.oex.cls
  have hcl : PySem.W.clsIn K C = some { name := nm, bases := bs, mro := .ref C :: bm, ns := N', qualname := q, hasDict := true, slotNames := sn, subclasses := sub, abstract := ab, collection := col, hasDel := false } := by
    unfold PySem.W.clsIn
    rw [hC] <;> rfl
  obtain ⟨t1, hobj⟩ := exo_at I.hok hHa
  have hself : (ps.zip us).reverse.lookup ar.arg = some (.ref a) := by
    have hz : us[0]? = some (Value.ref a) := by
      obtain ⟨u, hu, ru⟩ := r.get ha0
      obtain rfl : u = Value.ref a := ru
      exact hu
    have ndP : ps.Nodup := by rw [← S.pre]; exact S.nd
    exact zip_lookup ndP hps hz
  have hpl : scope.names.lookup ar.arg = some .local := S.par _ (List.mem_of_getElem? hps)
  refine PySem.ks_wpAt_execs_cons (PySem.ks_wpAt_Expr_any (hi := by first | rfl | (unfold interactive; rw [show (PySem.callEnv (PySem.W.ksFn name qual params _ scope dV kV doc pm an (.ref cda) ct cc) s.heap.objs.size f).scope.kind = .function from S.kind]; rfl)) (PySem.ks_wpAt_MethodCall (env := envS qual scope s.heap.objs.size f (.ref cda) cc) (pl := pl s.heap.objs.size cda) ?_ (hc _ _)))
  refine PySem.ks_wpAt_super_base (f := f) (cc := cda) (env := envS qual scope s.heap.objs.size f (.ref cda) cc) S.sup S.cls rfl rfl (KX1 _ _ lk) rfl hpar rfl (KX1 _ _ hcc) rfl hcv (by rw [show ((P.main.file : Str) == file) = true from by rw [hfile]; exact beq_self_eq_true _]) htop ?_
  obtain ⟨mb, hb1, hb2⟩ := e0.mod.blt
  have baseK : ∀ b o, base.get? b = some o → h₁.get? b = some o := fun b o e => hk₁ b o (e0.bs b o e).1
  refine PySem.W.ks_loadName_global S.kind S.sup (Calls.loadGlobal_builtin (e0.mod.glob.keeps baseK) hsg (hb1.keeps baseK) ((hb2 _ (by decide)).trans (by decide +kernel)) ⟨rfl, ?_⟩)
  refine wpAny_loadName_free S.kind S.cls rfl ⟨_, baseK _ _ cell', rfl⟩ ?_
  refine wpAny_loadName_local S.kind hpl hns hself ?_
  refine PySem.ks_wpAny_isType_cls (KX1 _ _ hC) rfl ⟨rfl, ?_⟩
  have J0 : PySem.W.InstAt h₁ a { cls := .ref C, dict := none, data := .fields #[.ref t1, .none, .none, .none, .bool false, .none] } C none := ⟨hobj, rfl, rfl, trivial⟩
  refine PySem.ks_wpAny_call_super (KX1 _ _ hC) rfl J0.at_ J0.cls (fun c e => nomatch e) (PySem.W.looks_mroIn KX1 T.self) (fun h2 e2 kk2 => ?_)
  have KX2 : K.In h2 := KX1.keeps kk2
  have J : PySem.W.InstAt h2 a { cls := .ref C, dict := none, data := .fields #[.ref t1, .none, .none, .none, .bool false, .none] } C none := ⟨kk2 _ _ hobj, rfl, rfl, trivial⟩
  have hal : PySem.W.alongIn K "__init__" (((Value.ref C :: bm).dropWhile (· != .ref C)).drop 1) = some (some (.builtin "ValueError.__init__")) := by
    have z := T.along
    unfold PySem.W.ks_superIn at z
    rw [hcl] at z
    exact z
  have hI : PySem.W.Looks (model P w) h2 (isInstance (.ref a) (.type "ValueError")) true := J.type.andThen (PySem.W.looks_subIn KX2 T.sub)
  refine PySem.W.kxs_getMethod (l₀ := .ref C :: bm) PySem.W.kxs_ValueError e2 (PySem.W.looks_opaque KX2 T.opq) (fun A Q E s k q => wpAny_bind ((PySem.W.looks_clsIn KX2 hcl) A _ E s k (wpAny_pure q))) rfl KX2 hal hI (PySem.W.ks_ne KX2 J hcl) (by decide +kernel) ?_
  have k3 : ∀ b o, h2.get? b = some o → (h2.push (PySem.W.kxs_mw "ValueError.__init__" a)).get? b = some o := fun b o e => Heap.get?_push_of_some _ e
  have I2 : Inv (cxS CX P w K mg base N qual scope f (.ref cda) cc A outer s H E) [] (start N vs) H { s with heap := h2, toks := s.toks + (ps.zip us).length } := I.kept kk2
  have I3 : Inv (cxS CX P w K mg base N qual scope f (.ref cda) cc A outer s H E) [] (start N vs) H { s with heap := h2.push (PySem.W.kxs_mw "ValueError.__init__" a), toks := s.toks + (ps.zip us).length + 1 } := I2.kept k3
  have hu3 : (h2.push (PySem.W.kxs_mw "ValueError.__init__" a)).get? h2.objs.size = some (PySem.W.kxs_mw "ValueError.__init__" a) := Heap.get?_push_at rfl rfl
  have I4 : Inv (cxS CX P w K mg base N qual scope f (.ref cda) cc A outer s H E) [(h2.objs.size, PySem.W.kxs_mw "ValueError.__init__" a)] (start N vs) H { s with heap := h2.push (PySem.W.kxs_mw "ValueError.__init__" a), toks := s.toks + (ps.zip us).length + 1 } := by
    refine I3.pins_of fun p hp => ?_
    have ep : p = (h2.objs.size, PySem.W.kxs_mw "ValueError.__init__" a) := by simpa using hp
    subst ep
    exact ⟨hu3, I2.hok.fresh (Nat.le_refl _), Nat.ne_of_gt I2.lt, I2.nofs (Nat.le_refl _), fun v z => nomatch z⟩
  show wpAny _ _ (callWith pos (.ref h2.objs.size) [] (backTo pos (starEach [e] (envS qual scope s.heap.objs.size f (.ref cda) cc))) []) _ _ _
  have he' := he s.heap.objs.size cda
  have hrun := hPA.run pos _ _ _ _ _ I4 hq
  have hrun' : wpAny (model P w) (A.deeper (envS qual scope s.heap.objs.size f (.ref cda) cc)) (spliced (backTo pos (starEach [e] (envS qual scope s.heap.objs.size f (.ref cda) cc)))) _ _ _ := hrun
  refine PySem.W.kxs_callWith (i := "ValueError.__init__") (x := a) (u := h2.objs.size) (by rw [he']; rfl) ?_
  rw [he'] at hrun' ⊢
  refine Calls.evalArgs_plain (thn hrun' fun ws s5 hs5 => ?_)
  obtain ⟨wv, H1, I5, rw5, hlen, hHa1, ht⟩ := hs5
  obtain ⟨hu5, _⟩ := I5.pin (h2.objs.size, PySem.W.kxs_mw "ValueError.__init__" a) (List.mem_append_right _ List.mem_cons_self)
  refine ⟨hu5, ?_⟩
  show wpAny _ _ (call (.ref h2.objs.size) ([] ++ ws)) _ _ _
  rw [List.nil_append]
  obtain ⟨t5, ho5⟩ := exo_at I5.hok hHa1
  have I6 : Inv (cxS CX P w K mg base N qual scope f (.ref cda) cc A outer s H E) [] (start N vs) H1 s5 := I5.pins_of fun p hp => nomatch hp
  have KX5 : K.In s5.heap := I6.kIn
  obtain ⟨h5, g5, d5, tk5, os5⟩ := s5
  refine call_mw (KX5 _ _ hC) ho5 hu5 (by rw [← Paired.length rw5, sizeLine_eq]; omega) fun h6 t6 k6 ho6 => ?_
  have I7 := I6.write (t' := tk5) (x := a) (e := a) (o := exo a C none) (by rw [hHa1]; exact True.intro) (.inl rfl) k6 ⟨_, ho6⟩ (exo_ok ho6)
  have eu : upd H1 a (exo a C none) = H1 := by
    funext b
    by_cases hb : b = a
    · rw [hb, upd_same, hHa1]
    · rw [upd_ne hb]
  rw [eu] at I7
  refine PySem.wpAt_of_wpAny (wpAny_mono (hPS.run [] _ _ _ _ I7 ht) (fun fl s' hs => ?_) fun e s' hs => hs)
  have fin : ∀ {σ' : St} {H' : Hp} {v : V} {u : Value}, Inv (cxS CX P w K mg base N qual scope f (.ref cda) cc A outer s H E) [] σ' H' s' → RelV v u → Q v H' → CE outer P w H s Q u s' :=
    fun {σ' H' v u} J rv q => ⟨v, H', J.os, J.bare, J.base, J.hok, rv, q⟩
  cases fl with
  | ret u =>
    obtain ⟨v, σ', H', J, rv, q⟩ := hs
    exact fin J rv q
  | next =>
    obtain ⟨σ', H', J, q⟩ := hs
    exact fin (v := V.non) (u := Value.none) J rfl q
  | brk =>
    obtain ⟨_, _, _, q⟩ := hs
    exact False.elim q
  | cont =>
    obtain ⟨_, _, _, q⟩ := hs
    exact False.elim q
end
end L2.LX
namespace L2.LX
open PySem PySem.Spec PyProof.Rows L2
open PySem.W (Frag)
/-! an own error as a value: made, a field read, isinstance -/
/-- C(e, ..) as a value: the error object at a, as its maker leaves it -/
def tMkV (C : Addr) (sp : Sp) (dvs : List V) (ta : TA) : TE := fun σ H Q => ta σ H fun vs H1 => vs.length ≤ 1000 ∧ ∀ a, H1 a = none → sp (.ref a :: (vs ++ dvs)) (upd H1 a (exo a C none))
  (fun v H2 => v = .non ∧ Q (.ref a) H2) (fun _ _ _ => False)
section
variable {X : Cx} {e o : Expr} {es : List Expr} {ta : TA} {te : TE} {p pos : Pos}
theorem run_oex {CX : CXT} {pins : List (Addr × Obj)} {σ : St} {H1 : Hp} {s1 : Shared} {Q : VK} {us : List Value} {vs : List V} {C fI : Addr} {k : Nat} {fd : FuncData} {ps : List Str} {sp : Sp} {ds : List Value} {dvs : List V} (T : OexC X.K C) (iC : PySem.W.findIn X.K (.ref C) "__init__" = some (some (.ref fI))) (tI : PySem.W.typeIn X.K (.ref fI) = some (.type "function"))
    (F1 : FnOk X.prog X.w X.K X.mg X.base CX k fI fd ps sp) (hr : Room (k + 1) X.A) (hb : Binds X.K fd ps ds) (hd : Vals dvs ds) (hx : Passes CX X (fun _ _ _ => False)) (I1 : Inv X pins σ H1 s1) (r1 : Vals vs us) (hz : vs.length ≤ 1000)
    (q1 : ∀ a, H1 a = none → sp (.ref a :: (vs ++ dvs)) (upd H1 a (exo a C none)) (fun v H2 => v = .non ∧ Q (.ref a) H2) (fun _ _ _ => False)) :
    wpAny (model X.prog X.w) X.A (call (.ref C) us) (EP X pins σ Q) X.xe s1 := by
  obtain ⟨nm, q, N, bs, bm, sn, sub, ab, col, dd, k0, k1, k2, k3, k5, hC, hbm⟩ := T.cls
  obtain ⟨hp, g, dr, tk, os⟩ := s1
  have hsz : hp.objs.size ≤ hp.objs.size + 1 := Nat.le_succ _
  have hn : H1 (hp.objs.size + 1) = none := I1.hok.fresh hsz
  have hq := q1 (hp.objs.size + 1) hn
  have kk : ∀ b o, hp.get? b = some o → ((hp.push (PySem.W.kdv_tup us)).push (PySem.HandSPX.excO C hp.objs.size)).get? b = some o := fun b o e => Heap.get?_push_of_some _ (Heap.get?_push_of_some _ e)
  have hget : ((hp.push (PySem.W.kdv_tup us)).push (PySem.HandSPX.excO C hp.objs.size)).get? (hp.objs.size + 1) = some (PySem.HandSPX.excO C hp.objs.size) := by heap_get
  have I2 : Inv X pins σ (upd H1 (hp.objs.size + 1) (exo (hp.objs.size + 1) C none)) ⟨(hp.push (PySem.W.kdv_tup us)).push (PySem.HandSPX.excO C hp.objs.size), g, dr, tk, os⟩ :=
    I1.laid (t' := tk) (a := hp.objs.size + 1) (o := exo (hp.objs.size + 1) C none) (h' := (hp.push (PySem.W.kdv_tup us)).push (PySem.HandSPX.excO C hp.objs.size)) kk hsz (exo_ok hget)
  have r2 : Vals (V.ref (hp.objs.size + 1) :: (vs ++ dvs)) (Value.ref (hp.objs.size + 1) :: (us ++ ds)) := .cons rfl (r1.append hd)
  have hl : (Value.ref (hp.objs.size + 1) :: us ++ ds).length = ps.length := by
    have e := r2.length
    rw [F1.len _ _ _ _ hq] at e
    exact e.symm
  have hus : us.length ≤ sizeLine := by
    rw [← Paired.length r1, sizeLine_eq]
    omega
  refine wpAny_call (PySem.HandSPX.call_own F.excBase_ValueError (fun Y => PySem.HandSPX.refsVE_contains Y bm hbm) (I1.kIn _ _ hC) (PySem.W.looks_findIn I1.kIn iC) (fun self => PySem.W.bind_fn I1.kIn self tI) hus
    (codeAny_mono (F1.run _ X.stack _ _ ⟨Value.ref (hp.objs.size + 1) :: us, []⟩ (Value.ref (hp.objs.size + 1) :: (us ++ ds)) _ _ (fun _ _ _ => False) (hr.make C us []) (I2.env0.make C us []) (hb _ (Value.ref (hp.objs.size + 1) :: us) I2.kIn hl) r2 hq) fun r s' hq' => ?_))
  cases r with
  | error er => exact hx pins σ _ _ er s' I2 hq'
  | ok fl =>
    cases fl with
    | ret u =>
      obtain ⟨v, H2, os2, bare2, un2, hok2, rv, ev, q2⟩ := hq'
      subst ev
      obtain ⟨h2, g2, d2, t2, os'⟩ := s'
      refine ⟨rv, .ref (hp.objs.size + 1), H2, I2.call' (ch := []) os2 un2 hok2 bare2 (fun b z => absurd z (by simp)), rfl, q2⟩
    | next => exact False.elim hq'
    | brk => exact False.elim hq'
    | cont => exact False.elim hq'
theorem pe_oex {CX : CXT} {x : Str} {C fI : Addr} {k : Nat} {fd : FuncData} {ps : List Str} {sp : Sp} {ds : List Value} {dvs : List V} (T : OexC X.K C) (iC : PySem.W.findIn X.K (.ref C) "__init__" = some (some (.ref fI))) (tI : PySem.W.typeIn X.K (.ref fI) = some (.type "function"))
    (F1 : FnOk X.prog X.w X.K X.mg X.base CX k fI fd ps sp) (hr : Room (k + 1) X.A) (hb : Binds X.K fd ps ds) (hd : Vals dvs ds) (hx : Passes CX X (fun _ _ _ => False)) (hg : Gl X x) (hm : X.mg x = some (.ref C)) (ha : PA X (e :: es) ta)
    (hdb : (x == ("__debug__" : Str)) = false := by decide) (he : starEach (e :: es) X.env = (false, eval e X.env) :: starEach es X.env := by rfl) (hpl : (backTo pos (starEach es X.env)).any (·.1) = false := by rfl) :
    PE X (.Call (.Name x p) (e :: es) [] pos) (tMkV C sp dvs ta) := by
  refine ⟨fun pins s σ H Q I h => ?_⟩
  refine wpAny_Call_Name_kw (ld_glob I hg hm ?_ hdb)
  refine PySem.W.callWith_K (h₀ := X.base) I.ok.mod.kin T.kC (thn (ha.run pos pins s σ H _ I h) fun us s1 ⟨vs, H1, I1, r1, hz, q1⟩ => ⟨I1.kIn, ?_⟩) he hpl
  exact run_oex T iC tI F1 hr hb hd hx I1 r1 hz q1
/-- C(), an own error without arguments, as a value -/
theorem pe_oex0 {CX : CXT} {x : Str} {C fI : Addr} {k : Nat} {fd : FuncData} {ps : List Str} {sp : Sp} {ds : List Value} {dvs : List V} (T : OexC X.K C) (iC : PySem.W.findIn X.K (.ref C) "__init__" = some (some (.ref fI))) (tI : PySem.W.typeIn X.K (.ref fI) = some (.type "function"))
    (F1 : FnOk X.prog X.w X.K X.mg X.base CX k fI fd ps sp) (hr : Room (k + 1) X.A) (hb : Binds X.K fd ps ds) (hd : Vals dvs ds) (hx : Passes CX X (fun _ _ _ => False)) (hg : Gl X x) (hm : X.mg x = some (.ref C))
    (hdb : (x == ("__debug__" : Str)) = false := by decide) :
    PE X (.Call (.Name x p) [] [] pos) (tMkV C sp dvs tNil) := by
  refine ⟨fun pins s σ H Q I h => ?_⟩
  refine wpAny_Call_Name_kw (ld_glob I hg hm ?_ hdb)
  obtain ⟨hz, q1⟩ := h
  refine PySem.W.callWith_K0 I.kIn T.kC ?_
  exact run_oex T iC tI F1 hr hb hd hx I .nil hz q1
/-- e.f of an error object that stands -/
def tXv (K : Frag) (C : Addr) (f : Str) (te : TE) : TE := fun σ H Q => te σ H fun x H1 => ∃ (a dx : Addr) (fs : List (Str × V)) (v : V), x = .ref a ∧ H1 a = some (exo a C (some dx)) ∧ H1 dx = some (exd dx fs) ∧ fs.lookup f = some v ∧ Q v H1
theorem pe_xv {C : Addr} {n : Str} (T : XfC X.K C) (hno : PySem.W.findIn X.K (.ref C) n = some none) (he : PE X e te) (hb : attributeBase e n X.env (eval e X.env) = eval e X.env := by rfl) :
    PE X (.Attribute e n pos) (tXv X.K C n te) := by
  refine ⟨fun pins s σ H Q I h => ?_⟩
  refine attr_of hb (thn (he.run pins s σ H _ I h) fun u s1 hh => ?_)
  obtain ⟨x, H1, I1, rx, a, dx, fs, v, ex, ea, ed, l, q⟩ := hh
  subst ex
  obtain rfl : u = Value.ref a := rx
  obtain ⟨t1, ho1⟩ := exo_at I1.hok ea
  obtain ⟨mA, hns, hr⟩ := exd_at I1.hok ed
  obtain ⟨od, ho, hl⟩ := lookIn_ns hns
  obtain ⟨u, hu, ru⟩ := RelO.some_of (v := v) (o := mA n) (by rw [← l]; exact hr n)
  have J : PySem.W.InstAt s1.heap a { cls := .ref C, dict := some dx, data := .fields #[.ref t1, .none, .none, .none, .bool false, .none] } C (some od) := ⟨ho1, rfl, rfl, ho⟩
  exact HandSPX.exc_get I1.kIn J T.ga T.gg T.exC (PySem.W.findObj_own T.hdC hno rfl (by rw [hl, hu])) (handed_of ru) ⟨v, H1, I1.tok _, ru, q⟩
/-- isinstance(e, D) of an error object that stands -/
def rIsX (K : Frag) (C : Addr) : List V → Hp → VK → Prop := fun xs H Q => ∃ (a : Addr) (d : Option Addr) (c : V) (u : Value) (b : Bool), xs = [.ref a, c] ∧ ClsV c u ∧ H a = some (exo a C d) ∧ (∀ dx, d = some dx → ∃ fs, H dx = some (exd dx fs)) ∧ PySem.W.kitOne K (.ref C) u = some b ∧ Q (.bl b) H
theorem call_isX {C : Addr} (T : ExcC X.K C) : CallR X (.builtin "isinstance") (rIsX X.K C) := by
  intro pins s σ H xs us Q I r h
  obtain ⟨a, d, c, u, b, rfl, k, ea, ed, e, q⟩ := h
  obtain ⟨u1, u2, rfl, r1, r2⟩ := vals2 r
  have e2 := k.eq r2
  subst e2
  obtain rfl : u1 = Value.ref a := r1
  obtain ⟨t1, ho1⟩ := exo_at I.hok ea
  have hcl : (PySem.W.clsIn X.K C).isSome = true := by
    obtain ⟨cd, hc, _⟩ := PySem.W.any_some T.hd
    rw [hc]
    rfl
  cases d with
  | none =>
    have J : PySem.W.InstAt s.heap a { cls := .ref C, dict := none, data := .fields #[.ref t1, .none, .none, .none, .bool false, .none] } C none := ⟨ho1, rfl, rfl, trivial⟩
    exact PySem.W.kia_one (PySem.W.kitx_exc hcl T.hg T.hk T.hs T.ha T.hn T.ht T.hm) I.kIn J e (fun z => nomatch z) fun tk => ⟨.bl b, H, I.tok tk, rfl, q⟩
  | some dx =>
    obtain ⟨fs, hd⟩ := ed dx rfl
    obtain ⟨mA, hns, hr⟩ := exd_at I.hok hd
    obtain ⟨od, ho, hl⟩ := lookIn_ns hns
    have J : PySem.W.InstAt s.heap a { cls := .ref C, dict := some dx, data := .fields #[.ref t1, .none, .none, .none, .bool false, .none] } C (some od) := ⟨ho1, rfl, rfl, ho⟩
    exact PySem.W.kia_one (PySem.W.kitx_exc hcl T.hg T.hk T.hs T.ha T.hn T.ht T.hm) I.kIn J e (fun z => nomatch z) fun tk => ⟨.bl b, H, I.tok tk, rfl, q⟩
end
end L2.LX
namespace L2.LX
open PySem PySem.Spec PyProof.Rows L2
open PySem.W (Frag)
/-! what an own class's special methods do: the operators -/
section
variable {X : Cx} {CX : CXT} {n : Nat} {f C : Addr} {fd : FuncData} {ps : List Str} {sp : Sp} {E : XK}
/-- a def of ours called somewhere below the running body -/
theorem run_sub {A : Around} {pins : List (Addr × Obj)} {σ : St} {H : Hp} {s : Shared} {Q : VK} {us : List Value} {vs : List V} (F : FnOk X.prog X.w X.K X.mg X.base CX n f fd ps sp) (sb : Sub X n A) (hb : Binds X.K fd ps []) (hx : Passes CX X E)
    (I : Inv X pins σ H s) (r : Vals vs us) (h : sp vs H Q E) : wpAny (model X.prog X.w) A (call (.ref f) us) (EP X pins σ Q) X.xe s := by
  have hl := F.len _ _ _ _ h
  have e0 : Env0 X.prog X.w X.K X.mg X.base A X.stack s H := by
    have e := I.env0
    exact ⟨by rw [sb.fr]; exact e.frames, e.mod, e.bs, e.bsz, e.funs, e.frf, e.hok, e.bare⟩
  refine wpAny_call (codeAny_mono (F.run A X.stack s H ⟨us, []⟩ us vs Q E sb.room e0 (by
    have := hb s us I.kIn (by rw [List.append_nil, ← r.length]; exact hl)
    simpa using this) r h) fun r s' hq => ?_)
  cases r with
  | error e => exact hx pins σ H s e s' I hq
  | ok fl =>
    cases fl with
    | ret u => exact I.after hq
    | next => exact False.elim hq
    | brk => exact False.elim hq
    | cont => exact False.elim hq
theorem Sub.here (hr : Room n X.A) : Sub X n X.A := ⟨hr, rfl⟩
theorem vals_ref1 (a : Addr) : Vals [V.ref a] [Value.ref a] := .cons (show RelV (V.ref a) (Value.ref a) from rfl) .nil
theorem vals_ref2 (a b : Addr) : Vals [V.ref a, V.ref b] [Value.ref a, Value.ref b] := .cons (show RelV (V.ref a) (Value.ref a) from rfl) (vals_ref1 b)
theorem rel_ni {z : V} (h : RelV z .notImplemented) : False := by
  cases z with
  | non => cases h
  | bl b => cases h
  | int i => obtain ⟨t, e⟩ := h; cases e
  | str i => obtain ⟨t, e⟩ := h; cases e
  | byt i => obtain ⟨t, e⟩ := h; cases e
  | flt i => obtain ⟨t, e⟩ := h; cases e
  | ref a => cases h
  | ty n => cases h
theorem cmp_back {pins : List (Addr × Obj)} {σ : St} {Q : VK} {w : Value} {s1 : Shared} (hw : EP X pins σ Q w s1) : PySem.W.CmpBack (EP X pins σ Q) w s1 := by
  unfold PySem.W.CmpBack
  split
  · obtain ⟨z, H1, I1, rz, qz⟩ := hw
    exact rel_ni rz
  · exact hw
/-- the own class has the method m at f -/
structure Op (K : Frag) (C : Addr) (m : Str) (f : Addr) : Prop where
  at_ : PySem.W.findIn K (.ref C) m = some (some (.ref f))
  fn : PySem.W.isFn K (.ref f) = true
/-- x op y, both of the class at C -/
def rOwn2 (C : Addr) (sp : Sp) (E : XK) : R2 := fun x y H Q => ∃ a b dx dy fs gs, x = .ref a ∧ y = .ref b ∧ H a = some (.ins C dx fs) ∧ H b = some (.ins C dy gs) ∧ sp [.ref a, .ref b] H Q E
theorem op_own2 {op : Operator} (F : FnOk X.prog X.w X.K X.mg X.base CX n f fd ps sp) (hr : Room n X.A) (hb : Binds X.K fd ps []) (hx : Passes CX X E) (hc : PySem.W.selfFirst X.K C = true) (O : Op X.K C (PySem.dunder op.info.2) f) : OpR X (binaryOp op) (rOwn2 C sp E) := by
  intro pins s σ H x y v u Q I r1 r2 h
  obtain ⟨a, b, dx, dy, fs, gs, rfl, rfl, ha, hb', q⟩ := h
  cases r1
  cases r2
  obtain ⟨mA, J, _⟩ := ins_get I.hok ha
  obtain ⟨mB, J', _⟩ := ins_get I.hok hb'
  obtain ⟨od, J, _⟩ := J.look
  obtain ⟨od', J', _⟩ := J'.look
  obtain ⟨m, hF⟩ := I.fr
  refine PySem.W.binop_K hF I.ok.mod.kin J J'.type hc O.at_ O.fn (thn (run_sub F (Sub.here hr) hb hx I (vals_ref2 a b) q) fun w s1 hw => ?_)
  exact cmp_back hw
/-- -x -/
def rOwn1 (C : Addr) (sp : Sp) (E : XK) : V → Hp → VK → Prop := fun x H Q => ∃ a dx fs, x = .ref a ∧ H a = some (.ins C dx fs) ∧ sp [.ref a] H Q E
theorem un_ownNeg (F : FnOk X.prog X.w X.K X.mg X.base CX n f fd ps sp) (hr : Room n X.A) (hb : Binds X.K fd ps []) (hx : Passes CX X E) (O : Op X.K C "__neg__" f) : UnR X (unaryOp .USub) (rOwn1 C sp E) := by
  intro pins s σ H x v Q I r1 h
  obtain ⟨a, dx, fs, rfl, ha, q⟩ := h
  cases r1
  obtain ⟨mA, J, _⟩ := ins_get I.hok ha
  obtain ⟨od, J, _⟩ := J.look
  obtain ⟨m, hF⟩ := I.fr
  exact PySem.W.ksp_neg hF I.ok.mod.kin J O.at_ O.fn (run_sub F (Sub.here hr) hb hx I (vals_ref1 a) q)
/-- abs(x) -/
def rOwnC (C : Addr) (sp : Sp) (E : XK) : List V → Hp → VK → Prop := fun xs H Q => ∃ a dx fs, xs = [.ref a] ∧ H a = some (.ins C dx fs) ∧ sp [.ref a] H Q E
theorem call_ownAbs (F : FnOk X.prog X.w X.K X.mg X.base CX n f fd ps sp) (hr : Room (n + 1) X.A) (hb : Binds X.K fd ps []) (hx : Passes CX X E) (O : Op X.K C "__abs__" f) : CallR X (.builtin "abs") (rOwnC C sp E) := by
  intro pins s σ H xs us Q I r h
  obtain ⟨a, dx, fs, rfl, ha, q⟩ := h
  obtain ⟨u, rfl, ru⟩ := vals1 r
  obtain rfl : u = Value.ref a := ru
  obtain ⟨mA, J, _⟩ := ins_get I.hok ha
  obtain ⟨od, J, _⟩ := J.look
  refine Calls.call_function_entry kind_abs plain_abs entry_abs (args_abs _) ?_
  unfold Builtin.«abs»
  refine wpAny_bind (m := oneArg "abs" _) (wpAny_pure ?_)
  refine wpAny_bind (m := callSpecial? (.ref a) (Str.ofString "__abs__")) (PySem.W.special_fn I.kIn J O.at_ (beq_iff_eq.mp O.fn) (wpAny_mono (run_sub F (Sub.in1 (Sub.here hr)) hb hx I (vals_ref1 a) q) (fun r s' hr => ?_) fun _ _ y => y))
  exact wpAny_pure ⟨_, rfl, hr⟩
theorem str_back {pins : List (Addr × Obj)} {σ : St} {Q : VK} {w : Value} {s1 : Shared} (hw : EP X pins σ (fun z H' => ∃ y, z = .str y ∧ Q (.str y) H') w s1) : PySem.W.StrBack (EP X pins σ Q) w s1 := by
  obtain ⟨z, H1, I1, rz, y, rfl, qz⟩ := hw
  obtain ⟨t, rfl⟩ := rz
  exact ⟨.str y, H1, I1, ⟨t, rfl⟩, qz⟩
/-- a text comes back -/
def QStr (Q : VK) : VK := fun z H' => ∃ y, z = .str y ∧ Q (.str y) H'
def rOwnS (C : Addr) (sp : Sp) (E : XK) : List V → Hp → VK → Prop := fun xs H Q => rOwnC C sp E xs H (QStr Q)
theorem call_ownStr (F : FnOk X.prog X.w X.K X.mg X.base CX n f fd ps sp) (hr : Room (n + 2) X.A) (hb : Binds X.K fd ps []) (hx : Passes CX X E) (O : Op X.K C "__str__" f) : CallR X (.type "str") (rOwnS C sp E) := by
  intro pins s σ H xs us Q I r h
  obtain ⟨a, dx, fs, rfl, ha, q⟩ := h
  obtain ⟨u, rfl, ru⟩ := vals1 r
  obtain rfl : u = Value.ref a := ru
  obtain ⟨mA, J, _⟩ := ins_get I.hok ha
  obtain ⟨od, J, _⟩ := J.look
  refine PySem.W.kso_call (Room.units0 (hr.in1).in1) I.kIn J O.at_ O.fn (wpAny_mono (run_sub F (Sub.in1 (Sub.in1 (Sub.here hr))) hb hx I (vals_ref1 a) q) (fun _ _ z => str_back z) fun _ _ y => y)
theorem call_ownRepr (F : FnOk X.prog X.w X.K X.mg X.base CX n f fd ps sp) (hr : Room (n + 1) X.A) (hb : Binds X.K fd ps []) (hx : Passes CX X E) (O : Op X.K C "__repr__" f) : CallR X (.builtin "repr") (rOwnS C sp E) := by
  intro pins s σ H xs us Q I r h
  obtain ⟨a, dx, fs, rfl, ha, q⟩ := h
  obtain ⟨u, rfl, ru⟩ := vals1 r
  obtain rfl : u = Value.ref a := ru
  obtain ⟨mA, J, _⟩ := ins_get I.hok ha
  obtain ⟨od, J, _⟩ := J.look
  obtain ⟨m, hF⟩ := I.fr
  refine PySem.W.repr_K (Room.units0 hr.in1) hF I.ok.mod.kin J O.at_ O.fn (wpAny_mono (run_sub F (Sub.in1 (Sub.here hr)) hb hx I (vals_ref1 a) q) (fun _ _ z => str_back z) fun _ _ y => y)
/-- a truth comes back -/
def QBool (Q : VK) : VK := fun z H' => ∃ y, z = .bl y ∧ Q (.bl y) H'
def rOwnB (C : Addr) (sp : Sp) (E : XK) : List V → Hp → VK → Prop := fun xs H Q => rOwnC C sp E xs H (QBool Q)
theorem truthy_own {A : Around} {pins : List (Addr × Obj)} {σ : St} {H : Hp} {s : Shared} {Q : Bool → Hp → Prop} {a dx : Addr} {fs : List (Str × V)} (F : FnOk X.prog X.w X.K X.mg X.base CX n f fd ps sp) (sb : Sub X n A) (hb : Binds X.K fd ps []) (hx : Passes CX X E) (O : Op X.K C "__bool__" f)
    (I : Inv X pins σ H s) (ha : H a = some (.ins C dx fs)) (q : sp [.ref a] H (fun z H' => ∃ y, z = .bl y ∧ Q y H') E) : wpAny (model X.prog X.w) A (truthy (.ref a)) (TP X pins σ Q) X.xe s := by
  obtain ⟨mA, J, _⟩ := ins_get I.hok ha
  obtain ⟨od, J, _⟩ := J.look
  obtain ⟨m, hF⟩ := I.fr
  refine PySem.W.truthy_K hF I.ok.mod.kin J O.at_ O.fn (wpAny_mono (run_sub F sb hb hx I (vals_ref1 a) q) (fun v s1 z => ?_) fun _ _ y => y)
  obtain ⟨z, H1, I1, rz, y, rfl, qz⟩ := z
  cases rz
  exact ⟨H1, I1, qz⟩
theorem call_ownBool (F : FnOk X.prog X.w X.K X.mg X.base CX n f fd ps sp) (hr : Room (n + 2) X.A) (hb : Binds X.K fd ps []) (hx : Passes CX X E) (O : Op X.K C "__bool__" f) : CallR X (.type "bool") (rOwnB C sp E) := by
  intro pins s σ H xs us Q I r h
  obtain ⟨a, dx, fs, rfl, ha, q⟩ := h
  obtain ⟨u, rfl, ru⟩ := vals1 r
  obtain rfl : u = Value.ref a := ru
  have ht := truthy_own (A := X.A.in1.in1) (Q := fun y H' => Q (.bl y) H') F (Sub.in1 (Sub.in1 (Sub.here hr))) hb hx O I ha q
  refine callType_codes (T := "bool") (Bi := Builtin.«object.__init__») (Q₁ := fun r s₁ => ∃ b, r = .bool b ∧ EP X pins σ Q r s₁) PySem.F.called_bool (PySem.F.typeCall_bool_1 _) PySem.F.entry_object_init ?_ ?_
  · refine codeAny_of_tree ?_
    show wpAny _ X.A.in1.in1 (do checkBuiltinCall "bool.__new__" ⟨[.type "bool", .ref a], []⟩; again (.builtin "bool.__new__" ⟨[.type "bool", .ref a], []⟩)) _ _ s
    refine wpAny_bind (wpAny_of_eq (PySem.F.newCall_bool_1 _) (wpAny_pure ⟨plainId_quiet (by decide +kernel) _, codeAny_builtin PySem.F.entry_bool_new ?_⟩))
    rw [Around.under_plainId (by decide +kernel) _]
    unfold Builtin.«bool.__new__»
    refine wpAny_bind (m := isType (.type "bool")) (wpAny_pure ?_)
    refine wpAny_bind (m := isSubtype (.type "bool") (.type "bool")) (wpAny_of_eq PySem.F.conv_sub_bool ?_)
    refine wpAny_bind (m := someArgs "bool" 0 1 _) (wpAny_pure ?_)
    refine wpAny_bind (wpAny_mono ht (fun y s1 z => ?_) fun _ _ y => y)
    obtain ⟨H1, I1, qz⟩ := z
    exact wpAny_pure ⟨y, rfl, .bl y, H1, I1, rfl, qz⟩
  · rintro obj s₁ ⟨y, rfl, hq⟩
    exact ⟨PySem.typeIs_bool _ _, PySem.F.args_object_init_2 _ _, object_init_meets PySem.F.called_bool.init.lookup PySem.F.called_bool.made (by decide) X.prog X.w X.A.in1 _ s₁ ⟨PySem.typeIs_bool _ _, rfl, hq⟩⟩
/-- x == y, x of the class at C, y of a known type that is not before C -/
def rOwnEq (K : Frag) (C : Addr) (sp : Sp) (E : XK) : R2 := fun x y H Q => ∃ a dx fs t, x = .ref a ∧ H a = some (.ins C dx fs) ∧ TyX K H y t ∧ PySem.W.notFirst K C t = true ∧ sp [.ref a, y] H Q E
theorem op_ownEq (F : FnOk X.prog X.w X.K X.mg X.base CX n f fd ps sp) (hr : Room n X.A) (hb : Binds X.K fd ps []) (hx : Passes CX X E) (O : Op X.K C "__eq__" f) : OpR X (compareOp .Eq) (rOwnEq X.K C sp E) := by
  intro pins s σ H x y v u Q I r1 r2 h
  obtain ⟨a, dx, fs, t, rfl, ha, ty, hn, q⟩ := h
  cases r1
  obtain ⟨mA, J, _⟩ := ins_get I.hok ha
  obtain ⟨od, J, _⟩ := J.look
  obtain ⟨m, hF⟩ := I.fr
  obtain ⟨P, Z, p, _⟩ := kit_of I r2 ty
  refine PySem.W.cmp_ofEq (PySem.W.cmp_K (tb := t) hr.units0 hF I.ok.mod.kin J (Z.ty _ _ I.kIn p) hn O.at_ O.fn (thn (run_sub F (Sub.here hr) hb hx I (.cons (show RelV (V.ref a) (Value.ref a) from rfl) (.cons r2 .nil)) q) fun w s1 hw => cmp_back hw))
end
end L2.LX
namespace L2.LX
open PySem PySem.Spec PyProof.Rows L2
open PySem.W (Frag)
open AutoSeq1 (wpAny_loadPart')
section
variable {P : Program} {w : World} {A : Around} {E : Value → Shared → Prop} {s : Shared} {b : Addr} {Q : Option Value → Shared → Prop} {o : Obj}
theorem dec_by {T : String} {id : String} {B : Builtin} {v : Value} (slot : Slot T "__eq__" id) (hT : s.TypeIs v T) (entry : entryFor table id = some B) (args : argsOk id ⟨[v, .ref b], []⟩)
    (h : wpAny (model P w) A.in1 (B ⟨[v, .ref b], []⟩) (GQ.FinOf P w A (wants (fun r s' => r = .notImplemented ∧ s' = s) E)) (fun e s' => wants (fun r s' => r = .notImplemented ∧ s' = s) E (.error e) s') s) (q : Q none s) :
    wpAny (model P w) A (tryCompare v "__eq__" (.ref b)) Q E s := by
  unfold tryCompare
  refine wpAny_bind (wpAny_callSpecialIfBound?_slot hT slot (wpAny_mono (GQ.call_here slot hT entry args h) (fun r s' hr => ?_) fun _ _ z => z))
  obtain ⟨rfl, rfl⟩ := hr
  exact wpAny_pure q
theorem dec_int {i : Int} {t : Tok} {C dx : Addr} (hb : s.heap.get? b = some (PySem.W.instObj C dx)) (q : Q none s) : wpAny (model P w) A (tryCompare (.int i t) "__eq__" (.ref b)) Q E s := by
  refine dec_by F.slot_int_eq (typeIs_int s i t) F.entry_int_eq (F.args_int_eq_2 _ _) ?_ q
  obtain ⟨hp, g, d, tk, os⟩ := s
  wp_walk using wpAny_loadPart' hb
  exact ⟨rfl, rfl⟩
theorem dec_bool {i : Bool} {C dx : Addr} (hb : s.heap.get? b = some (PySem.W.instObj C dx)) (q : Q none s) : wpAny (model P w) A (tryCompare (.bool i) "__eq__" (.ref b)) Q E s := by
  refine dec_by F.slot_bool_eq (PySem.typeIs_bool s i) F.entry_int_eq (F.args_int_eq_2 _ _) ?_ q
  obtain ⟨hp, g, d, tk, os⟩ := s
  wp_walk using wpAny_loadPart' hb
  exact ⟨rfl, rfl⟩
theorem dec_str {i : Str} {t : Tok} {C dx : Addr} (hb : s.heap.get? b = some (PySem.W.instObj C dx)) (q : Q none s) : wpAny (model P w) A (tryCompare (.str i t) "__eq__" (.ref b)) Q E s := by
  refine dec_by F.slot_str_eq (typeIs_str s i t) F.entry_str_eq (F.args_str_eq_2 _ _) ?_ q
  obtain ⟨hp, g, d, tk, os⟩ := s
  wp_walk using wpAny_loadPart' hb
  exact ⟨rfl, rfl⟩
theorem dec_none (q : Q none s) : wpAny (model P w) A (tryCompare .none "__eq__" (.ref b)) Q E s := by
  refine dec_by F.slot_NoneType_eq rfl F.entry_NoneType_eq (F.args_NoneType_eq_2 _ _) ?_ q
  obtain ⟨hp, g, d, tk, os⟩ := s
  wp_walk
  exact ⟨rfl, rfl⟩
theorem dec_tuple {a : Addr} {oa : Obj} (ha : s.heap.get? a = some oa) (hc : oa.cls = .type "tuple") (hi : PySem.W.Looks (model P w) s.heap (isInstance (.ref b) (.type "tuple")) false) (q : Q none s) :
    wpAny (model P w) A (tryCompare (.ref a) "__eq__" (.ref b)) Q E s := by
  refine dec_by F.slot_tuple_eq ⟨oa, ha, hc⟩ F.entry_tuple_eq (F.args_tuple_eq_2 _ _) ?_ q
  obtain ⟨hp, g, d, tk, os⟩ := s
  unfold Builtin.«tuple.__eq__»
  wp_walk using hi.at
  exact ⟨rfl, rfl⟩
theorem dec_list {a : Addr} {oa : Obj} (ha : s.heap.get? a = some oa) (hc : oa.cls = .type "list") (hi : PySem.W.Looks (model P w) s.heap (isInstance (.ref b) (.type "list")) false) (q : Q none s) :
    wpAny (model P w) A (tryCompare (.ref a) "__eq__" (.ref b)) Q E s := by
  refine dec_by F.slot_list_eq ⟨oa, ha, hc⟩ F.entry_list_eq (F.args_list_eq_2 _ _) ?_ q
  obtain ⟨hp, g, d, tk, os⟩ := s
  unfold Builtin.«list.__eq__»
  wp_walk using hi.at
  exact ⟨rfl, rfl⟩
end
/-- a built-in thing whose own == does not take an instance: its type's name -/
inductive Bt (K : Frag) (H : Hp) : V → String → Prop where
  | int (i : Int) : Bt K H (.int i) "int"
  | bl (i : Bool) : Bt K H (.bl i) "bool"
  | str (i : Str) : Bt K H (.str i) "str"
  | non : Bt K H .non "NoneType"
  | tup {a : Addr} {xs : List V} (h : H a = some (.tup xs)) : Bt K H (.ref a) "tuple"
  | lst {a : Addr} {xs : List V} (h : H a = some (.lst xs)) : Bt K H (.ref a) "list"
theorem Bt.ty {K : Frag} {H : Hp} {x : V} {T : String} (h : Bt K H x T) : TyX K H x (.type T) := by
  cases h with
  | int i => exact .base (.int i)
  | bl i => exact .base (.bl i)
  | str i => exact .base (.str i)
  | non => exact .base .non
  | tup h => exact .base (.tup h)
  | lst h => exact .base (.lst h)
section
variable {X : Cx} {CX : CXT} {n : Nat} {f C : Addr} {fd : FuncData} {ps : List Str} {sp : Sp} {E : XK}
/-- x == y, y of the class at C, x a built-in thing -/
def rOwnEqR (K : Frag) (C : Addr) (sp : Sp) (E : XK) : R2 := fun x y H Q => ∃ b dy gs T, y = .ref b ∧ H b = some (.ins C dy gs) ∧ Bt K H x T ∧ PySem.W.subIn K (.ref C) (.type T) = some false ∧ sp [.ref b, x] H Q E
theorem op_ownEqR (F : FnOk X.prog X.w X.K X.mg X.base CX n f fd ps sp) (hr : Room n X.A) (hb : Binds X.K fd ps []) (hx : Passes CX X E) (O : Op X.K C "__eq__" f) : OpR X (compareOp .Eq) (rOwnEqR X.K C sp E) := by
  intro pins s σ H x y v u Q I r1 r2 h
  obtain ⟨b, dy, gs, T, rfl, hb', bt, hs, q⟩ := h
  cases r2
  obtain ⟨mA, J0, _⟩ := ins_get I.hok hb'
  have hobj : s.heap.get? b = some (PySem.W.instObj C dy) := by
    obtain ⟨_, _, _, e, _⟩ := (show ObjOk X.prog X.w H s.heap b (.ins C dy gs) from I.hok b _ hb')
    exact e
  obtain ⟨od, J, _⟩ := J0.look
  obtain ⟨P, Z, p, _⟩ := kit_of I r1 bt.ty
  refine PySem.W.cmp_ofEq ?_
  unfold richCompare
  refine wpAny_holding (wpAny_bind (wpAny_cRoomFor hr.units0 ?_))
  have one : oneThing? CmpOp.Eq v (.ref b) = none := by
    cases v <;> first | rfl | simp [oneThing?]
  rw [one]
  refine wpAny_bind ((Z.ty _ _ I.kIn p).here (wpAny_bind (J.type.here ?_)))
  have hne : (Value.type T != Value.ref C) = true := by simp
  rw [if_pos hne]
  refine wpAny_bind ((PySem.W.looks_subIn I.kIn hs).here ?_)
  simp only [Bool.false_eq_true, if_false, Bool.not_false, if_true]
  have rest : wpAny (model X.prog X.w) X.A (tryCompare (.ref b) "__eq__" v) (fun r s' => ∃ z, r = some z ∧ EP X pins σ Q z s') X.xe s := by
    unfold tryCompare
    refine wpAny_bind (PySem.W.ifBound_K I.kIn J O.at_ O.fn (wpAny_mono (run_sub F (Sub.here hr) hb hx I (.cons (show RelV (V.ref b) (Value.ref b) from rfl) (.cons r1 .nil)) q) (fun z s' hz => ?_) fun _ _ e => e))
    have fin : EP X pins σ Q z s' := hz
    cases z <;> first | exact (rel_ni hz.choose_spec.choose_spec.2.1).elim | exact wpAny_pure ⟨_, rfl, fin⟩
  have dec : wpAny (model X.prog X.w) X.A (tryCompare v "__eq__" (.ref b)) (fun r s' => r = none ∧ s' = s) X.xe s := by
    cases bt with
    | int i => obtain ⟨t, rfl⟩ := r1; exact dec_int hobj ⟨rfl, rfl⟩
    | bl i => cases r1; exact dec_bool hobj ⟨rfl, rfl⟩
    | str i => obtain ⟨t, rfl⟩ := r1; exact dec_str hobj ⟨rfl, rfl⟩
    | non => cases r1; exact dec_none ⟨rfl, rfl⟩
    | @tup a xs h =>
      cases r1
      obtain ⟨_, _, _, o, h1, h2, _⟩ := (show ObjOk X.prog X.w H s.heap a (.tup xs) from I.hok a _ h)
      exact dec_tuple h1 h2 (J.type.andThen (PySem.W.looks_subIn I.kIn hs)) ⟨rfl, rfl⟩
    | @lst a xs h =>
      cases r1
      obtain ⟨_, _, n, _, h1⟩ := (show ObjOk X.prog X.w H s.heap a (.lst xs) from I.hok a _ h)
      exact dec_list h1 rfl (J.type.andThen (PySem.W.looks_subIn I.kIn hs)) ⟨rfl, rfl⟩
  refine wpAny_bind (wpAny_mono dec (fun r s' hr' => ?_) fun _ _ e => e)
  obtain ⟨rfl, rfl⟩ := hr'
  refine wpAny_bind (wpAny_mono rest (fun r s' hr' => ?_) fun _ _ e => e)
  obtain ⟨z, rfl, hz⟩ := hr'
  exact wpAny_pure hz
end
end L2.LX
namespace L2.LX
open PySem PySem.Spec PyProof.Rows L2
open PySem.W (Frag)
/-! raising an own error (its context is None) -/
theorem passN0 {X : Cx} : Passes (L2N.CX X.prog X.w) X E0 := fun _ _ _ _ _ _ _ h => by
  obtain ⟨_, _, _, _, _, _, _, _, _, _, _, _, z⟩ := h
  exact z.elim
/-- what C(e, ..) is wished to leave, as an exception that flies -/
def tMkN (C : Addr) (sp : Sp) (dvs : List V) (ta : TA) : St → Hp → XK → Prop := fun σ H Q => ta σ H fun vs H1 => vs.length ≤ 1000 ∧ ∀ a, H1 a = none → sp (.ref a :: (vs ++ dvs)) (upd H1 a (exo a C none))
  (fun v H2 => v = .non ∧ ((∃ (d : Addr) (fs : List (Str × V)), H2 a = some (exo a C (some d)) ∧ H2 d = some (exd d fs) ∧ H1 d = none ∧ Q (.ref C) (some d) (upd (del H2 a) d (.xd fs))) ∨
    (H2 a = some (exo a C none) ∧ Q (.ref C) none (del H2 a)))) (fun _ _ _ => False)
section
variable {X : Cx} {e o : Expr} {es : List Expr} {ta : TA} {te : TE} {p pos : Pos}
theorem mk_endN {pins : List (Addr × Obj)} {σ : St} {H1 H2 : Hp} {hp hp2 h2 : Heap} {g1 g2 : Array GenState} {d1 d2 : Drawn} {t1 t2 : Nat} {os1 os2 : OsState} {a C : Addr} (I1 : Inv X pins σ H1 ⟨hp, g1, d1, t1, os1⟩)
    (ha : hp.objs.size ≤ a) (k : ∀ b o, hp.get? b = some o → hp2.get? b = some o) (un : Un (frs X.stack) [] (upd H1 a (exo a C none)) H2 hp2 h2) (hok : HOk X.prog X.w H2 h2) (ho : os2 = os1) (hb : AllBare g2)
    (ea : H2 a = some (exo a C none)) :
    ∃ (t0 : Addr) (G : Heap), Inv X pins σ (del H2 a) ⟨G, g2, d2, t2, os2⟩ ∧ (∀ b o, G.get? b = some o → h2.get? b = some o) ∧ G.get? a = none ∧
      h2.get? a = some ({ cls := .ref C, dict := none, data := .fields #[.ref t0, .none, .none, .none, .bool false, .none] } : Obj) := by
  obtain ⟨t0, hoe⟩ := exo_at hok ea
  have hn : H1 a = none := I1.hok.fresh ha
  obtain ⟨G, g1', g2'⟩ := restrict h2 fun b => decide (b ≠ a)
  have gk : ∀ b, b ≠ a → G.get? b = h2.get? b := fun b hb => g1' b (decide_eq_true hb)
  have ge : G.get? a = none := g2' a (by simp)
  have nha : ∀ {b : Addr} {o : Obj}, hp.get? b = some o → b ≠ a := fun {b o} z => Nat.ne_of_lt (Nat.lt_of_lt_of_le (Heap.lt_size z) ha)
  have up : ∀ {b : Addr}, b ≠ a → H1 b = none → upd H1 a (exo a C none) b = none := fun {b} hb n => by rw [upd_ne hb]; exact n
  have U : Un (frs X.stack) [] H1 (del H2 a) hp G := {
    keep := fun b o z n hf hx => by
      rw [gk b (nha z)]
      exact un.keep b o (k b o z) (up (nha z) n) hf hx
    slot := fun b o z n hf hx => by
      rw [gk b (nha z)]
      exact un.slot b o (k b o z) (up (nha z) n) hf hx
    free := fun b o z n hx => by
      rw [del_ne (nha z)]
      exact un.free b o (k b o z) (up (nha z) n) hx
    there := fun b o z hx => by
      rw [gk b (nha z)]
      exact un.there b o (k b o z) hx
    tups := fun b xs z => by
      rw [del_ne (ne_of_none z hn)]
      exact un.tups b xs (by rw [upd_ne (ne_of_none z hn)]; exact z)
    frzs := fun b o v z => by
      rw [del_ne (ne_of_none z hn)]
      exact un.frzs b o v (by rw [upd_ne (ne_of_none z hn)]; exact z)
    tbls := fun b ps z => by
      rw [del_ne (ne_of_none z hn)]
      exact un.tbls b ps (by rw [upd_ne (ne_of_none z hn)]; exact z) }
  have hok3 : HOk X.prog X.w (del H2 a) G := fun b o z => by
    have hba : b ≠ a := fun e => by
      rw [e, del_same] at z
      cases z
    rw [del_ne hba] at z
    have noa : ∀ {c : Addr}, H2 c = some (.own b) → c ≠ a := fun {c} hc => at_ne ea hc exo_own
    exact (hok b o z).stay (fun c v hc y => by
        have hca : c ≠ a := by
          rcases hc with hc | hc
          · rw [hc]
            exact hba
          · exact noa hc
        rw [gk c hca]
        exact y)
      (fun c hc => by rw [del_ne (noa hc)]; exact hc) (fun c xs hc => by rw [del_ne (at_ne ea hc exo_tup)]; exact hc)
  have J : Inv X pins σ (del H2 a) ⟨G, g2, d2, t2, os2⟩ := I1.call' (ch := []) ho U hok3 hb (fun b z => absurd z (by simp))
  refine ⟨t0, G, J, fun b o z => ?_, ge, hoe⟩
  by_cases hba : b = a
  · rw [hba, ge] at z
    cases z
  · exact (gk b hba).symm.trans z
theorem run_mkN {CX : CXT} {pins : List (Addr × Obj)} {σ : St} {H1 : Hp} {s1 : Shared} {Q : XK} {us : List Value} {vs : List V} {C fI : Addr} {k : Nat} {fd : FuncData} {ps : List Str} {sp : Sp} {ds : List Value} {dvs : List V} (T : OexC X.K C) (iC : PySem.W.findIn X.K (.ref C) "__init__" = some (some (.ref fI))) (tI : PySem.W.typeIn X.K (.ref fI) = some (.type "function"))
    (F1 : FnOk X.prog X.w X.K X.mg X.base CX k fI fd ps sp) (hr : Room (k + 1) X.A) (hb : Binds X.K fd ps ds) (hd : Vals dvs ds) (hx : Passes CX X (fun _ _ _ => False)) (I1 : Inv X pins σ H1 s1) (r1 : Vals vs us) (hz : vs.length ≤ 1000)
    (q1 : ∀ a, H1 a = none → sp (.ref a :: (vs ++ dvs)) (upd H1 a (exo a C none))
      (fun v H2 => v = .non ∧ ((∃ (d : Addr) (fs : List (Str × V)), H2 a = some (exo a C (some d)) ∧ H2 d = some (exd d fs) ∧ H1 d = none ∧ Q (.ref C) (some d) (upd (del H2 a) d (.xd fs))) ∨ (H2 a = some (exo a C none) ∧ Q (.ref C) none (del H2 a)))) (fun _ _ _ => False)) :
    wpAny (model X.prog X.w) X.A (call (.ref C) us) (L2N.MkP X pins σ Q) X.xe s1 := by
  obtain ⟨nm, q, N, bs, bm, sn, sub, ab, col, dd, k0, k1, k2, k3, k5, hC, hbm⟩ := T.cls
  obtain ⟨hp, g, dr, tk, os⟩ := s1
  have hsz : hp.objs.size ≤ hp.objs.size + 1 := Nat.le_succ _
  have hn : H1 (hp.objs.size + 1) = none := I1.hok.fresh hsz
  have hq := q1 (hp.objs.size + 1) hn
  have kk : ∀ b o, hp.get? b = some o → ((hp.push (PySem.W.kdv_tup us)).push (PySem.HandSPX.excO C hp.objs.size)).get? b = some o := fun b o e => Heap.get?_push_of_some _ (Heap.get?_push_of_some _ e)
  have hget : ((hp.push (PySem.W.kdv_tup us)).push (PySem.HandSPX.excO C hp.objs.size)).get? (hp.objs.size + 1) = some (PySem.HandSPX.excO C hp.objs.size) := by heap_get
  have I2 : Inv X pins σ (upd H1 (hp.objs.size + 1) (exo (hp.objs.size + 1) C none)) ⟨(hp.push (PySem.W.kdv_tup us)).push (PySem.HandSPX.excO C hp.objs.size), g, dr, tk, os⟩ :=
    I1.laid (t' := tk) (a := hp.objs.size + 1) (o := exo (hp.objs.size + 1) C none) (h' := (hp.push (PySem.W.kdv_tup us)).push (PySem.HandSPX.excO C hp.objs.size)) kk hsz (exo_ok hget)
  have r2 : Vals (V.ref (hp.objs.size + 1) :: (vs ++ dvs)) (Value.ref (hp.objs.size + 1) :: (us ++ ds)) := .cons rfl (r1.append hd)
  have hl : (Value.ref (hp.objs.size + 1) :: us ++ ds).length = ps.length := by
    have e := r2.length
    rw [F1.len _ _ _ _ hq] at e
    exact e.symm
  have hus : us.length ≤ sizeLine := by
    rw [← Paired.length r1, sizeLine_eq]
    omega
  refine wpAny_call (PySem.HandSPX.call_own F.excBase_ValueError (fun Y => PySem.HandSPX.refsVE_contains Y bm hbm) (I1.kIn _ _ hC) (PySem.W.looks_findIn I1.kIn iC) (fun self => PySem.W.bind_fn I1.kIn self tI) hus
    (codeAny_mono (F1.run _ X.stack _ _ ⟨Value.ref (hp.objs.size + 1) :: us, []⟩ (Value.ref (hp.objs.size + 1) :: (us ++ ds)) _ _ (fun _ _ _ => False) (hr.make C us []) (I2.env0.make C us []) (hb _ (Value.ref (hp.objs.size + 1) :: us) I2.kIn hl) r2 hq) fun r s' hq' => ?_))
  have Rs := raises_own (X := X) (cls := .ref C) T.exC T.tyC
  cases r with
  | error er => exact hx pins σ _ _ er s' I2 hq'
  | ok fl =>
    cases fl with
    | ret u =>
      obtain ⟨v, H2, os2, bare2, un2, hok2, rv, ev, q2⟩ := hq'
      subst ev
      obtain ⟨h2, g2, d2, t2, os'⟩ := s'
      refine ⟨rv, ?_⟩
      rcases q2 with ⟨d, fs, ea, ed, hd1, q2⟩ | ⟨ea, q2⟩
      · obtain ⟨t0, G, J, kG, ge, hoe, na⟩ := mk_end0 (d2 := d2) (t2 := t2) I1 hsz kk un2 hok2 os2 bare2 ea ed hd1
        exact ⟨_, _, _, ⟨G, g2, d2, t2, os'⟩, _, .ref C, some d, rfl, J, kG, ge, hoe, ⟨rfl, rfl, fun vs e => by cases e; rfl⟩, rfl, rfl, na, rfl, bare2, Rs, q2⟩
      · obtain ⟨t0, G, J, kG, ge, hoe⟩ := mk_endN (d2 := d2) (t2 := t2) I1 hsz kk un2 hok2 os2 bare2 ea
        exact ⟨_, _, _, ⟨G, g2, d2, t2, os'⟩, _, .ref C, none, rfl, J, kG, ge, hoe, ⟨rfl, rfl, fun vs e => by cases e; rfl⟩, rfl, rfl, del_same, rfl, bare2, Rs, q2⟩
    | next => exact False.elim hq'
    | brk => exact False.elim hq'
    | cont => exact False.elim hq'
theorem pmkN {CX : CXT} {x : Str} {C fI : Addr} {k : Nat} {fd : FuncData} {ps : List Str} {sp : Sp} {ds : List Value} {dvs : List V} (T : OexC X.K C) (iC : PySem.W.findIn X.K (.ref C) "__init__" = some (some (.ref fI))) (tI : PySem.W.typeIn X.K (.ref fI) = some (.type "function"))
    (F1 : FnOk X.prog X.w X.K X.mg X.base CX k fI fd ps sp) (hr : Room (k + 1) X.A) (hb : Binds X.K fd ps ds) (hd : Vals dvs ds) (hx : Passes CX X (fun _ _ _ => False)) (hg : Gl X x) (hm : X.mg x = some (.ref C)) (ha : PA X (e :: es) ta)
    (hdb : (x == ("__debug__" : Str)) = false := by decide) (he : starEach (e :: es) X.env = (false, eval e X.env) :: starEach es X.env := by rfl) (hpl : (backTo pos (starEach es X.env)).any (·.1) = false := by rfl) :
    L2N.PMk X (.Call (.Name x p) (e :: es) [] pos) (tMkN C sp dvs ta) := by
  intro pins s σ H Q I h
  refine wpAny_Call_Name_kw (ld_glob I hg hm ?_ hdb)
  refine PySem.W.callWith_K (h₀ := X.base) I.ok.mod.kin T.kC (thn (ha.run pos pins s σ H _ I h) fun us s1 ⟨vs, H1, I1, r1, hz, q1⟩ => ⟨I1.kIn, ?_⟩) he hpl
  exact run_mkN T iC tI F1 hr hb hd hx I1 r1 hz q1
theorem pmkN0 {CX : CXT} {x : Str} {C fI : Addr} {k : Nat} {fd : FuncData} {ps : List Str} {sp : Sp} {ds : List Value} {dvs : List V} (T : OexC X.K C) (iC : PySem.W.findIn X.K (.ref C) "__init__" = some (some (.ref fI))) (tI : PySem.W.typeIn X.K (.ref fI) = some (.type "function"))
    (F1 : FnOk X.prog X.w X.K X.mg X.base CX k fI fd ps sp) (hr : Room (k + 1) X.A) (hb : Binds X.K fd ps ds) (hd : Vals dvs ds) (hx : Passes CX X (fun _ _ _ => False)) (hg : Gl X x) (hm : X.mg x = some (.ref C))
    (hdb : (x == ("__debug__" : Str)) = false := by decide) :
    L2N.PMk X (.Call (.Name x p) [] [] pos) (tMkN C sp dvs tNil) := by
  intro pins s σ H Q I h
  refine wpAny_Call_Name_kw (ld_glob I hg hm ?_ hdb)
  obtain ⟨hz, q1⟩ := h
  refine PySem.W.callWith_K0 I.kIn T.kC ?_
  exact run_mkN T iC tI F1 hr hb hd hx I .nil hz q1
/-! a static method called off its class -/
structure CSta (K : Frag) (C : Addr) (m : Str) (p g : Addr) : Prop where
  rd : PySem.W.readsIn K C (.type "type") = true
  ga : PySem.W.specialIn K (.ref C) "__getattribute__" = some (some (.builtin "type.__getattribute__"))
  at_ : PySem.W.findCls K (.ref C) (.type "type") m = some (.get (.builtin "staticmethod.__get__") (.ref p) .none (.ref C))
  rc : ∃ rest, PySem.W.recIn K p "staticmethod" = some (.ref g :: rest)
  kp : PySem.W.keepIn K (.ref g) = true
/-- C.m(..) at the slots: E may look at them -/
def tSta (C : Addr) (sp : Sp) (E : St → XK) (ta : TE) (t : TA) : TE := fun σ H Q => ta σ H fun x H1 => x = .ref C ∧ t σ H1 fun vs H2 => sp vs H2 Q (E σ)
theorem pe_sta {CX : CXT} {k : Nat} {C p g : Addr} {m : Str} {fd : FuncData} {ps : List Str} {sp : Sp} {E : St → XK} {apos : Pos} {t : TA} {pl : Sem Bool} (he : PE X o te) (c : CSta X.K C m p g) (F1 : FnOk X.prog X.w X.K X.mg X.base CX k g fd ps sp) (hr : Room k X.A) (hb : Binds X.K fd ps []) (hx : ∀ σ, PassesAt CX X σ (E σ)) (ha : PA X (e :: es) t)
    (hst : starEach (e :: es) X.env = (false, eval e X.env) :: starEach es X.env := by rfl) (hpl : (backTo pos (starEach es X.env)).any (·.1) = false := by rfl)
    (ht : eval (.Call (.Attribute o m apos) (e :: es) [] pos) X.env = (do
      let ov ← eval o X.env
      standAt apos.atName
      let (f, first) ← holding [ov] (getMethod ov m pl)
      callWith pos f first (backTo pos (starEach (e :: es) X.env)) (backToKw pos (keywordEach [] X.env))) := by rfl) :
    PE X (.Call (.Attribute o m apos) (e :: es) [] pos) (tSta C sp E te t) := by
  refine ⟨fun pins s σ H Q I h => ?_⟩
  refine PySem.W.methodCall_KW (pl := pl) (thn (he.run pins s σ H _ I h) fun u s1 ⟨x, H1, I1, rx, ex, q⟩ => ?_) ht
  subst ex
  obtain rfl : u = Value.ref C := rx
  obtain ⟨rest, hp⟩ := c.rc
  refine PySem.W.method_cls I1.kIn c.ga (PySem.W.cls_bind I1.kIn c.rd c.at_ (wpAny_call (PySem.W.sm_get (s := { s1 with toks := s1.toks + 1 }) I1.kIn hp (PySem.W.handed_on rfl ?_))))
  show wpAny _ _ (callWith pos (.ref g) [] (backTo pos (starEach (e :: es) X.env)) []) _ _ _
  refine PySem.W.callWith_K (h₀ := X.base) I1.ok.mod.kin c.kp (thn (ha.run pos pins _ σ H1 _ (I1.tok _) q) fun us s2 ⟨vs, H2, I2, r2, q2⟩ => ⟨I2.kIn, ?_⟩) hst hpl
  exact run_fnS F1 hr hb (hx σ) I2 r2 q2
end
end L2.LX
namespace L2.LX
open PySem PySem.Spec PyProof.Rows L2
open PySem.W (Frag)
/-! what the top has left, as Booleans of what stands there -/
theorem codeB_ok {K : Frag} {cdv : Value} {file : Str} (h : codeB K cdv file = true) : CodeAt K cdv file := by
  unfold codeB at h
  split at h
  · rename_i c
    split at h
    · rename_i cl dd vs sl e
      split at h
      · rename_i z t e2
        have ez : z = file := of_decide_eq_true h
        subst ez
        exact ⟨c, cl, dd, vs, sl, t, rfl, e, e2⟩
      · cases h
    · cases h
  · cases h
/-- such a def as it stands -/
structure FunC (K : Frag) (file x qual : Str) (params : Arguments) (body : List Stmt) (scope : Scope) (f cc : Addr) : Prop where
  ex : ∃ (oc : Value) (od : Option Addr) (kV doc pm : Value) (an : Option Addr) (cdv ct : Value) (osl : Array (Option Value)),
    fdOf K f = PySem.W.ksFn x qual params body scope .none kV doc pm an cdv ct cc ∧ K.lookup f = some ⟨oc, od, .func (PySem.W.ksFn x qual params body scope .none kV doc pm an cdv ct cc), osl⟩ ∧ PySem.W.codeIn K cdv qual = true ∧ CodeAt K cdv file
  kp : PySem.W.keepIn K (.ref f) = true
theorem DefC.funC {K : Frag} {d : DefC} {file : Str} (e : fnC K (d.at_ K) (d.cell K) = d.val) (c : d.ok file K = true) : FunC K file d.name d.qual d.params d.body d.scope (d.at_ K) (d.cell K) := by
  obtain ⟨kp, c2⟩ := He.ba c
  unfold fnC at e
  cases q : K.lookup (d.at_ K) with
  | none =>
    rw [q] at c2
    cases c2
  | some o =>
    obtain ⟨oc, od, dt, osl⟩ := o
    rw [q] at c2 e
    cases dt with
    | func fd =>
      have hfd : fdOf K (d.at_ K) = fd := by
        unfold fdOf
        rw [q]
      obtain ⟨n1, n2, n3, n4, n5, n6, n7, n8, n9, n10, n11, n12, n13, n14, n15⟩ := fd
      have e2 : (some (n1, n2, n3, n4, n5, n6, n7.map (fun q => (q.1, if q.2 = d.cell K then (0 : Addr) else 1)), n15) : FnC) = some (d.name, d.qual, d.params, FuncBody.stmts d.body, d.scope, mainGlobals, [(("__class__" : Str), (0 : Addr))], builtinsNs) := e
      simp only [Option.some.injEq, Prod.mk.injEq] at e2
      obtain ⟨h1, h2, h3, h4, h5, h6, h7, h8⟩ := e2
      subst h1 h2 h3 h4 h5 h6 h8
      obtain ⟨k1, k2⟩ := He.ba (show (PySem.W.codeIn K n13 d.qual && (codeB K n13 file && decide (n8 = .none))) = true from c2)
      obtain ⟨k3, k4⟩ := He.ba k2
      have k5 : n8 = .none := of_decide_eq_true k4
      subst k5
      have hcl : n7 = [(("__class__" : Str), d.cell K)] := by
        cases n7 with
        | nil => cases h7
        | cons p r =>
          cases r with
          | nil =>
            obtain ⟨x, y⟩ := p
            simp only [List.map_cons, List.map_nil, List.cons.injEq, Prod.mk.injEq, and_true] at h7
            obtain ⟨rfl, h72⟩ := h7
            by_cases hy : y = d.cell K
            · rw [hy]
            · rw [if_neg hy] at h72
              cases h72
          | cons p2 r2 =>
            simp only [List.map_cons, List.cons.injEq] at h7
            exact absurd h7.2 (by simp)
      subst hcl
      exact ⟨⟨oc, od, n9, n10, n11, n12, n13, n14, osl, hfd, q, k1, codeB_ok k3⟩, kp⟩
    | _ => cases c2
section
variable {file : Str} {fb : List (Frag → Bool)} {fn : List He5.DefA} {fc : List DefC} {K : Frag}
theorem SaysL.fact (c : SaysL file fb fn fc K) (i : Nat) {f : Frag → Bool} (h : fb[i]? = some f := by rfl) : f K = true := by
  have c1 := (He.ba (show ((fb.all fun f => f K) && ((fn.all fun d => d.ok K) && (fc.all fun d => d.ok file K))) = true from congrArg (fun z : AlL => z.1) c)).1
  exact List.all_eq_true.mp c1 f (List.mem_of_getElem? h)
theorem SaysL.def_ (c : SaysL file fb fn fc K) (i : Nat) {d : He5.DefA} (h : fn[i]? = some d := by rfl) : FunD K d.name d.qual d.params d.body d.scope (d.dvs K) (d.kws K) (d.at_ K) (fdOf K (d.at_ K)) := by
  have c2 := (He.ba (He.ba (show ((fb.all fun f => f K) && ((fn.all fun d => d.ok K) && (fc.all fun d => d.ok file K))) = true from congrArg (fun z : AlL => z.1) c)).2).1
  have e : fn.map (fun d => He5.fnA K (d.at_ K)) = fn.map He5.DefA.val := congrArg (fun z : AlL => z.2.1) c
  have e2 : (fn.map fun d => He5.fnA K (d.at_ K))[i]? = (fn.map He5.DefA.val)[i]? := by rw [e]
  rw [List.getElem?_map, List.getElem?_map, h] at e2
  obtain ⟨fd, F⟩ := He5.DefA.funD (Option.some.inj e2) (List.all_eq_true.mp c2 d (List.mem_of_getElem? h))
  obtain ⟨oc, od, dV, kV, doc, pm, an, cdv, ct, osl, efd, lk, _⟩ := F.ex
  have hfd : fdOf K (d.at_ K) = fd := by
    unfold fdOf
    rw [lk]
  rw [hfd]
  exact F
theorem SaysL.defC (c : SaysL file fb fn fc K) (i : Nat) {d : DefC} (h : fc[i]? = some d := by rfl) : FunC K file d.name d.qual d.params d.body d.scope (d.at_ K) (d.cell K) := by
  have c2 := (He.ba (He.ba (show ((fb.all fun f => f K) && ((fn.all fun d => d.ok K) && (fc.all fun d => d.ok file K))) = true from congrArg (fun z : AlL => z.1) c)).2).2
  have e : fc.map (fun d => fnC K (d.at_ K) (d.cell K)) = fc.map DefC.val := congrArg (fun z : AlL => z.2.2) c
  have e2 : (fc.map fun d => fnC K (d.at_ K) (d.cell K))[i]? = (fc.map DefC.val)[i]? := by rw [e]
  rw [List.getElem?_map, List.getElem?_map, h] at e2
  exact DefC.funC (Option.some.inj e2) (List.all_eq_true.mp c2 d (List.mem_of_getElem? h))
end
/-! an own error's class -/
theorem clsB_ok {K : Frag} {C : Addr} (q : clsB K C = true) : ∃ nm q N bs bm sn sub ab col dd k0 k1 k2 k3 k5, K.lookup C = some (excClassObj nm q C N bs bm true sn sub ab col dd k0 k1 k2 k3 k5 "ValueError.__new__") ∧ PySem.HandSPX.refsVE bm = true := by
  unfold clsB at q
  split at q
  · rename_i dd cd sl ho
    split at q
    · rename_i C' bm k0 k1 k2 k3 n k5 hm hs
      simp only [Bool.and_eq_true, beq_iff_eq, Bool.not_eq_true'] at q
      obtain ⟨⟨⟨⟨rfl, rfl⟩, hdel⟩, hdict⟩, ht⟩ := q
      obtain ⟨nm, bs, mro, ns, qn, hd, sn, sub, ab, col, del⟩ := cd
      dsimp only at hm hdel hdict
      subst hm hdel hdict
      have hsl : sl = #[k0, k1, k2, k3, some (.builtin "ValueError.__new__"), k5] := by
        obtain ⟨l⟩ := sl
        simp only at hs
        rw [hs]
      subst hsl
      exact ⟨nm, qn, ns, bs, bm, sn, sub, ab, col, dd, k0, k1, k2, k3, k5, ho, ht⟩
    · cases q
  · cases q
theorem cellB_ok {K : Frag} {C cc : Addr} (h : cellB K C cc = true) : ∃ cl cld csl, K.lookup cc = some ⟨cl, cld, .cell (some (.ref C)), csl⟩ := by
  unfold cellB at h
  split at h
  · rename_i c d D s e
    have z : D = C := of_decide_eq_true h
    subst z
    exact ⟨c, d, s, e⟩
  · cases h
structure ErrT (K : Frag) (C f cc : Addr) : Prop where
  sup : SupC K C cc
  init : PySem.W.findIn K (.ref C) "__init__" = some (some (.ref f))
  fn : PySem.W.typeIn K (.ref f) = some (.type "function")
  xf : XfC K C
  is_ : ExcC K C
  exm : PySem.W.exmOne K (.ref C) (.ref C) = some true
theorem errB_ok {x : Str} {K : Frag} (h : errB x K = true) : PySem.W.nsIn K mainGlobals x = some (some (.ref (ga K x))) ∧ ErrT K (ga K x) (ma K (ga K x) "__init__") (cellOf K (ma K (ga K x) "__init__")) := by
  unfold errB at h
  obtain ⟨h1, h⟩ := He.ba h
  obtain ⟨h2, h⟩ := He.ba h
  obtain ⟨h3, h⟩ := He.ba h
  obtain ⟨h4, h⟩ := He.ba h
  obtain ⟨h5, h⟩ := He.ba h
  obtain ⟨h6, h⟩ := He.ba h
  obtain ⟨h7, h⟩ := He.ba h
  obtain ⟨h8, h⟩ := He.ba h
  obtain ⟨h9, h⟩ := He.ba h
  obtain ⟨h10, h⟩ := He.ba h
  obtain ⟨h11, h⟩ := He.ba h
  obtain ⟨h12, h⟩ := He.ba h
  obtain ⟨h13, h⟩ := He.ba h
  obtain ⟨h14, h⟩ := He.ba h
  obtain ⟨h15, h⟩ := He.ba h
  obtain ⟨h16, h⟩ := He.ba h
  obtain ⟨h17, h⟩ := He.ba h
  obtain ⟨h18, h⟩ := He.ba h
  obtain ⟨h19, h⟩ := He.ba h
  obtain ⟨h20, h21⟩ := He.ba h
  have s4 := of_decide_eq_true h4
  exact ⟨He.eqO_ok h1, ⟨⟨clsB_ok h2, He.eqO_ok h3, s4, of_decide_eq_true h5, h6⟩, cellB_ok h9, of_decide_eq_true h10, of_decide_eq_true h11, of_decide_eq_true h12, He.eqO_ok h13⟩, He.eqO_ok h7, of_decide_eq_true h8,
    ⟨He.eqO_ok h14, He.eqO_ok h15, s4, h16⟩, ⟨He.eqO_ok h14, He.eqO_ok h15, s4, h16, He.eqO_ok h17, of_decide_eq_true h18, of_decide_eq_true h19, of_decide_eq_true h20⟩, of_decide_eq_true h21⟩
theorem noB_ok {x f : Str} {K : Frag} (h : noB x f K = true) : PySem.W.findIn K (.ref (ga K x)) f = some none := He.eqO_ok h
theorem opB_ok {x m : Str} {K : Frag} (h : opB x m K = true) : Op K (ga K x) m (ma K (ga K x) m) := by
  obtain ⟨h, _⟩ := He.ba h
  obtain ⟨h1, h2⟩ := He.ba h
  exact ⟨He.eqO_ok h1, h2⟩
theorem opB_meth {x m : Str} {K : Frag} (h : opB x m K = true) : Meth K (ga K x) m (ma K (ga K x) m) := by
  obtain ⟨h, h3⟩ := He.ba h
  obtain ⟨h1, h2⟩ := He.ba h
  exact ⟨He.eqO_ok h1, h2, h3⟩
theorem staB_ok {x m : Str} {K : Frag} (h : staB x m K = true) : CSta K (ga K x) m (ma K (ga K x) m) (He5.wf K (ga K x) "staticmethod" m) := by
  obtain ⟨h1, h⟩ := He.ba h
  obtain ⟨h2, h⟩ := He.ba h
  obtain ⟨h3, h4⟩ := He.ba h
  obtain ⟨k1, k2⟩ := He5.wrapB_ok h3
  exact ⟨h1, of_decide_eq_true h2, k1, k2, h4⟩
end L2.LX
namespace L2.LX
open PySem PySem.Spec PyProof.Rows L2
open PySem.W (Frag)
/-- the maker of an own error with one field: the new error (at a) gets a dict (at dx, new) that holds it -/
def spErr (C : Addr) (fld : Str) (ok : V → Prop) : Sp := fun vs H Q _ => ∃ (a : Addr) (v : V), vs = [.ref a, v] ∧ H a = some (exo a C none) ∧ ok v ∧ ∀ dx, H dx = none → dx ≠ a → Q .non (upd (upd H dx (exd dx [(fld, v)])) a (exo a C (some dx)))
/-- .. without a field -/
def spErr0 (C : Addr) : Sp := fun vs H Q _ => ∃ (a : Addr), vs = [.ref a] ∧ H a = some (exo a C none) ∧ Q .non H
section
variable {CX : CXT} {P : Program} {w : World} {K : Frag} {mg : Str → Option Value} {base : Heap} {k : Nat} {f cc C : Addr} {name qual : Str} {params : Arguments} {scope : Scope} {N ps : List Str} {sp : Sp} {e : Expr} {rest : List Stmt} {p0 p1 p2 p3 pos : Pos} {file : Str} {ar : Arg}
theorem err_ok {te : TE} (F : FunC K file name qual params (.Expr (.Call (.Attribute (.Call (.Name "super" p0) [] [] p1) "__init__" p2) [e] [] pos) p3 :: rest) scope f cc)
    (S : SupScope N ps scope) (T : ErrT K C f cc) (hfile : (P.main.file : Str) = file) (htop : (P.main.scope.names.lookup ("super" : Str)).isSome = false) (hsg : mg "super" = none)
    (hpar : (params.posonlyargs ++ params.args).head? = some ar) (hps : ps[0]? = some ar.arg) (len : ∀ vs H Q E, sp vs H Q E → vs.length = ps.length)
    (hPE : ∀ (cda : Addr) (A : Around) (outer : List Env) (s : Shared) (H : Hp) (E : XK), PE (cxS CX P w K mg base N qual scope f (.ref cda) cc A outer s H E) e te)
    (hbody : ∀ (cda : Addr) (A : Around) (outer : List Env) (s : Shared) (H : Hp) (vs : List V) (Q : VK) (E : XK), Room k (A.deeper (envS qual scope s.heap.objs.size f (.ref cda) cc)) → sp vs H Q E →
      ∃ (a : Addr) (t : TS), vs[0]? = some (.ref a) ∧ H a = some (exo a C none) ∧ PSs (cxS CX P w K mg base N qual scope f (.ref cda) cc A outer s H E) rest t ∧
        te (start N vs) H fun _ H1 => H1 a = some (exo a C none) ∧ t { nx := fun _ H' => Q .non H', rt := Q } (start N vs) H1)
    {pl : Addr → Addr → Sem Bool}
    (hc : ∀ (L cda : Addr), eval (.Call (.Attribute (.Call (.Name "super" p0) [] [] p1) "__init__" p2) [e] [] pos) (envS qual scope L f (.ref cda) cc) = (do
      let ov ← attributeBase (.Call (.Name "super" p0) [] [] p1) "__init__" (envS qual scope L f (.ref cda) cc) (eval (.Call (.Name "super" p0) [] [] p1) (envS qual scope L f (.ref cda) cc))
      standAt p2.atName
      let (g, first) ← holding [ov] (getMethod ov "__init__" (pl L cda))
      callWith pos g first (backTo pos (starEach [e] (envS qual scope L f (.ref cda) cc))) []) := by intro _ _; rfl)
    (he : ∀ (L cda : Addr), starEach [e] (envS qual scope L f (.ref cda) cc) = (false, eval e (envS qual scope L f (.ref cda) cc)) :: starEach [] (envS qual scope L f (.ref cda) cc) := by intro _ _; rfl) :
    FnOk P w K mg base CX (k + 1) f (fdOf K f) ps sp := by
  obtain ⟨oc, od, kV, doc, pm, an, cdv, ct, osl, efd, lk, hcd, hcode⟩ := F.ex
  rw [efd]
  refine fn_super lk hcd S T.sup hcode hfile htop hsg hpar hps len (fun cda A outer s H vs Q E hr hsp => ?_) hc he
  obtain ⟨a, t, h1, h2, h3, h4⟩ := hbody cda A outer s H vs Q E hr hsp
  refine ⟨a, tCons te tNil, t, h1, h2, pa_cons (hPE cda A outer s H E) pa_nil (he _ _), h3, ?_⟩
  have mono : te (start N vs) H fun _ H1 => ([(.non : V)] : List V).length ≤ 1000 ∧ H1 a = some (exo a C none) ∧ t { nx := fun _ H' => Q .non H', rt := Q } (start N vs) H1 := by
    have e0 : (fun (_ : V) (H1 : Hp) => H1 a = some (exo a C none) ∧ t { nx := fun _ H' => Q .non H', rt := Q } (start N vs) H1) = (fun (_ : V) (H1 : Hp) => ([(.non : V)] : List V).length ≤ 1000 ∧ H1 a = some (exo a C none) ∧ t { nx := fun _ H' => Q .non H', rt := Q } (start N vs) H1) := by
      funext v H1
      simp
    rw [← e0]
    exact h4
  exact mono
/-- one field -/
theorem err1 {te : TE} {fld : Str} {ok : V → Prop} {n0 n1 : Str} {q1 q2 q3 q4 : Pos} (F : FunC K file name qual params [.Expr (.Call (.Attribute (.Call (.Name "super" p0) [] [] p1) "__init__" p2) [e] [] pos) p3, .Assign [.Attribute (.Name n0 q1) fld q2] (.Name n1 q3) q4] scope f cc)
    (S : SupScope [n0, n1] [n0, n1] scope) (T : ErrT K C f cc) (hno : PySem.W.findIn K (.ref C) fld = some none) (hfile : (P.main.file : Str) = file) (htop : (P.main.scope.names.lookup ("super" : Str)).isSome = false) (hsg : mg "super" = none)
    (hpar : (params.posonlyargs ++ params.args).head? = some ar) (hps : n0 = ar.arg)
    (hPE : ∀ (cda : Addr) (A : Around) (outer : List Env) (s : Shared) (H : Hp) (E : XK), PE (cxS CX P w K mg base [n0, n1] qual scope f (.ref cda) cc A outer s H E) e te)
    (hte : ∀ (a : Addr) (v : V) (H : Hp) (Q : VK), ok v → (∀ y, Q (.str y) H) → te [some (.ref a), some v] H Q)
    (hd0 : (n0 == ("__debug__" : Str)) = false) (hd1 : (n1 == ("__debug__" : Str)) = false) (hcd0 : (n0 == ("__classdict__" : Str)) = false) (hcd1 : (n1 == ("__classdict__" : Str)) = false)
    (hsw : ∀ (L cda : Addr), swapsWith (.Name n1 q3) (some (.Attribute (.Name n0 q1) fld q2)) q4.line (envS qual scope L f (.ref cda) cc) = pure false := by intro _ _; rfl)
    {pl : Addr → Addr → Sem Bool}
    (hc : ∀ (L cda : Addr), eval (.Call (.Attribute (.Call (.Name "super" p0) [] [] p1) "__init__" p2) [e] [] pos) (envS qual scope L f (.ref cda) cc) = (do
      let ov ← attributeBase (.Call (.Name "super" p0) [] [] p1) "__init__" (envS qual scope L f (.ref cda) cc) (eval (.Call (.Name "super" p0) [] [] p1) (envS qual scope L f (.ref cda) cc))
      standAt p2.atName
      let (g, first) ← holding [ov] (getMethod ov "__init__" (pl L cda))
      callWith pos g first (backTo pos (starEach [e] (envS qual scope L f (.ref cda) cc))) []) := by intro _ _; rfl)
    (he : ∀ (L cda : Addr), starEach [e] (envS qual scope L f (.ref cda) cc) = (false, eval e (envS qual scope L f (.ref cda) cc)) :: starEach [] (envS qual scope L f (.ref cda) cc) := by intro _ _; rfl) :
    FnOk P w K mg base CX 1 f (fdOf K f) [n0, n1] (spErr C fld ok) := by
  refine err_ok (k := 0) F S T hfile htop hsg hpar (congrArg some hps) (fun vs H Q E h => ?_) hPE (fun cda A outer s H vs Q E hr h => ?_) hc he
  · obtain ⟨a, v, rfl, _⟩ := h
    rfl
  · obtain ⟨a, v, rfl, ha, hok, hQ⟩ := h
    have v0 : Vis scope n0 := .inl (S.par n0 List.mem_cons_self)
    have v1 : Vis scope n1 := .inl (S.par n1 (List.mem_cons_of_mem _ List.mem_cons_self))
    refine ⟨a, _, rfl, ha, pss_one (ps_ost (pe_var (i := 0) rfl v0 hd0 hcd0) (pe_var (i := 1) rfl v1 hd1 hcd1) (hsw _ _)), ?_⟩
    refine hte a v H _ hok fun y => ⟨ha, ?_⟩
    refine ⟨v, rfl, .ref a, rfl, a, C, rfl, T.sup.oex, hno, .inl ⟨ha, fun dx h1 h2 => ?_⟩⟩
    exact hQ dx h1 h2
/-- no field: super().__init__('..') alone -/
theorem err0 {te : TE} {n0 : Str} (F : FunC K file name qual params [.Expr (.Call (.Attribute (.Call (.Name "super" p0) [] [] p1) "__init__" p2) [e] [] pos) p3] scope f cc)
    (S : SupScope [n0] [n0] scope) (T : ErrT K C f cc) (hfile : (P.main.file : Str) = file) (htop : (P.main.scope.names.lookup ("super" : Str)).isSome = false) (hsg : mg "super" = none)
    (hpar : (params.posonlyargs ++ params.args).head? = some ar) (hps : n0 = ar.arg)
    (hPE : ∀ (cda : Addr) (A : Around) (outer : List Env) (s : Shared) (H : Hp) (E : XK), PE (cxS CX P w K mg base [n0] qual scope f (.ref cda) cc A outer s H E) e te)
    (hte : ∀ (a : Addr) (H : Hp) (Q : VK), (∀ y, Q (.str y) H) → te [some (.ref a)] H Q)
    {pl : Addr → Addr → Sem Bool}
    (hc : ∀ (L cda : Addr), eval (.Call (.Attribute (.Call (.Name "super" p0) [] [] p1) "__init__" p2) [e] [] pos) (envS qual scope L f (.ref cda) cc) = (do
      let ov ← attributeBase (.Call (.Name "super" p0) [] [] p1) "__init__" (envS qual scope L f (.ref cda) cc) (eval (.Call (.Name "super" p0) [] [] p1) (envS qual scope L f (.ref cda) cc))
      standAt p2.atName
      let (g, first) ← holding [ov] (getMethod ov "__init__" (pl L cda))
      callWith pos g first (backTo pos (starEach [e] (envS qual scope L f (.ref cda) cc))) []) := by intro _ _; rfl)
    (he : ∀ (L cda : Addr), starEach [e] (envS qual scope L f (.ref cda) cc) = (false, eval e (envS qual scope L f (.ref cda) cc)) :: starEach [] (envS qual scope L f (.ref cda) cc) := by intro _ _; rfl) :
    FnOk P w K mg base CX 1 f (fdOf K f) [n0] (spErr0 C) := by
  refine err_ok (k := 0) F S T hfile htop hsg hpar (congrArg some hps) (fun vs H Q E h => ?_) hPE (fun cda A outer s H vs Q E hr h => ?_) hc he
  · obtain ⟨a, rfl, _⟩ := h
    rfl
  · obtain ⟨a, rfl, ha, hQ⟩ := h
    refine ⟨a, _, rfl, ha, pss_nil, ?_⟩
    exact hte a H _ fun y => ⟨ha, hQ⟩
end
/-- a text or an int that an error's text may tell -/
def okTxt (v : V) : Prop := (∃ y : Str, v = .str y ∧ y.length ≤ 100000 ∧ ∀ c ∈ y.cps.toList, c < 16 ^ 8) ∨ ∃ i : Int, v = .int i ∧ i.natAbs.log2 < 1920
theorem slen (a b : Str) : (a ++ b).length = a.length + b.length := by
  show (a.cps ++ b.cps).size = _
  rw [Array.size_append]
  rfl
theorem tfmt_ok {σ : St} {H : Hp} {i : Nat} {v : V} {Q : VK} (hv : σ[i]? = some (some v)) (ok : okTxt v) (q : ∀ y : Str, y.length ≤ 100000 → Q (.str y) H) : tFmt (tVar i) σ H Q := by
  refine ⟨v, hv, ?_⟩
  rcases ok with ⟨y, rfl, h1, h2⟩ | ⟨n, rfl, h1⟩
  · exact .inl ⟨y, rfl, Nat.le_trans h1 (by decide), q y h1⟩
  · exact .inr ⟨n, rfl, h1, q _ (Nat.le_trans (PyProof.Rows.int_text_len_1921 h1) (by decide))⟩
theorem tfmtR_ok {σ : St} {H : Hp} {i : Nat} {v : V} {Q : VK} (hv : σ[i]? = some (some v)) (ok : okTxt v) (q : ∀ y : Str, y.length ≤ 1000002 → Q (.str y) H) : tFmtR (tVar i) σ H Q := by
  refine ⟨v, hv, ?_⟩
  rcases ok with ⟨y, rfl, h1, h2⟩ | ⟨n, rfl, h1⟩
  · have z := PySem.StrLaws.reprText_len y h2
    exact .inl ⟨y, rfl, Nat.le_trans z (by rw [sizeLine_eq]; omega), q _ (by omega)⟩
  · exact .inr ⟨n, rfl, h1, q _ (Nat.le_trans (PyProof.Rows.int_text_len_1921 h1) (by decide))⟩
/-- a text and a value -/
theorem tj2 {σ : St} {H : Hp} {a : Str} {t : TE} {Q : VK} (ha : a.length ≤ 100) (h : ∀ R : VK, (∀ y : Str, y.length ≤ 1000002 → R (.str y) H) → t σ H R) (q : ∀ y, Q (.str y) H) : tJs [tC (.str a), t] Str.empty σ H (fun out H1 => Q (.str out) H1) := by
  have e0 : (Str.empty ++ a).length = a.length := by rw [slen]; exact Nat.zero_add _
  refine ⟨a, rfl, by rw [e0, sizeLine_eq]; omega, ?_⟩
  refine h _ fun y hy => ⟨y, rfl, by rw [slen, e0, sizeLine_eq]; omega, ?_⟩
  exact q _
/-- a text, a value, a text -/
theorem tj3 {σ : St} {H : Hp} {a b : Str} {t : TE} {Q : VK} (ha : a.length ≤ 100) (hb : b.length ≤ 100) (h : ∀ R : VK, (∀ y : Str, y.length ≤ 1000002 → R (.str y) H) → t σ H R) (q : ∀ y, Q (.str y) H) : tJs [tC (.str a), t, tC (.str b)] Str.empty σ H (fun out H1 => Q (.str out) H1) := by
  have e0 : (Str.empty ++ a).length = a.length := by rw [slen]; exact Nat.zero_add _
  refine ⟨a, rfl, by rw [e0, sizeLine_eq]; omega, ?_⟩
  refine h _ fun y hy => ⟨y, rfl, by rw [slen, e0, sizeLine_eq]; omega, ?_⟩
  refine ⟨b, rfl, by rw [slen, slen, e0, sizeLine_eq]; omega, ?_⟩
  exact q _
end L2.LX
namespace L2.LX
open PySem PySem.Spec PyProof.Rows L2
open PySem.W (Frag)
/-- what isinstance asks of an own class's instances -/
structure IsI (K : Frag) (C : Addr) : Prop where
  ha : PySem.W.findIn K (.ref C) "__class__" = some (some (.builtin "object.__class__"))
  hn : PySem.W.specialIn K (.builtin "object.__class__") "__get__" = some (some (.builtin "getset_descriptor.__get__"))
  ht : PySem.W.takesIn K (.builtin "object.__class__") = some true
  hm : PySem.W.mroIn K C (.type "object") = some true
  self : PySem.W.kitOne K (.ref C) (.ref C) = some true
theorem isiB_ok {x : Str} {K : Frag} (h : isiB x K = true) : IsI K (ga K x) := by
  obtain ⟨h1, h⟩ := He.ba h
  obtain ⟨h2, h⟩ := He.ba h
  obtain ⟨h3, h⟩ := He.ba h
  obtain ⟨h4, h5⟩ := He.ba h
  exact ⟨He.eqO_ok h1, of_decide_eq_true h2, of_decide_eq_true h3, of_decide_eq_true h4, of_decide_eq_true h5⟩
theorem IsI.ty {K : Frag} {C a dx : Addr} {H : Hp} {fs : List (Str × V)} (i : IsI K C) (c : Cls K C) (h : H a = some (.ins C dx fs)) : TyX K H (.ref a) (.ref C) := .base (.ins h c i.ha i.hn i.ht i.hm)
/-- // of any divisor but 0, of any size -/
def CDivZ (_i j : Int) : Prop := j ≠ 0 ∧ j.natAbs.log2 < 9000
theorem op_fdivZ {X : Cx} : OpR X (binaryOp .FloorDiv) (rI CDivZ fun i j => .int (i.fdiv j)) := opI fun i j _ _ _ _ _ hc q => by
  exact floordiv_int hc.1 q (.inl (PyProof.noPylong_of_log2 hc.2))
end L2.LX
namespace L2.LX
open PySem PySem.Spec PyProof.Rows L2
open PySem.W (Frag)
/-- the suite of an except clause: the handled exception stands there -/
theorem hotOf {X : Cx} {a : Addr} {oe : Obj} {cls : Value} {d : Option Addr} {pn : List (Addr × Obj)} (hz : L2N.Zn cls d oe) (hf : ∃ vs, oe.data = .fields vs) : L2H.HotC (X.suite a ((a, oe) :: pn)) := by
  obtain ⟨vs, e⟩ := hf
  exact ⟨(a, oe), ⟨rfl, vs, e, hz.2.2 vs e⟩, List.mem_cons_self⟩
/-- a def that is called there -/
theorem okH {P : Program} {w : World} {K : Frag} {mg : Str → Option Value} {base : Heap} {x qual : Str} {params : Arguments} {body : List Stmt} {scope : Scope} {dvs : List V} {kws : List (Str × V)} {f : Addr} {fd : FuncData} {CX : CXT} {N ps : List Str} {k : Nat} {sp : Sp} (F : FunD K x qual params body scope dvs kws f fd) (S : FnScope N ps scope) (len : ∀ vs H Q E, sp vs H Q E → vs.length = ps.length)
    (hbody : ∀ (cdv : Value) (A : Around) (outer : List Env) (s : Shared) (H : Hp) (vs : List V) (Q : VK) (E : XK) (p : Addr × Obj), L2H.Hot1 A p → L2H.RoomH k (A.deeper (envOfC qual scope s.heap.objs.size f cdv)) → sp vs H Q E →
      ∃ t, PSs (L2H.cxH CX P w K mg base N qual scope f cdv A outer s H E p) body t ∧ t { nx := fun _ H' => Q .non H', rt := Q } (start N vs) H) : L2H.FnH P w K mg base CX (k + 1) f fd ps sp := by
  obtain ⟨oc, od, dV, kV, doc, pm, an, cdv, ct, osl, rfl, lk, hcd, _, _⟩ := F.ex
  exact L2H.fn_ofH lk hcd S len fun A outer s H vs Q E p hh hr hsp => hbody cdv A outer s H vs Q E p hh hr hsp
section
variable {X : Cx} {CX : CXT} {k : Nat} {f C : Addr} {fd : FuncData} {ps : List Str} {sp : Sp} {dvs : List V} {ds : List Value} {E : St → XK} {x m : Str} {p pos apos : Pos} {e o : Expr} {es : List Expr} {ta : TE} {t : TA}
/-- o.m(e, ..) where what is raised is wished for at the slots -/
def tMethT (C : Addr) (m : Str) (sp : Sp) (E : St → XK) (ta : TE) (t : TA) : TE := fun σ H Q => ta σ H fun x H1 => ∃ a dx fs, x = .ref a ∧ H1 a = some (.ins C dx fs) ∧ fs.lookup m = none ∧
  t σ H1 fun vs H2 => sp (x :: vs) H2 Q (E σ)
theorem pe_methT {pl : Sem Bool} (he : PE X o ta) (c : Cls X.K C) (hm : Meth X.K C m f) (F : FnOk X.prog X.w X.K X.mg X.base CX k f fd ps sp) (hr : Room k X.A) (hb : Binds X.K fd ps []) (hx : ∀ σ, PassesAt CX X σ (E σ)) (ha : PA X (e :: es) t)
    (hst : starEach (e :: es) X.env = (false, eval e X.env) :: starEach es X.env := by rfl) (hpl : (backTo pos (starEach es X.env)).any (·.1) = false := by rfl)
    (ht : eval (.Call (.Attribute o m apos) (e :: es) [] pos) X.env = (do
      let ov ← eval o X.env
      standAt apos.atName
      let (f, first) ← holding [ov] (getMethod ov m pl)
      callWith pos f first (backTo pos (starEach (e :: es) X.env)) (backToKw pos (keywordEach [] X.env))) := by rfl) :
    PE X (.Call (.Attribute o m apos) (e :: es) [] pos) (tMethT C m sp E ta t) := by
  refine ⟨fun pins s σ H Q I h => ?_⟩
  refine PySem.W.methodCall_KW (pl := pl) (thn (he.run pins s σ H _ I h) fun u s1 ⟨x, H1, I1, rx, a, dx, fs, ex, ea, l, q⟩ => ?_) ht
  subst ex
  obtain rfl : u = Value.ref a := rx
  refine getmeth_ok I1 ea c hm l ?_
  refine PySem.W.callWith_K (first := [.ref a]) (h₀ := X.base) I.ok.mod.kin hm.kp (thn (ha.run pos pins s1 σ H1 _ I1 q) fun us s2 ⟨vs, H2, I2, r, q2⟩ => ⟨I2.kIn, ?_⟩) hst hpl
  exact run_fnS (us := .ref a :: us) (vs := .ref a :: vs) F hr hb (hx σ) I2 (.cons rfl r) q2
/-- C(..) so -/
def tMakeT (C : Addr) (sp : Sp) (dvs : List V) (E : St → XK) (t : TA) : TE := fun σ H Q => t σ H fun vs H1 => ∀ x dx, H1 x = none → H1 dx = none → dx ≠ x →
  sp (.ref x :: (vs ++ dvs)) (upd (upd H1 dx (.own x)) x (.ins C dx [])) (fun v H2 => v = .non ∧ Q (.ref x) H2) (E σ)
theorem run_makeT {E : XK} {pins : List (Addr × Obj)} {σ : St} {H : Hp} {s : Shared} {Q : VK} {us : List Value} {vs : List V} (M : Mk X.K C f) (F : FnOk X.prog X.w X.K X.mg X.base CX k f fd ps sp) (hr : Room (k + 1) X.A) (hb : Binds X.K fd ps ds) (hd : Vals dvs ds)
    (hx : PassesAt CX X σ E) (I : Inv X pins σ H s) (r : Vals vs us)
    (h : ∀ x dx, H x = none → H dx = none → dx ≠ x → sp (.ref x :: (vs ++ dvs)) (upd (upd H dx (.own x)) x (.ins C dx [])) (fun v H2 => v = .non ∧ Q (.ref x) H2) E) :
    wpAny (model X.prog X.w) X.A (call (.ref C) us) (EP X pins σ Q) X.xe s := by
  have hq := h (s.heap.objs.size + 1) s.heap.objs.size (I.hok.fresh (Nat.le_succ _)) (I.hok.fresh (Nat.le_refl _)) (Nat.ne_of_lt (Nat.lt_succ_self _))
  have I2 := Inv.made (C := C) I
  have r2 : Vals (V.ref (s.heap.objs.size + 1) :: (vs ++ dvs)) (Value.ref (s.heap.objs.size + 1) :: (us ++ ds)) := .cons rfl (r.append hd)
  have hl : (Value.ref (s.heap.objs.size + 1) :: us ++ ds).length = ps.length := by
    have e := r2.length
    rw [F.len _ _ _ _ hq] at e
    exact e.symm
  refine wpAny_call (make_map (f := f) I.kIn M.makes M.init (beq_iff_eq.mp M.fn) (codeAny_mono (F.run _ X.stack _ _ ⟨Value.ref (s.heap.objs.size + 1) :: us, []⟩ (Value.ref (s.heap.objs.size + 1) :: (us ++ ds)) _ _ E (hr.make C us [])
    (I2.env0.make C us []) (hb _ (Value.ref (s.heap.objs.size + 1) :: us) I2.kIn hl) r2 hq) fun r s' hq' => ?_))
  cases r with
  | error e => exact hx pins _ _ e s' I2 hq'
  | ok fl =>
    cases fl with
    | ret u =>
      obtain ⟨v, H', I3, rv, ev, q3⟩ := I2.after hq'
      subst ev
      exact ⟨rv, ⟨V.ref (s.heap.objs.size + 1), H', I3, rfl, q3⟩⟩
    | next => exact False.elim hq'
    | brk => exact False.elim hq'
    | cont => exact False.elim hq'
theorem pe_makeT (M : Mk X.K C f) (F : FnOk X.prog X.w X.K X.mg X.base CX k f fd ps sp) (hr : Room (k + 1) X.A) (hg : Gl X x) (hm : X.mg x = some (.ref C)) (hb : Binds X.K fd ps ds) (hd : Vals dvs ds) (hx : ∀ σ, PassesAt CX X σ (E σ))
    (ha : PA X (e :: es) t) (hdb : (x == ("__debug__" : Str)) = false := by decide) (he : starEach (e :: es) X.env = (false, eval e X.env) :: starEach es X.env := by rfl) (hpl : (backTo pos (starEach es X.env)).any (·.1) = false := by rfl) :
    PE X (.Call (.Name x p) (e :: es) [] pos) (tMakeT C sp dvs E t) := by
  refine ⟨fun pins s σ H Q I h => ?_⟩
  refine wpAny_Call_Name_kw (ld_glob I hg hm ?_ hdb)
  refine PySem.W.callWith_K (h₀ := X.base) I.ok.mod.kin M.kp (thn (ha.run pos pins s σ H _ I h) fun us s1 ⟨vs, H1, I1, r, q⟩ => ⟨I1.kIn, ?_⟩) he hpl
  exact run_makeT M F hr hb hd (hx σ) I1 r q
end
end L2.LX
namespace L2.LX
open PySem PySem.Spec PyProof.Rows L2
theorem passNA {X : Cx} {σ : L2.St} : PassesAt (L2N.CX X.prog X.w) X σ E0 := fun pins H s e s' I c => passN0 pins σ H s e s' I c
theorem roomM {k : Nat} {A : Around} {v : Option Value} (r : Room k A) : L2H.RoomH k (A.mark v) := ⟨r.dp, r.un⟩
end L2.LX
namespace L2.LX
open PySem PySem.Spec PyProof.Rows L2
/-! rules that name the written part, for a suite -/
theorem ix_tupS {X : Cx} {K : PySem.W.Frag} (h : X.K = K) : IxR X (rIxT K) := by
  subst h
  exact ix_tup
theorem ix_listS {X : Cx} {K : PySem.W.Frag} (h : X.K = K) : IxR X (rIxL K) := by
  subst h
  exact ix_list
theorem call_isiS {X : Cx} {K : PySem.W.Frag} (h : X.K = K) : CallR X (.builtin "isinstance") (rIsi K) := by
  subst h
  exact call_isi
end L2.LX
namespace L2.LX
open PySem PySem.Spec PyProof.Rows L2
open PySem.W (Frag)
/-- values of a built-in type beside an own class -/
structure StrT (K : Frag) (C : Addr) (T : String) : Prop where
  isi : PySem.W.kitOne K (.type T) (.ref C) = some false
  nf : PySem.W.notFirst K C (.type T) = true
  sub : PySem.W.subIn K (.ref C) (.type T) = some false
theorem strB_ok {x : Str} {T : String} {K : Frag} (h : strB x T K = true) : StrT K (ga K x) T := by
  obtain ⟨h1, h⟩ := He.ba h
  obtain ⟨h2, h3⟩ := He.ba h
  exact ⟨of_decide_eq_true h1, h2, of_decide_eq_true h3⟩
theorem kindsB_ok {es : List Str} {K : Frag} (h : kindsB es K = true) {x : Str} (hx : x ∈ es) : PySem.W.kitOne K (.ref (ga K x)) (.type "ValueError") = some true ∧ PySem.W.kitOne K (.ref (ga K x)) (.ref (ga K "LoftError")) = some true ∧
    ∀ y ∈ es, PySem.W.kitOne K (.ref (ga K x)) (.ref (ga K y)) = some (decide (x = y)) := by
  have h1 := List.all_eq_true.mp h x hx
  obtain ⟨h1, h2⟩ := He.ba h1
  obtain ⟨h2, h3⟩ := He.ba h2
  exact ⟨of_decide_eq_true h1, of_decide_eq_true h2, fun y hy => of_decide_eq_true (List.all_eq_true.mp h3 y hy)⟩
end L2.LX
namespace K00
open PySem PySem.Spec PyProof.Rows L2 L2.LX
open PySem.W (Frag)
structure Tx (K : Frag) (mg : Str → Option Value) : Prop where
  x : ∃ h : Heap, K.In h ∧ h.Ns mainGlobals mg ∧ SaysL file fbL fnL fcL K
section
variable {K : Frag} {mg : Str → Option Value}
theorem Tx.g__is_integer (T : Tx K mg) : mg "_is_integer" = some (.ref (ga K "_is_integer")) := by
  obtain ⟨h, X, G, c⟩ := T.x
  exact He.glo_ok X G (c.fact 0)
theorem Tx.g__law_box (T : Tx K mg) : mg "_law_box" = some (.ref (ga K "_law_box")) := by
  obtain ⟨h, X, G, c⟩ := T.x
  exact He.glo_ok X G (c.fact 1)
theorem Tx.g__law_take (T : Tx K mg) : mg "_law_take" = some (.ref (ga K "_law_take")) := by
  obtain ⟨h, X, G, c⟩ := T.x
  exact He.glo_ok X G (c.fact 2)
theorem Tx.g__law_gcd (T : Tx K mg) : mg "_law_gcd" = some (.ref (ga K "_law_gcd")) := by
  obtain ⟨h, X, G, c⟩ := T.x
  exact He.glo_ok X G (c.fact 3)
theorem Tx.g__law_lowest (T : Tx K mg) : mg "_law_lowest" = some (.ref (ga K "_law_lowest")) := by
  obtain ⟨h, X, G, c⟩ := T.x
  exact He.glo_ok X G (c.fact 4)
theorem Tx.g__law_digits (T : Tx K mg) : mg "_law_digits" = some (.ref (ga K "_law_digits")) := by
  obtain ⟨h, X, G, c⟩ := T.x
  exact He.glo_ok X G (c.fact 5)
theorem Tx.g__law_signed (T : Tx K mg) : mg "_law_signed" = some (.ref (ga K "_law_signed")) := by
  obtain ⟨h, X, G, c⟩ := T.x
  exact He.glo_ok X G (c.fact 6)
theorem Tx.g__law_near (T : Tx K mg) : mg "_law_near" = some (.ref (ga K "_law_near")) := by
  obtain ⟨h, X, G, c⟩ := T.x
  exact He.glo_ok X G (c.fact 7)
theorem Tx.g__law_pair (T : Tx K mg) : mg "_law_pair" = some (.ref (ga K "_law_pair")) := by
  obtain ⟨h, X, G, c⟩ := T.x
  exact He.glo_ok X G (c.fact 8)
theorem Tx.g__law_made (T : Tx K mg) : mg "_law_made" = some (.ref (ga K "_law_made")) := by
  obtain ⟨h, X, G, c⟩ := T.x
  exact He.glo_ok X G (c.fact 9)
theorem Tx.g__law_whole (T : Tx K mg) : mg "_law_whole" = some (.ref (ga K "_law_whole")) := by
  obtain ⟨h, X, G, c⟩ := T.x
  exact He.glo_ok X G (c.fact 10)
theorem Tx.g__law_is (T : Tx K mg) : mg "_law_is" = some (.ref (ga K "_law_is")) := by
  obtain ⟨h, X, G, c⟩ := T.x
  exact He.glo_ok X G (c.fact 11)
theorem Tx.g__law_zero_refused (T : Tx K mg) : mg "_law_zero_refused" = some (.ref (ga K "_law_zero_refused")) := by
  obtain ⟨h, X, G, c⟩ := T.x
  exact He.glo_ok X G (c.fact 12)
theorem Tx.g__law_over_right (T : Tx K mg) : mg "_law_over_right" = some (.ref (ga K "_law_over_right")) := by
  obtain ⟨h, X, G, c⟩ := T.x
  exact He.glo_ok X G (c.fact 13)
theorem Tx.g__law_pair_right (T : Tx K mg) : mg "_law_pair_right" = some (.ref (ga K "_law_pair_right")) := by
  obtain ⟨h, X, G, c⟩ := T.x
  exact He.glo_ok X G (c.fact 14)
theorem Tx.g__law_text (T : Tx K mg) : mg "_law_text" = some (.ref (ga K "_law_text")) := by
  obtain ⟨h, X, G, c⟩ := T.x
  exact He.glo_ok X G (c.fact 15)
theorem Tx.g__law_one_right (T : Tx K mg) : mg "_law_one_right" = some (.ref (ga K "_law_one_right")) := by
  obtain ⟨h, X, G, c⟩ := T.x
  exact He.glo_ok X G (c.fact 16)
theorem Tx.g__law_run_right (T : Tx K mg) : mg "_law_run_right" = some (.ref (ga K "_law_run_right")) := by
  obtain ⟨h, X, G, c⟩ := T.x
  exact He.glo_ok X G (c.fact 17)
theorem Tx.g__law_is_number (T : Tx K mg) : mg "_law_is_number" = some (.ref (ga K "_law_is_number")) := by
  obtain ⟨h, X, G, c⟩ := T.x
  exact He.glo_ok X G (c.fact 18)
theorem Tx.g__law_read (T : Tx K mg) : mg "_law_read" = some (.ref (ga K "_law_read")) := by
  obtain ⟨h, X, G, c⟩ := T.x
  exact He.glo_ok X G (c.fact 19)
theorem Tx.g__law_read_right (T : Tx K mg) : mg "_law_read_right" = some (.ref (ga K "_law_read_right")) := by
  obtain ⟨h, X, G, c⟩ := T.x
  exact He.glo_ok X G (c.fact 20)
theorem Tx.g__law_long (T : Tx K mg) : mg "_law_long" = some (.ref (ga K "_law_long")) := by
  obtain ⟨h, X, G, c⟩ := T.x
  exact He.glo_ok X G (c.fact 21)
theorem Tx.g__law_bent (T : Tx K mg) : mg "_law_bent" = some (.ref (ga K "_law_bent")) := by
  obtain ⟨h, X, G, c⟩ := T.x
  exact He.glo_ok X G (c.fact 22)
theorem Tx.g__law_texts (T : Tx K mg) : mg "_law_texts" = some (.ref (ga K "_law_texts")) := by
  obtain ⟨h, X, G, c⟩ := T.x
  exact He.glo_ok X G (c.fact 23)
theorem Tx.g__law_kinds (T : Tx K mg) : mg "_law_kinds" = some (.ref (ga K "_law_kinds")) := by
  obtain ⟨h, X, G, c⟩ := T.x
  exact He.glo_ok X G (c.fact 24)
theorem Tx.g__law_alone (T : Tx K mg) : mg "_law_alone" = some (.ref (ga K "_law_alone")) := by
  obtain ⟨h, X, G, c⟩ := T.x
  exact He.glo_ok X G (c.fact 25)
theorem Tx.g__law_errors_right (T : Tx K mg) : mg "_law_errors_right" = some (.ref (ga K "_law_errors_right")) := by
  obtain ⟨h, X, G, c⟩ := T.x
  exact He.glo_ok X G (c.fact 26)
theorem Tx.g_law (T : Tx K mg) : mg "law" = some (.ref (ga K "law")) := by
  obtain ⟨h, X, G, c⟩ := T.x
  exact He.glo_ok X G (c.fact 27)
theorem Tx.e_InvalidRatio (T : Tx K mg) : mg "InvalidRatio" = some (.ref (ga K "InvalidRatio")) ∧ ErrT K (ga K "InvalidRatio") (ma K (ga K "InvalidRatio") "__init__") (cellOf K (ma K (ga K "InvalidRatio") "__init__")) := by
  obtain ⟨h, X, G, c⟩ := T.x
  obtain ⟨h1, h2⟩ := errB_ok (c.fact 28)
  exact ⟨PySem.W.mg_of X G h1, h2⟩
theorem Tx.e_InvalidText (T : Tx K mg) : mg "InvalidText" = some (.ref (ga K "InvalidText")) ∧ ErrT K (ga K "InvalidText") (ma K (ga K "InvalidText") "__init__") (cellOf K (ma K (ga K "InvalidText") "__init__")) := by
  obtain ⟨h, X, G, c⟩ := T.x
  obtain ⟨h1, h2⟩ := errB_ok (c.fact 29)
  exact ⟨PySem.W.mg_of X G h1, h2⟩
theorem Tx.e_InvalidTable (T : Tx K mg) : mg "InvalidTable" = some (.ref (ga K "InvalidTable")) ∧ ErrT K (ga K "InvalidTable") (ma K (ga K "InvalidTable") "__init__") (cellOf K (ma K (ga K "InvalidTable") "__init__")) := by
  obtain ⟨h, X, G, c⟩ := T.x
  obtain ⟨h1, h2⟩ := errB_ok (c.fact 30)
  exact ⟨PySem.W.mg_of X G h1, h2⟩
theorem Tx.e_InvalidGraph (T : Tx K mg) : mg "InvalidGraph" = some (.ref (ga K "InvalidGraph")) ∧ ErrT K (ga K "InvalidGraph") (ma K (ga K "InvalidGraph") "__init__") (cellOf K (ma K (ga K "InvalidGraph") "__init__")) := by
  obtain ⟨h, X, G, c⟩ := T.x
  obtain ⟨h1, h2⟩ := errB_ok (c.fact 31)
  exact ⟨PySem.W.mg_of X G h1, h2⟩
theorem Tx.e_InvalidModel (T : Tx K mg) : mg "InvalidModel" = some (.ref (ga K "InvalidModel")) ∧ ErrT K (ga K "InvalidModel") (ma K (ga K "InvalidModel") "__init__") (cellOf K (ma K (ga K "InvalidModel") "__init__")) := by
  obtain ⟨h, X, G, c⟩ := T.x
  obtain ⟨h1, h2⟩ := errB_ok (c.fact 32)
  exact ⟨PySem.W.mg_of X G h1, h2⟩
theorem Tx.e_UnknownName (T : Tx K mg) : mg "UnknownName" = some (.ref (ga K "UnknownName")) ∧ ErrT K (ga K "UnknownName") (ma K (ga K "UnknownName") "__init__") (cellOf K (ma K (ga K "UnknownName") "__init__")) := by
  obtain ⟨h, X, G, c⟩ := T.x
  obtain ⟨h1, h2⟩ := errB_ok (c.fact 33)
  exact ⟨PySem.W.mg_of X G h1, h2⟩
theorem Tx.e_InvalidFact (T : Tx K mg) : mg "InvalidFact" = some (.ref (ga K "InvalidFact")) ∧ ErrT K (ga K "InvalidFact") (ma K (ga K "InvalidFact") "__init__") (cellOf K (ma K (ga K "InvalidFact") "__init__")) := by
  obtain ⟨h, X, G, c⟩ := T.x
  obtain ⟨h1, h2⟩ := errB_ok (c.fact 34)
  exact ⟨PySem.W.mg_of X G h1, h2⟩
theorem Tx.e_InvalidQuestion (T : Tx K mg) : mg "InvalidQuestion" = some (.ref (ga K "InvalidQuestion")) ∧ ErrT K (ga K "InvalidQuestion") (ma K (ga K "InvalidQuestion") "__init__") (cellOf K (ma K (ga K "InvalidQuestion") "__init__")) := by
  obtain ⟨h, X, G, c⟩ := T.x
  obtain ⟨h1, h2⟩ := errB_ok (c.fact 35)
  exact ⟨PySem.W.mg_of X G h1, h2⟩
theorem Tx.e_InvalidPaper (T : Tx K mg) : mg "InvalidPaper" = some (.ref (ga K "InvalidPaper")) ∧ ErrT K (ga K "InvalidPaper") (ma K (ga K "InvalidPaper") "__init__") (cellOf K (ma K (ga K "InvalidPaper") "__init__")) := by
  obtain ⟨h, X, G, c⟩ := T.x
  obtain ⟨h1, h2⟩ := errB_ok (c.fact 36)
  exact ⟨PySem.W.mg_of X G h1, h2⟩
theorem Tx.e_TooLarge (T : Tx K mg) : mg "TooLarge" = some (.ref (ga K "TooLarge")) ∧ ErrT K (ga K "TooLarge") (ma K (ga K "TooLarge") "__init__") (cellOf K (ma K (ga K "TooLarge") "__init__")) := by
  obtain ⟨h, X, G, c⟩ := T.x
  obtain ⟨h1, h2⟩ := errB_ok (c.fact 37)
  exact ⟨PySem.W.mg_of X G h1, h2⟩
theorem Tx.e_ZeroChance (T : Tx K mg) : mg "ZeroChance" = some (.ref (ga K "ZeroChance")) ∧ ErrT K (ga K "ZeroChance") (ma K (ga K "ZeroChance") "__init__") (cellOf K (ma K (ga K "ZeroChance") "__init__")) := by
  obtain ⟨h, X, G, c⟩ := T.x
  obtain ⟨h1, h2⟩ := errB_ok (c.fact 38)
  exact ⟨PySem.W.mg_of X G h1, h2⟩
theorem Tx.e_Untold (T : Tx K mg) : mg "Untold" = some (.ref (ga K "Untold")) ∧ ErrT K (ga K "Untold") (ma K (ga K "Untold") "__init__") (cellOf K (ma K (ga K "Untold") "__init__")) := by
  obtain ⟨h, X, G, c⟩ := T.x
  obtain ⟨h1, h2⟩ := errB_ok (c.fact 39)
  exact ⟨PySem.W.mg_of X G h1, h2⟩
theorem Tx.e_Misfit (T : Tx K mg) : mg "Misfit" = some (.ref (ga K "Misfit")) ∧ ErrT K (ga K "Misfit") (ma K (ga K "Misfit") "__init__") (cellOf K (ma K (ga K "Misfit") "__init__")) := by
  obtain ⟨h, X, G, c⟩ := T.x
  obtain ⟨h1, h2⟩ := errB_ok (c.fact 40)
  exact ⟨PySem.W.mg_of X G h1, h2⟩
theorem Tx.e_InvalidDeed (T : Tx K mg) : mg "InvalidDeed" = some (.ref (ga K "InvalidDeed")) ∧ ErrT K (ga K "InvalidDeed") (ma K (ga K "InvalidDeed") "__init__") (cellOf K (ma K (ga K "InvalidDeed") "__init__")) := by
  obtain ⟨h, X, G, c⟩ := T.x
  obtain ⟨h1, h2⟩ := errB_ok (c.fact 41)
  exact ⟨PySem.W.mg_of X G h1, h2⟩
theorem Tx.e_DeedRefused (T : Tx K mg) : mg "DeedRefused" = some (.ref (ga K "DeedRefused")) ∧ ErrT K (ga K "DeedRefused") (ma K (ga K "DeedRefused") "__init__") (cellOf K (ma K (ga K "DeedRefused") "__init__")) := by
  obtain ⟨h, X, G, c⟩ := T.x
  obtain ⟨h1, h2⟩ := errB_ok (c.fact 42)
  exact ⟨PySem.W.mg_of X G h1, h2⟩
theorem Tx.e_InvalidJournal (T : Tx K mg) : mg "InvalidJournal" = some (.ref (ga K "InvalidJournal")) ∧ ErrT K (ga K "InvalidJournal") (ma K (ga K "InvalidJournal") "__init__") (cellOf K (ma K (ga K "InvalidJournal") "__init__")) := by
  obtain ⟨h, X, G, c⟩ := T.x
  obtain ⟨h1, h2⟩ := errB_ok (c.fact 43)
  exact ⟨PySem.W.mg_of X G h1, h2⟩
theorem Tx.n_InvalidRatio (T : Tx K mg) : PySem.W.findIn K (.ref (ga K "InvalidRatio")) "den" = some none := by
  obtain ⟨h, X, G, c⟩ := T.x
  exact noB_ok (c.fact 44)
theorem Tx.n_InvalidText (T : Tx K mg) : PySem.W.findIn K (.ref (ga K "InvalidText")) "text" = some none := by
  obtain ⟨h, X, G, c⟩ := T.x
  exact noB_ok (c.fact 45)
theorem Tx.n_InvalidTable (T : Tx K mg) : PySem.W.findIn K (.ref (ga K "InvalidTable")) "part" = some none := by
  obtain ⟨h, X, G, c⟩ := T.x
  exact noB_ok (c.fact 46)
theorem Tx.n_InvalidGraph (T : Tx K mg) : PySem.W.findIn K (.ref (ga K "InvalidGraph")) "part" = some none := by
  obtain ⟨h, X, G, c⟩ := T.x
  exact noB_ok (c.fact 47)
theorem Tx.n_InvalidModel (T : Tx K mg) : PySem.W.findIn K (.ref (ga K "InvalidModel")) "name" = some none := by
  obtain ⟨h, X, G, c⟩ := T.x
  exact noB_ok (c.fact 48)
theorem Tx.n_UnknownName (T : Tx K mg) : PySem.W.findIn K (.ref (ga K "UnknownName")) "name" = some none := by
  obtain ⟨h, X, G, c⟩ := T.x
  exact noB_ok (c.fact 49)
theorem Tx.n_InvalidFact (T : Tx K mg) : PySem.W.findIn K (.ref (ga K "InvalidFact")) "name" = some none := by
  obtain ⟨h, X, G, c⟩ := T.x
  exact noB_ok (c.fact 50)
theorem Tx.n_InvalidQuestion (T : Tx K mg) : PySem.W.findIn K (.ref (ga K "InvalidQuestion")) "about" = some none := by
  obtain ⟨h, X, G, c⟩ := T.x
  exact noB_ok (c.fact 51)
theorem Tx.n_InvalidPaper (T : Tx K mg) : PySem.W.findIn K (.ref (ga K "InvalidPaper")) "about" = some none := by
  obtain ⟨h, X, G, c⟩ := T.x
  exact noB_ok (c.fact 52)
theorem Tx.n_TooLarge (T : Tx K mg) : PySem.W.findIn K (.ref (ga K "TooLarge")) "limit" = some none := by
  obtain ⟨h, X, G, c⟩ := T.x
  exact noB_ok (c.fact 53)
theorem Tx.n_Untold (T : Tx K mg) : PySem.W.findIn K (.ref (ga K "Untold")) "hedge" = some none := by
  obtain ⟨h, X, G, c⟩ := T.x
  exact noB_ok (c.fact 54)
theorem Tx.n_Misfit (T : Tx K mg) : PySem.W.findIn K (.ref (ga K "Misfit")) "prices" = some none := by
  obtain ⟨h, X, G, c⟩ := T.x
  exact noB_ok (c.fact 55)
theorem Tx.n_InvalidDeed (T : Tx K mg) : PySem.W.findIn K (.ref (ga K "InvalidDeed")) "word" = some none := by
  obtain ⟨h, X, G, c⟩ := T.x
  exact noB_ok (c.fact 56)
theorem Tx.n_DeedRefused (T : Tx K mg) : PySem.W.findIn K (.ref (ga K "DeedRefused")) "position" = some none := by
  obtain ⟨h, X, G, c⟩ := T.x
  exact noB_ok (c.fact 57)
theorem Tx.n_InvalidJournal (T : Tx K mg) : PySem.W.findIn K (.ref (ga K "InvalidJournal")) "line" = some none := by
  obtain ⟨h, X, G, c⟩ := T.x
  exact noB_ok (c.fact 58)
theorem Tx.f_super (T : Tx K mg) : mg "super" = none := by
  obtain ⟨h, X, G, c⟩ := T.x
  exact He.free_ok X G (c.fact 59)
theorem Tx.f_len (T : Tx K mg) : mg "len" = none := by
  obtain ⟨h, X, G, c⟩ := T.x
  exact He.free_ok X G (c.fact 60)
theorem Tx.f_range (T : Tx K mg) : mg "range" = none := by
  obtain ⟨h, X, G, c⟩ := T.x
  exact He.free_ok X G (c.fact 61)
theorem Tx.f_int (T : Tx K mg) : mg "int" = none := by
  obtain ⟨h, X, G, c⟩ := T.x
  exact He.free_ok X G (c.fact 62)
theorem Tx.f_str (T : Tx K mg) : mg "str" = none := by
  obtain ⟨h, X, G, c⟩ := T.x
  exact He.free_ok X G (c.fact 63)
theorem Tx.f_bool (T : Tx K mg) : mg "bool" = none := by
  obtain ⟨h, X, G, c⟩ := T.x
  exact He.free_ok X G (c.fact 64)
theorem Tx.f_abs (T : Tx K mg) : mg "abs" = none := by
  obtain ⟨h, X, G, c⟩ := T.x
  exact He.free_ok X G (c.fact 65)
theorem Tx.f_isinstance (T : Tx K mg) : mg "isinstance" = none := by
  obtain ⟨h, X, G, c⟩ := T.x
  exact He.free_ok X G (c.fact 66)
theorem Tx.f_repr (T : Tx K mg) : mg "repr" = none := by
  obtain ⟨h, X, G, c⟩ := T.x
  exact He.free_ok X G (c.fact 67)
theorem Tx.f_all (T : Tx K mg) : mg "all" = none := by
  obtain ⟨h, X, G, c⟩ := T.x
  exact He.free_ok X G (c.fact 68)
theorem Tx.f_list (T : Tx K mg) : mg "list" = none := by
  obtain ⟨h, X, G, c⟩ := T.x
  exact He.free_ok X G (c.fact 69)
theorem Tx.f_tuple (T : Tx K mg) : mg "tuple" = none := by
  obtain ⟨h, X, G, c⟩ := T.x
  exact He.free_ok X G (c.fact 70)
theorem Tx.f_ValueError (T : Tx K mg) : mg "ValueError" = none := by
  obtain ⟨h, X, G, c⟩ := T.x
  exact He.free_ok X G (c.fact 71)
theorem Tx.k__DIGITS (T : Tx K mg) : ∃ t, mg "_DIGITS" = some (.str "0123456789" t) := by
  obtain ⟨h, X, G, c⟩ := T.x
  exact He.str_ok X G (c.fact 72)
theorem Tx.k__LONGEST_TEXT (T : Tx K mg) : ∃ t, mg "_LONGEST_TEXT" = some (.int 90 t) := by
  obtain ⟨h, X, G, c⟩ := T.x
  exact He.int_ok X G (c.fact 73)
theorem Tx.b_gcd (T : Tx K mg) : mg "gcd" = some (.builtin "math.gcd") := by
  obtain ⟨h, X, G, c⟩ := T.x
  exact PySem.W.mg_of X G (He.eqO_ok (c.fact 74))
theorem Tx.g_Ratio (T : Tx K mg) : mg "Ratio" = some (.ref (ga K "Ratio")) := by
  obtain ⟨h, X, G, c⟩ := T.x
  exact He.glo_ok X G (c.fact 75)
theorem Tx.c_Ratio (T : Tx K mg) : Cls K (ga K "Ratio") := by
  obtain ⟨h, X, G, c⟩ := T.x
  exact He.cls_ok (c.fact 76)
theorem Tx.m_Ratio (T : Tx K mg) : Mk K (ga K "Ratio") (ma K (ga K "Ratio") "__init__") := by
  obtain ⟨h, X, G, c⟩ := T.x
  exact He.mkr_ok (c.fact 77)
theorem Tx.n_Ratio_num (T : Tx K mg) : NoAttr K (ga K "Ratio") "num" := by
  obtain ⟨h, X, G, c⟩ := T.x
  exact noB_ok (c.fact 78)
theorem Tx.n_Ratio_den (T : Tx K mg) : NoAttr K (ga K "Ratio") "den" := by
  obtain ⟨h, X, G, c⟩ := T.x
  exact noB_ok (c.fact 79)
theorem Tx.o_Ratio___init__ (T : Tx K mg) : Op K (ga K "Ratio") "__init__" (ma K (ga K "Ratio") "__init__") ∧ Meth K (ga K "Ratio") "__init__" (ma K (ga K "Ratio") "__init__") := by
  obtain ⟨h, X, G, c⟩ := T.x
  exact ⟨opB_ok (c.fact 80), opB_meth (c.fact 80)⟩
theorem Tx.o_Ratio___add__ (T : Tx K mg) : Op K (ga K "Ratio") "__add__" (ma K (ga K "Ratio") "__add__") ∧ Meth K (ga K "Ratio") "__add__" (ma K (ga K "Ratio") "__add__") := by
  obtain ⟨h, X, G, c⟩ := T.x
  exact ⟨opB_ok (c.fact 81), opB_meth (c.fact 81)⟩
theorem Tx.o_Ratio___sub__ (T : Tx K mg) : Op K (ga K "Ratio") "__sub__" (ma K (ga K "Ratio") "__sub__") ∧ Meth K (ga K "Ratio") "__sub__" (ma K (ga K "Ratio") "__sub__") := by
  obtain ⟨h, X, G, c⟩ := T.x
  exact ⟨opB_ok (c.fact 82), opB_meth (c.fact 82)⟩
theorem Tx.o_Ratio___mul__ (T : Tx K mg) : Op K (ga K "Ratio") "__mul__" (ma K (ga K "Ratio") "__mul__") ∧ Meth K (ga K "Ratio") "__mul__" (ma K (ga K "Ratio") "__mul__") := by
  obtain ⟨h, X, G, c⟩ := T.x
  exact ⟨opB_ok (c.fact 83), opB_meth (c.fact 83)⟩
theorem Tx.o_Ratio___neg__ (T : Tx K mg) : Op K (ga K "Ratio") "__neg__" (ma K (ga K "Ratio") "__neg__") ∧ Meth K (ga K "Ratio") "__neg__" (ma K (ga K "Ratio") "__neg__") := by
  obtain ⟨h, X, G, c⟩ := T.x
  exact ⟨opB_ok (c.fact 84), opB_meth (c.fact 84)⟩
theorem Tx.o_Ratio___abs__ (T : Tx K mg) : Op K (ga K "Ratio") "__abs__" (ma K (ga K "Ratio") "__abs__") ∧ Meth K (ga K "Ratio") "__abs__" (ma K (ga K "Ratio") "__abs__") := by
  obtain ⟨h, X, G, c⟩ := T.x
  exact ⟨opB_ok (c.fact 85), opB_meth (c.fact 85)⟩
theorem Tx.o_Ratio_over (T : Tx K mg) : Op K (ga K "Ratio") "over" (ma K (ga K "Ratio") "over") ∧ Meth K (ga K "Ratio") "over" (ma K (ga K "Ratio") "over") := by
  obtain ⟨h, X, G, c⟩ := T.x
  exact ⟨opB_ok (c.fact 86), opB_meth (c.fact 86)⟩
theorem Tx.o_Ratio_less (T : Tx K mg) : Op K (ga K "Ratio") "less" (ma K (ga K "Ratio") "less") ∧ Meth K (ga K "Ratio") "less" (ma K (ga K "Ratio") "less") := by
  obtain ⟨h, X, G, c⟩ := T.x
  exact ⟨opB_ok (c.fact 87), opB_meth (c.fact 87)⟩
theorem Tx.o_Ratio___eq__ (T : Tx K mg) : Op K (ga K "Ratio") "__eq__" (ma K (ga K "Ratio") "__eq__") ∧ Meth K (ga K "Ratio") "__eq__" (ma K (ga K "Ratio") "__eq__") := by
  obtain ⟨h, X, G, c⟩ := T.x
  exact ⟨opB_ok (c.fact 88), opB_meth (c.fact 88)⟩
theorem Tx.o_Ratio___bool__ (T : Tx K mg) : Op K (ga K "Ratio") "__bool__" (ma K (ga K "Ratio") "__bool__") ∧ Meth K (ga K "Ratio") "__bool__" (ma K (ga K "Ratio") "__bool__") := by
  obtain ⟨h, X, G, c⟩ := T.x
  exact ⟨opB_ok (c.fact 89), opB_meth (c.fact 89)⟩
theorem Tx.o_Ratio___str__ (T : Tx K mg) : Op K (ga K "Ratio") "__str__" (ma K (ga K "Ratio") "__str__") ∧ Meth K (ga K "Ratio") "__str__" (ma K (ga K "Ratio") "__str__") := by
  obtain ⟨h, X, G, c⟩ := T.x
  exact ⟨opB_ok (c.fact 90), opB_meth (c.fact 90)⟩
theorem Tx.o_Ratio___repr__ (T : Tx K mg) : Op K (ga K "Ratio") "__repr__" (ma K (ga K "Ratio") "__repr__") ∧ Meth K (ga K "Ratio") "__repr__" (ma K (ga K "Ratio") "__repr__") := by
  obtain ⟨h, X, G, c⟩ := T.x
  exact ⟨opB_ok (c.fact 91), opB_meth (c.fact 91)⟩
theorem Tx.st_Ratio_read (T : Tx K mg) : CSta K (ga K "Ratio") "read" (ma K (ga K "Ratio") "read") (He5.wf K (ga K "Ratio") "staticmethod" "read") := by
  obtain ⟨h, X, G, c⟩ := T.x
  exact staB_ok (c.fact 92)
theorem Tx.sf_Ratio (T : Tx K mg) : PySem.W.selfFirst K (ga K "Ratio") = true := by
  obtain ⟨h, X, G, c⟩ := T.x
  exact c.fact 93
theorem Tx.i_Ratio (T : Tx K mg) : IsI K (ga K "Ratio") := by
  obtain ⟨h, X, G, c⟩ := T.x
  exact isiB_ok (c.fact 94)
theorem Tx.g_LoftError (T : Tx K mg) : mg "LoftError" = some (.ref (ga K "LoftError")) := by
  obtain ⟨h, X, G, c⟩ := T.x
  exact He.glo_ok X G (c.fact 95)
theorem Tx.kinds (T : Tx K mg) : kindsB ["InvalidRatio", "InvalidText", "InvalidTable", "InvalidGraph", "InvalidModel", "UnknownName", "InvalidFact", "InvalidQuestion", "InvalidPaper", "TooLarge", "ZeroChance", "Untold", "Misfit", "InvalidDeed", "DeedRefused", "InvalidJournal"] K = true := by
  obtain ⟨h, X, G, c⟩ := T.x
  exact c.fact 96
theorem Tx.str_int (T : Tx K mg) : StrT K (ga K "Ratio") "int" := by
  obtain ⟨h, X, G, c⟩ := T.x
  exact strB_ok (c.fact 97)
theorem Tx.str_str (T : Tx K mg) : StrT K (ga K "Ratio") "str" := by
  obtain ⟨h, X, G, c⟩ := T.x
  exact strB_ok (c.fact 98)
theorem Tx.str_tuple (T : Tx K mg) : StrT K (ga K "Ratio") "tuple" := by
  obtain ⟨h, X, G, c⟩ := T.x
  exact strB_ok (c.fact 99)
theorem Tx.str_list (T : Tx K mg) : StrT K (ga K "Ratio") "list" := by
  obtain ⟨h, X, G, c⟩ := T.x
  exact strB_ok (c.fact 100)
theorem Tx.str_bool (T : Tx K mg) : StrT K (ga K "Ratio") "bool" := by
  obtain ⟨h, X, G, c⟩ := T.x
  exact strB_ok (c.fact 101)
theorem Tx.str_NoneType (T : Tx K mg) : StrT K (ga K "Ratio") "NoneType" := by
  obtain ⟨h, X, G, c⟩ := T.x
  exact strB_ok (c.fact 102)
theorem Tx.d_Ratio___init__ (T : Tx K mg) : FunD K "__init__" "Ratio.__init__" (defArgs s_Ratio___init__) (defBody s_Ratio___init__) (defScope s_Ratio___init__) [.int 1] [] (a_Ratio___init__ K) (fdOf K (a_Ratio___init__ K)) := by
  obtain ⟨h, X, G, c⟩ := T.x
  exact c.def_ 0
theorem sc_Ratio___init__ : FnScope ["self", "num", "den", "common"] ["self", "num", "den"] (defScope s_Ratio___init__) := ⟨rfl, rfl, rfl, by decide +kernel, rfl, by decide +kernel, by decide +kernel⟩
theorem Tx.d_Ratio___add__ (T : Tx K mg) : FunD K "__add__" "Ratio.__add__" (defArgs s_Ratio___add__) (defBody s_Ratio___add__) (defScope s_Ratio___add__) [] [] (a_Ratio___add__ K) (fdOf K (a_Ratio___add__ K)) := by
  obtain ⟨h, X, G, c⟩ := T.x
  exact c.def_ 1
theorem Tx.b_Ratio___add__ (T : Tx K mg) : Binds K (fdOf K (a_Ratio___add__ K)) ["self", "other"] [] := (T.d_Ratio___add__).bindsN fun _ _ _ _ _ _ us hl => match us, hl with | [_, _], _ => rfl
theorem sc_Ratio___add__ : FnScope ["self", "other"] ["self", "other"] (defScope s_Ratio___add__) := ⟨rfl, rfl, rfl, by decide +kernel, rfl, by decide +kernel, by decide +kernel⟩
theorem Tx.d_Ratio___sub__ (T : Tx K mg) : FunD K "__sub__" "Ratio.__sub__" (defArgs s_Ratio___sub__) (defBody s_Ratio___sub__) (defScope s_Ratio___sub__) [] [] (a_Ratio___sub__ K) (fdOf K (a_Ratio___sub__ K)) := by
  obtain ⟨h, X, G, c⟩ := T.x
  exact c.def_ 2
theorem Tx.b_Ratio___sub__ (T : Tx K mg) : Binds K (fdOf K (a_Ratio___sub__ K)) ["self", "other"] [] := (T.d_Ratio___sub__).bindsN fun _ _ _ _ _ _ us hl => match us, hl with | [_, _], _ => rfl
theorem sc_Ratio___sub__ : FnScope ["self", "other"] ["self", "other"] (defScope s_Ratio___sub__) := ⟨rfl, rfl, rfl, by decide +kernel, rfl, by decide +kernel, by decide +kernel⟩
theorem Tx.d_Ratio___mul__ (T : Tx K mg) : FunD K "__mul__" "Ratio.__mul__" (defArgs s_Ratio___mul__) (defBody s_Ratio___mul__) (defScope s_Ratio___mul__) [] [] (a_Ratio___mul__ K) (fdOf K (a_Ratio___mul__ K)) := by
  obtain ⟨h, X, G, c⟩ := T.x
  exact c.def_ 3
theorem Tx.b_Ratio___mul__ (T : Tx K mg) : Binds K (fdOf K (a_Ratio___mul__ K)) ["self", "other"] [] := (T.d_Ratio___mul__).bindsN fun _ _ _ _ _ _ us hl => match us, hl with | [_, _], _ => rfl
theorem sc_Ratio___mul__ : FnScope ["self", "other"] ["self", "other"] (defScope s_Ratio___mul__) := ⟨rfl, rfl, rfl, by decide +kernel, rfl, by decide +kernel, by decide +kernel⟩
theorem Tx.d_Ratio___neg__ (T : Tx K mg) : FunD K "__neg__" "Ratio.__neg__" (defArgs s_Ratio___neg__) (defBody s_Ratio___neg__) (defScope s_Ratio___neg__) [] [] (a_Ratio___neg__ K) (fdOf K (a_Ratio___neg__ K)) := by
  obtain ⟨h, X, G, c⟩ := T.x
  exact c.def_ 4
theorem Tx.b_Ratio___neg__ (T : Tx K mg) : Binds K (fdOf K (a_Ratio___neg__ K)) ["self"] [] := (T.d_Ratio___neg__).bindsN fun _ _ _ _ _ _ us hl => match us, hl with | [_], _ => rfl
theorem sc_Ratio___neg__ : FnScope ["self"] ["self"] (defScope s_Ratio___neg__) := ⟨rfl, rfl, rfl, by decide +kernel, rfl, by decide +kernel, by decide +kernel⟩
theorem Tx.d_Ratio___abs__ (T : Tx K mg) : FunD K "__abs__" "Ratio.__abs__" (defArgs s_Ratio___abs__) (defBody s_Ratio___abs__) (defScope s_Ratio___abs__) [] [] (a_Ratio___abs__ K) (fdOf K (a_Ratio___abs__ K)) := by
  obtain ⟨h, X, G, c⟩ := T.x
  exact c.def_ 5
theorem Tx.b_Ratio___abs__ (T : Tx K mg) : Binds K (fdOf K (a_Ratio___abs__ K)) ["self"] [] := (T.d_Ratio___abs__).bindsN fun _ _ _ _ _ _ us hl => match us, hl with | [_], _ => rfl
theorem sc_Ratio___abs__ : FnScope ["self"] ["self"] (defScope s_Ratio___abs__) := ⟨rfl, rfl, rfl, by decide +kernel, rfl, by decide +kernel, by decide +kernel⟩
theorem Tx.d_Ratio_over (T : Tx K mg) : FunD K "over" "Ratio.over" (defArgs s_Ratio_over) (defBody s_Ratio_over) (defScope s_Ratio_over) [] [] (a_Ratio_over K) (fdOf K (a_Ratio_over K)) := by
  obtain ⟨h, X, G, c⟩ := T.x
  exact c.def_ 6
theorem Tx.b_Ratio_over (T : Tx K mg) : Binds K (fdOf K (a_Ratio_over K)) ["self", "other"] [] := (T.d_Ratio_over).bindsN fun _ _ _ _ _ _ us hl => match us, hl with | [_, _], _ => rfl
theorem sc_Ratio_over : FnScope ["self", "other"] ["self", "other"] (defScope s_Ratio_over) := ⟨rfl, rfl, rfl, by decide +kernel, rfl, by decide +kernel, by decide +kernel⟩
theorem Tx.d_Ratio_less (T : Tx K mg) : FunD K "less" "Ratio.less" (defArgs s_Ratio_less) (defBody s_Ratio_less) (defScope s_Ratio_less) [] [] (a_Ratio_less K) (fdOf K (a_Ratio_less K)) := by
  obtain ⟨h, X, G, c⟩ := T.x
  exact c.def_ 7
theorem Tx.b_Ratio_less (T : Tx K mg) : Binds K (fdOf K (a_Ratio_less K)) ["self", "other"] [] := (T.d_Ratio_less).bindsN fun _ _ _ _ _ _ us hl => match us, hl with | [_, _], _ => rfl
theorem sc_Ratio_less : FnScope ["self", "other"] ["self", "other"] (defScope s_Ratio_less) := ⟨rfl, rfl, rfl, by decide +kernel, rfl, by decide +kernel, by decide +kernel⟩
theorem Tx.d_Ratio___eq__ (T : Tx K mg) : FunD K "__eq__" "Ratio.__eq__" (defArgs s_Ratio___eq__) (defBody s_Ratio___eq__) (defScope s_Ratio___eq__) [] [] (a_Ratio___eq__ K) (fdOf K (a_Ratio___eq__ K)) := by
  obtain ⟨h, X, G, c⟩ := T.x
  exact c.def_ 8
theorem Tx.b_Ratio___eq__ (T : Tx K mg) : Binds K (fdOf K (a_Ratio___eq__ K)) ["self", "other"] [] := (T.d_Ratio___eq__).bindsN fun _ _ _ _ _ _ us hl => match us, hl with | [_, _], _ => rfl
theorem sc_Ratio___eq__ : FnScope ["self", "other"] ["self", "other"] (defScope s_Ratio___eq__) := ⟨rfl, rfl, rfl, by decide +kernel, rfl, by decide +kernel, by decide +kernel⟩
theorem Tx.d_Ratio___bool__ (T : Tx K mg) : FunD K "__bool__" "Ratio.__bool__" (defArgs s_Ratio___bool__) (defBody s_Ratio___bool__) (defScope s_Ratio___bool__) [] [] (a_Ratio___bool__ K) (fdOf K (a_Ratio___bool__ K)) := by
  obtain ⟨h, X, G, c⟩ := T.x
  exact c.def_ 9
theorem Tx.b_Ratio___bool__ (T : Tx K mg) : Binds K (fdOf K (a_Ratio___bool__ K)) ["self"] [] := (T.d_Ratio___bool__).bindsN fun _ _ _ _ _ _ us hl => match us, hl with | [_], _ => rfl
theorem sc_Ratio___bool__ : FnScope ["self"] ["self"] (defScope s_Ratio___bool__) := ⟨rfl, rfl, rfl, by decide +kernel, rfl, by decide +kernel, by decide +kernel⟩
theorem Tx.d_Ratio___str__ (T : Tx K mg) : FunD K "__str__" "Ratio.__str__" (defArgs s_Ratio___str__) (defBody s_Ratio___str__) (defScope s_Ratio___str__) [] [] (a_Ratio___str__ K) (fdOf K (a_Ratio___str__ K)) := by
  obtain ⟨h, X, G, c⟩ := T.x
  exact c.def_ 10
theorem Tx.b_Ratio___str__ (T : Tx K mg) : Binds K (fdOf K (a_Ratio___str__ K)) ["self"] [] := (T.d_Ratio___str__).bindsN fun _ _ _ _ _ _ us hl => match us, hl with | [_], _ => rfl
theorem sc_Ratio___str__ : FnScope ["self"] ["self"] (defScope s_Ratio___str__) := ⟨rfl, rfl, rfl, by decide +kernel, rfl, by decide +kernel, by decide +kernel⟩
theorem Tx.d_Ratio___repr__ (T : Tx K mg) : FunD K "__repr__" "Ratio.__repr__" (defArgs s_Ratio___repr__) (defBody s_Ratio___repr__) (defScope s_Ratio___repr__) [] [] (a_Ratio___repr__ K) (fdOf K (a_Ratio___repr__ K)) := by
  obtain ⟨h, X, G, c⟩ := T.x
  exact c.def_ 11
theorem Tx.b_Ratio___repr__ (T : Tx K mg) : Binds K (fdOf K (a_Ratio___repr__ K)) ["self"] [] := (T.d_Ratio___repr__).bindsN fun _ _ _ _ _ _ us hl => match us, hl with | [_], _ => rfl
theorem sc_Ratio___repr__ : FnScope ["self"] ["self"] (defScope s_Ratio___repr__) := ⟨rfl, rfl, rfl, by decide +kernel, rfl, by decide +kernel, by decide +kernel⟩
theorem Tx.d_Ratio_read (T : Tx K mg) : FunD K "read" "Ratio.read" (defArgs s_Ratio_read) (defBody s_Ratio_read) (defScope s_Ratio_read) [] [] (a_Ratio_read K) (fdOf K (a_Ratio_read K)) := by
  obtain ⟨h, X, G, c⟩ := T.x
  exact c.def_ 12
theorem Tx.b_Ratio_read (T : Tx K mg) : Binds K (fdOf K (a_Ratio_read K)) ["text"] [] := (T.d_Ratio_read).bindsN fun _ _ _ _ _ _ us hl => match us, hl with | [_], _ => rfl
theorem sc_Ratio_read : FnScope ["text", "top", "slash", "bottom", "num", "den", "ratio"] ["text"] (defScope s_Ratio_read) := ⟨rfl, rfl, rfl, by decide +kernel, rfl, by decide +kernel, by decide +kernel⟩
theorem Tx.d__is_integer (T : Tx K mg) : FunD K "_is_integer" "_is_integer" (defArgs s__is_integer) (defBody s__is_integer) (defScope s__is_integer) [] [] (a__is_integer K) (fdOf K (a__is_integer K)) := by
  obtain ⟨h, X, G, c⟩ := T.x
  exact c.def_ 13
theorem Tx.b__is_integer (T : Tx K mg) : Binds K (fdOf K (a__is_integer K)) ["text"] [] := (T.d__is_integer).bindsN fun _ _ _ _ _ _ us hl => match us, hl with | [_], _ => rfl
theorem sc__is_integer : FnScope ["text", "digits", "character"] ["text"] (defScope s__is_integer) := ⟨rfl, rfl, rfl, by decide +kernel, rfl, by decide +kernel, by decide +kernel⟩
theorem Tx.d__law_box (T : Tx K mg) : FunD K "_law_box" "_law_box" (defArgs s__law_box) (defBody s__law_box) (defScope s__law_box) [] [] (a__law_box K) (fdOf K (a__law_box K)) := by
  obtain ⟨h, X, G, c⟩ := T.x
  exact c.def_ 14
theorem Tx.b__law_box (T : Tx K mg) : Binds K (fdOf K (a__law_box K)) ["script"] [] := (T.d__law_box).bindsN fun _ _ _ _ _ _ us hl => match us, hl with | [_], _ => rfl
theorem sc__law_box : FnScope ["script", "cell"] ["script"] (defScope s__law_box) := ⟨rfl, rfl, rfl, by decide +kernel, rfl, by decide +kernel, by decide +kernel⟩
theorem Tx.d__law_take (T : Tx K mg) : FunD K "_law_take" "_law_take" (defArgs s__law_take) (defBody s__law_take) (defScope s__law_take) [] [] (a__law_take K) (fdOf K (a__law_take K)) := by
  obtain ⟨h, X, G, c⟩ := T.x
  exact c.def_ 15
theorem Tx.b__law_take (T : Tx K mg) : Binds K (fdOf K (a__law_take K)) ["box", "size"] [] := (T.d__law_take).bindsN fun _ _ _ _ _ _ us hl => match us, hl with | [_, _], _ => rfl
theorem sc__law_take : FnScope ["box", "size", "at", "got", "cell"] ["box", "size"] (defScope s__law_take) := ⟨rfl, rfl, rfl, by decide +kernel, rfl, by decide +kernel, by decide +kernel⟩
theorem Tx.d__law_gcd (T : Tx K mg) : FunD K "_law_gcd" "_law_gcd" (defArgs s__law_gcd) (defBody s__law_gcd) (defScope s__law_gcd) [] [] (a__law_gcd K) (fdOf K (a__law_gcd K)) := by
  obtain ⟨h, X, G, c⟩ := T.x
  exact c.def_ 16
theorem Tx.b__law_gcd (T : Tx K mg) : Binds K (fdOf K (a__law_gcd K)) ["one", "other"] [] := (T.d__law_gcd).bindsN fun _ _ _ _ _ _ us hl => match us, hl with | [_, _], _ => rfl
theorem sc__law_gcd : FnScope ["one", "other", "rest"] ["one", "other"] (defScope s__law_gcd) := ⟨rfl, rfl, rfl, by decide +kernel, rfl, by decide +kernel, by decide +kernel⟩
theorem Tx.d__law_lowest (T : Tx K mg) : FunD K "_law_lowest" "_law_lowest" (defArgs s__law_lowest) (defBody s__law_lowest) (defScope s__law_lowest) [] [] (a__law_lowest K) (fdOf K (a__law_lowest K)) := by
  obtain ⟨h, X, G, c⟩ := T.x
  exact c.def_ 17
theorem Tx.b__law_lowest (T : Tx K mg) : Binds K (fdOf K (a__law_lowest K)) ["top", "bottom"] [] := (T.d__law_lowest).bindsN fun _ _ _ _ _ _ us hl => match us, hl with | [_, _], _ => rfl
theorem sc__law_lowest : FnScope ["top", "bottom", "shared"] ["top", "bottom"] (defScope s__law_lowest) := ⟨rfl, rfl, rfl, by decide +kernel, rfl, by decide +kernel, by decide +kernel⟩
theorem Tx.d__law_digits (T : Tx K mg) : FunD K "_law_digits" "_law_digits" (defArgs s__law_digits) (defBody s__law_digits) (defScope s__law_digits) [] [] (a__law_digits K) (fdOf K (a__law_digits K)) := by
  obtain ⟨h, X, G, c⟩ := T.x
  exact c.def_ 18
theorem Tx.b__law_digits (T : Tx K mg) : Binds K (fdOf K (a__law_digits K)) ["box", "parts"] [] := (T.d__law_digits).bindsN fun _ _ _ _ _ _ us hl => match us, hl with | [_, _], _ => rfl
theorem sc__law_digits : FnScope ["box", "parts", "number", "part"] ["box", "parts"] (defScope s__law_digits) := ⟨rfl, rfl, rfl, by decide +kernel, rfl, by decide +kernel, by decide +kernel⟩
theorem Tx.d__law_signed (T : Tx K mg) : FunD K "_law_signed" "_law_signed" (defArgs s__law_signed) (defBody s__law_signed) (defScope s__law_signed) [] [] (a__law_signed K) (fdOf K (a__law_signed K)) := by
  obtain ⟨h, X, G, c⟩ := T.x
  exact c.def_ 19
theorem Tx.b__law_signed (T : Tx K mg) : Binds K (fdOf K (a__law_signed K)) ["pair", "turn"] [] := (T.d__law_signed).bindsN fun _ _ _ _ _ _ us hl => match us, hl with | [_, _], _ => rfl
theorem sc__law_signed : FnScope ["pair", "turn"] ["pair", "turn"] (defScope s__law_signed) := ⟨rfl, rfl, rfl, by decide +kernel, rfl, by decide +kernel, by decide +kernel⟩
theorem Tx.d__law_near (T : Tx K mg) : FunD K "_law_near" "_law_near" (defArgs s__law_near) (defBody s__law_near) (defScope s__law_near) [] [] (a__law_near K) (fdOf K (a__law_near K)) := by
  obtain ⟨h, X, G, c⟩ := T.x
  exact c.def_ 20
theorem Tx.b__law_near (T : Tx K mg) : Binds K (fdOf K (a__law_near K)) ["box", "near", "way", "turn"] [] := (T.d__law_near).bindsN fun _ _ _ _ _ _ us hl => match us, hl with | [_, _, _, _], _ => rfl
theorem sc__law_near : FnScope ["box", "near", "way", "turn", "top", "bottom", "factor"] ["box", "near", "way", "turn"] (defScope s__law_near) := ⟨rfl, rfl, rfl, by decide +kernel, rfl, by decide +kernel, by decide +kernel⟩
theorem Tx.d__law_pair (T : Tx K mg) : FunD K "_law_pair" "_law_pair" (defArgs s__law_pair) (defBody s__law_pair) (defScope s__law_pair) [] [] (a__law_pair K) (fdOf K (a__law_pair K)) := by
  obtain ⟨h, X, G, c⟩ := T.x
  exact c.def_ 21
theorem Tx.b__law_pair (T : Tx K mg) : Binds K (fdOf K (a__law_pair K)) ["box", "dues"] [] := (T.d__law_pair).bindsN fun _ _ _ _ _ _ us hl => match us, hl with | [_, _], _ => rfl
theorem sc__law_pair : FnScope ["box", "dues", "way", "turn", "near", "factor", "pair"] ["box", "dues"] (defScope s__law_pair) := ⟨rfl, rfl, rfl, by decide +kernel, rfl, by decide +kernel, by decide +kernel⟩
theorem Tx.d__law_made (T : Tx K mg) : FunD K "_law_made" "_law_made" (defArgs s__law_made) (defBody s__law_made) (defScope s__law_made) [] [] (a__law_made K) (fdOf K (a__law_made K)) := by
  obtain ⟨h, X, G, c⟩ := T.x
  exact c.def_ 22
theorem Tx.b__law_made (T : Tx K mg) : Binds K (fdOf K (a__law_made K)) ["box", "pair"] [] := (T.d__law_made).bindsN fun _ _ _ _ _ _ us hl => match us, hl with | [_, _], _ => rfl
theorem sc__law_made : FnScope ["box", "pair", "way"] ["box", "pair"] (defScope s__law_made) := ⟨rfl, rfl, rfl, by decide +kernel, rfl, by decide +kernel, by decide +kernel⟩
theorem Tx.d__law_whole (T : Tx K mg) : FunD K "_law_whole" "_law_whole" (defArgs s__law_whole) (defBody s__law_whole) (defScope s__law_whole) [] [] (a__law_whole K) (fdOf K (a__law_whole K)) := by
  obtain ⟨h, X, G, c⟩ := T.x
  exact c.def_ 23
theorem Tx.b__law_whole (T : Tx K mg) : Binds K (fdOf K (a__law_whole K)) ["thing"] [] := (T.d__law_whole).bindsN fun _ _ _ _ _ _ us hl => match us, hl with | [_], _ => rfl
theorem sc__law_whole : FnScope ["thing"] ["thing"] (defScope s__law_whole) := ⟨rfl, rfl, rfl, by decide +kernel, rfl, by decide +kernel, by decide +kernel⟩
theorem Tx.d__law_is (T : Tx K mg) : FunD K "_law_is" "_law_is" (defArgs s__law_is) (defBody s__law_is) (defScope s__law_is) [] [] (a__law_is K) (fdOf K (a__law_is K)) := by
  obtain ⟨h, X, G, c⟩ := T.x
  exact c.def_ 24
theorem Tx.b__law_is (T : Tx K mg) : Binds K (fdOf K (a__law_is K)) ["told", "due"] [] := (T.d__law_is).bindsN fun _ _ _ _ _ _ us hl => match us, hl with | [_, _], _ => rfl
theorem sc__law_is : FnScope ["told", "due"] ["told", "due"] (defScope s__law_is) := ⟨rfl, rfl, rfl, by decide +kernel, rfl, by decide +kernel, by decide +kernel⟩
theorem Tx.d__law_zero_refused (T : Tx K mg) : FunD K "_law_zero_refused" "_law_zero_refused" (defArgs s__law_zero_refused) (defBody s__law_zero_refused) (defScope s__law_zero_refused) [] [] (a__law_zero_refused K) (fdOf K (a__law_zero_refused K)) := by
  obtain ⟨h, X, G, c⟩ := T.x
  exact c.def_ 25
theorem Tx.b__law_zero_refused (T : Tx K mg) : Binds K (fdOf K (a__law_zero_refused K)) ["top"] [] := (T.d__law_zero_refused).bindsN fun _ _ _ _ _ _ us hl => match us, hl with | [_], _ => rfl
theorem sc__law_zero_refused : FnScope ["top", "e"] ["top"] (defScope s__law_zero_refused) := ⟨rfl, rfl, rfl, by decide +kernel, rfl, by decide +kernel, by decide +kernel⟩
theorem Tx.d__law_over_right (T : Tx K mg) : FunD K "_law_over_right" "_law_over_right" (defArgs s__law_over_right) (defBody s__law_over_right) (defScope s__law_over_right) [] [] (a__law_over_right K) (fdOf K (a__law_over_right K)) := by
  obtain ⟨h, X, G, c⟩ := T.x
  exact c.def_ 26
theorem Tx.b__law_over_right (T : Tx K mg) : Binds K (fdOf K (a__law_over_right K)) ["one", "other", "first", "second"] [] := (T.d__law_over_right).bindsN fun _ _ _ _ _ _ us hl => match us, hl with | [_, _, _, _], _ => rfl
theorem sc__law_over_right : FnScope ["one", "other", "first", "second", "told"] ["one", "other", "first", "second"] (defScope s__law_over_right) := ⟨rfl, rfl, rfl, by decide +kernel, rfl, by decide +kernel, by decide +kernel⟩
theorem Tx.d__law_pair_right (T : Tx K mg) : FunD K "_law_pair_right" "_law_pair_right" (defArgs s__law_pair_right) (defBody s__law_pair_right) (defScope s__law_pair_right) [] [] (a__law_pair_right K) (fdOf K (a__law_pair_right K)) := by
  obtain ⟨h, X, G, c⟩ := T.x
  exact c.def_ 27
theorem Tx.b__law_pair_right (T : Tx K mg) : Binds K (fdOf K (a__law_pair_right K)) ["one", "other", "first", "second"] [] := (T.d__law_pair_right).bindsN fun _ _ _ _ _ _ us hl => match us, hl with | [_, _, _, _], _ => rfl
theorem sc__law_pair_right : FnScope ["one", "other", "first", "second", "left", "right", "bottom", "told"] ["one", "other", "first", "second"] (defScope s__law_pair_right) := ⟨rfl, rfl, rfl, by decide +kernel, rfl, by decide +kernel, by decide +kernel⟩
theorem Tx.d__law_text (T : Tx K mg) : FunD K "_law_text" "_law_text" (defArgs s__law_text) (defBody s__law_text) (defScope s__law_text) [] [] (a__law_text K) (fdOf K (a__law_text K)) := by
  obtain ⟨h, X, G, c⟩ := T.x
  exact c.def_ 28
theorem Tx.b__law_text (T : Tx K mg) : Binds K (fdOf K (a__law_text K)) ["due"] [] := (T.d__law_text).bindsN fun _ _ _ _ _ _ us hl => match us, hl with | [_], _ => rfl
theorem sc__law_text : FnScope ["due"] ["due"] (defScope s__law_text) := ⟨rfl, rfl, rfl, by decide +kernel, rfl, by decide +kernel, by decide +kernel⟩
theorem Tx.d__law_one_right (T : Tx K mg) : FunD K "_law_one_right" "_law_one_right" (defArgs s__law_one_right) (defBody s__law_one_right) (defScope s__law_one_right) [] [] (a__law_one_right K) (fdOf K (a__law_one_right K)) := by
  obtain ⟨h, X, G, c⟩ := T.x
  exact c.def_ 29
theorem Tx.b__law_one_right (T : Tx K mg) : Binds K (fdOf K (a__law_one_right K)) ["one", "due"] [] := (T.d__law_one_right).bindsN fun _ _ _ _ _ _ us hl => match us, hl with | [_, _], _ => rfl
theorem sc__law_one_right : FnScope ["one", "due", "text", "strange"] ["one", "due"] (defScope s__law_one_right) := ⟨rfl, rfl, rfl, by decide +kernel, rfl, by decide +kernel, by decide +kernel⟩
theorem Tx.d__law_run_right (T : Tx K mg) : FunD K "_law_run_right" "_law_run_right" (defArgs s__law_run_right) (defBody s__law_run_right) (defScope s__law_run_right) [] [] (a__law_run_right K) (fdOf K (a__law_run_right K)) := by
  obtain ⟨h, X, G, c⟩ := T.x
  exact c.def_ 30
theorem Tx.b__law_run_right (T : Tx K mg) : Binds K (fdOf K (a__law_run_right K)) ["box", "made", "dues"] [] := (T.d__law_run_right).bindsN fun _ _ _ _ _ _ us hl => match us, hl with | [_, _, _], _ => rfl
theorem sc__law_run_right : FnScope ["box", "made", "dues", "told", "due", "step", "at", "way", "top", "bottom"] ["box", "made", "dues"] (defScope s__law_run_right) := ⟨rfl, rfl, rfl, by decide +kernel, rfl, by decide +kernel, by decide +kernel⟩
theorem Tx.d__law_is_number (T : Tx K mg) : FunD K "_law_is_number" "_law_is_number" (defArgs s__law_is_number) (defBody s__law_is_number) (defScope s__law_is_number) [] [] (a__law_is_number K) (fdOf K (a__law_is_number K)) := by
  obtain ⟨h, X, G, c⟩ := T.x
  exact c.def_ 31
theorem Tx.b__law_is_number (T : Tx K mg) : Binds K (fdOf K (a__law_is_number K)) ["word"] [] := (T.d__law_is_number).bindsN fun _ _ _ _ _ _ us hl => match us, hl with | [_], _ => rfl
theorem sc__law_is_number : FnScope ["word", "sign"] ["word"] (defScope s__law_is_number) := ⟨rfl, rfl, rfl, by decide +kernel, rfl, by decide +kernel, by decide +kernel⟩
theorem Tx.d__law_read (T : Tx K mg) : FunD K "_law_read" "_law_read" (defArgs s__law_read) (defBody s__law_read) (defScope s__law_read) [] [] (a__law_read K) (fdOf K (a__law_read K)) := by
  obtain ⟨h, X, G, c⟩ := T.x
  exact c.def_ 32
theorem Tx.b__law_read (T : Tx K mg) : Binds K (fdOf K (a__law_read K)) ["text"] [] := (T.d__law_read).bindsN fun _ _ _ _ _ _ us hl => match us, hl with | [_], _ => rfl
theorem sc__law_read : FnScope ["text", "body", "words", "top", "bottom"] ["text"] (defScope s__law_read) := ⟨rfl, rfl, rfl, by decide +kernel, rfl, by decide +kernel, by decide +kernel⟩
theorem Tx.d__law_read_right (T : Tx K mg) : FunD K "_law_read_right" "_law_read_right" (defArgs s__law_read_right) (defBody s__law_read_right) (defScope s__law_read_right) [] [] (a__law_read_right K) (fdOf K (a__law_read_right K)) := by
  obtain ⟨h, X, G, c⟩ := T.x
  exact c.def_ 33
theorem Tx.b__law_read_right (T : Tx K mg) : Binds K (fdOf K (a__law_read_right K)) ["text"] [] := (T.d__law_read_right).bindsN fun _ _ _ _ _ _ us hl => match us, hl with | [_], _ => rfl
theorem sc__law_read_right : FnScope ["text", "due", "told", "e"] ["text"] (defScope s__law_read_right) := ⟨rfl, rfl, rfl, by decide +kernel, rfl, by decide +kernel, by decide +kernel⟩
theorem Tx.d__law_long (T : Tx K mg) : FunD K "_law_long" "_law_long" (defArgs s__law_long) (defBody s__law_long) (defScope s__law_long) [] [] (a__law_long K) (fdOf K (a__law_long K)) := by
  obtain ⟨h, X, G, c⟩ := T.x
  exact c.def_ 34
theorem Tx.b__law_long (T : Tx K mg) : Binds K (fdOf K (a__law_long K)) ["box"] [] := (T.d__law_long).bindsN fun _ _ _ _ _ _ us hl => match us, hl with | [_], _ => rfl
theorem sc__law_long : FnScope ["box", "digits", "part", "length", "minus", "cut", "text"] ["box"] (defScope s__law_long) := ⟨rfl, rfl, rfl, by decide +kernel, rfl, by decide +kernel, by decide +kernel⟩
theorem Tx.d__law_bent (T : Tx K mg) : FunD K "_law_bent" "_law_bent" (defArgs s__law_bent) (defBody s__law_bent) (defScope s__law_bent) [] [] (a__law_bent K) (fdOf K (a__law_bent K)) := by
  obtain ⟨h, X, G, c⟩ := T.x
  exact c.def_ 35
theorem Tx.b__law_bent (T : Tx K mg) : Binds K (fdOf K (a__law_bent K)) ["box", "text"] [] := (T.d__law_bent).bindsN fun _ _ _ _ _ _ us hl => match us, hl with | [_, _], _ => rfl
theorem sc__law_bent : FnScope ["box", "text", "signs", "way", "at", "sign", "end"] ["box", "text"] (defScope s__law_bent) := ⟨rfl, rfl, rfl, by decide +kernel, rfl, by decide +kernel, by decide +kernel⟩
theorem Tx.d__law_texts (T : Tx K mg) : FunD K "_law_texts" "_law_texts" (defArgs s__law_texts) (defBody s__law_texts) (defScope s__law_texts) [] [] (a__law_texts K) (fdOf K (a__law_texts K)) := by
  obtain ⟨h, X, G, c⟩ := T.x
  exact c.def_ 36
theorem Tx.b__law_texts (T : Tx K mg) : Binds K (fdOf K (a__law_texts K)) ["box", "dues"] [] := (T.d__law_texts).bindsN fun _ _ _ _ _ _ us hl => match us, hl with | [_, _], _ => rfl
theorem sc__law_texts : FnScope ["box", "dues", "texts", "due", "plain", "k", "text", "turn", "factor", "odd", "digit"] ["box", "dues"] (defScope s__law_texts) := ⟨rfl, rfl, rfl, by decide +kernel, rfl, by decide +kernel, by decide +kernel⟩
theorem Tx.d__law_kinds (T : Tx K mg) : FunD K "_law_kinds" "_law_kinds" (defArgs s__law_kinds) (defBody s__law_kinds) (defScope s__law_kinds) [] [] (a__law_kinds K) (fdOf K (a__law_kinds K)) := by
  obtain ⟨h, X, G, c⟩ := T.x
  exact c.def_ 37
theorem Tx.b__law_kinds (T : Tx K mg) : Binds K (fdOf K (a__law_kinds K)) ["e"] [] := (T.d__law_kinds).bindsN fun _ _ _ _ _ _ us hl => match us, hl with | [_], _ => rfl
theorem sc__law_kinds : FnScope ["e", "row"] ["e"] (defScope s__law_kinds) := ⟨rfl, rfl, rfl, by decide +kernel, rfl, by decide +kernel, by decide +kernel⟩
theorem Tx.d__law_alone (T : Tx K mg) : FunD K "_law_alone" "_law_alone" (defArgs s__law_alone) (defBody s__law_alone) (defScope s__law_alone) [] [] (a__law_alone K) (fdOf K (a__law_alone K)) := by
  obtain ⟨h, X, G, c⟩ := T.x
  exact c.def_ 38
theorem Tx.b__law_alone (T : Tx K mg) : Binds K (fdOf K (a__law_alone K)) ["e", "place"] [] := (T.d__law_alone).bindsN fun _ _ _ _ _ _ us hl => match us, hl with | [_, _], _ => rfl
theorem sc__law_alone : FnScope ["e", "place", "k"] ["e", "place"] (defScope s__law_alone) := ⟨rfl, rfl, rfl, by decide +kernel, rfl, by decide +kernel, by decide +kernel⟩
theorem Tx.d__law_errors_right (T : Tx K mg) : FunD K "_law_errors_right" "_law_errors_right" (defArgs s__law_errors_right) (defBody s__law_errors_right) (defScope s__law_errors_right) [] [] (a__law_errors_right K) (fdOf K (a__law_errors_right K)) := by
  obtain ⟨h, X, G, c⟩ := T.x
  exact c.def_ 39
theorem Tx.b__law_errors_right (T : Tx K mg) : Binds K (fdOf K (a__law_errors_right K)) ["number", "word", "made"] [] := (T.d__law_errors_right).bindsN fun _ _ _ _ _ _ us hl => match us, hl with | [_, _, _], _ => rfl
theorem sc__law_errors_right : FnScope ["number", "word", "made", "hedge", "row", "k"] ["number", "word", "made"] (defScope s__law_errors_right) := ⟨rfl, rfl, rfl, by decide +kernel, rfl, by decide +kernel, by decide +kernel⟩
theorem Tx.d_law (T : Tx K mg) : FunD K "law" "law" (defArgs s_law) (defBody s_law) (defScope s_law) [] [] (a_law K) (fdOf K (a_law K)) := by
  obtain ⟨h, X, G, c⟩ := T.x
  exact c.def_ 40
theorem Tx.b_law (T : Tx K mg) : Binds K (fdOf K (a_law K)) ["script"] [] := (T.d_law).bindsN fun _ _ _ _ _ _ us hl => match us, hl with | [_], _ => rfl
theorem sc_law : FnScope ["script", "box", "made", "dues", "k", "pair", "j", "text", "word", "due"] ["script"] (defScope s_law) := ⟨rfl, rfl, rfl, by decide +kernel, rfl, by decide +kernel, by decide +kernel⟩
theorem Tx.d_InvalidRatio___init__ (T : Tx K mg) : FunC K file "__init__" "InvalidRatio.__init__" (defArgs s_InvalidRatio___init__) (defBody s_InvalidRatio___init__) (defScope s_InvalidRatio___init__) (a_InvalidRatio___init__ K) (c_InvalidRatio___init__ K) := by
  obtain ⟨h, X, G, c⟩ := T.x
  exact c.defC 0
theorem Tx.b_InvalidRatio___init__ (T : Tx K mg) : Binds K (fdOf K (a_InvalidRatio___init__ K)) ["self", "den"] [] := by
  obtain ⟨oc, od, kV, doc, pm, an, cdv, ct, osl, e, _⟩ := (T.d_InvalidRatio___init__).ex
  rw [e]
  exact .all fun us hl => match us, hl with | [_, _], _ => rfl
theorem sc_InvalidRatio___init__ : SupScope ["self", "den"] ["self", "den"] (defScope s_InvalidRatio___init__) := ⟨rfl, rfl, rfl, by decide +kernel, rfl, by decide +kernel, by decide +kernel, by decide +kernel, by decide +kernel, by decide +kernel⟩
theorem Tx.d_InvalidText___init__ (T : Tx K mg) : FunC K file "__init__" "InvalidText.__init__" (defArgs s_InvalidText___init__) (defBody s_InvalidText___init__) (defScope s_InvalidText___init__) (a_InvalidText___init__ K) (c_InvalidText___init__ K) := by
  obtain ⟨h, X, G, c⟩ := T.x
  exact c.defC 1
theorem Tx.b_InvalidText___init__ (T : Tx K mg) : Binds K (fdOf K (a_InvalidText___init__ K)) ["self", "text"] [] := by
  obtain ⟨oc, od, kV, doc, pm, an, cdv, ct, osl, e, _⟩ := (T.d_InvalidText___init__).ex
  rw [e]
  exact .all fun us hl => match us, hl with | [_, _], _ => rfl
theorem sc_InvalidText___init__ : SupScope ["self", "text"] ["self", "text"] (defScope s_InvalidText___init__) := ⟨rfl, rfl, rfl, by decide +kernel, rfl, by decide +kernel, by decide +kernel, by decide +kernel, by decide +kernel, by decide +kernel⟩
theorem Tx.d_InvalidTable___init__ (T : Tx K mg) : FunC K file "__init__" "InvalidTable.__init__" (defArgs s_InvalidTable___init__) (defBody s_InvalidTable___init__) (defScope s_InvalidTable___init__) (a_InvalidTable___init__ K) (c_InvalidTable___init__ K) := by
  obtain ⟨h, X, G, c⟩ := T.x
  exact c.defC 2
theorem Tx.b_InvalidTable___init__ (T : Tx K mg) : Binds K (fdOf K (a_InvalidTable___init__ K)) ["self", "part"] [] := by
  obtain ⟨oc, od, kV, doc, pm, an, cdv, ct, osl, e, _⟩ := (T.d_InvalidTable___init__).ex
  rw [e]
  exact .all fun us hl => match us, hl with | [_, _], _ => rfl
theorem sc_InvalidTable___init__ : SupScope ["self", "part"] ["self", "part"] (defScope s_InvalidTable___init__) := ⟨rfl, rfl, rfl, by decide +kernel, rfl, by decide +kernel, by decide +kernel, by decide +kernel, by decide +kernel, by decide +kernel⟩
theorem Tx.d_InvalidGraph___init__ (T : Tx K mg) : FunC K file "__init__" "InvalidGraph.__init__" (defArgs s_InvalidGraph___init__) (defBody s_InvalidGraph___init__) (defScope s_InvalidGraph___init__) (a_InvalidGraph___init__ K) (c_InvalidGraph___init__ K) := by
  obtain ⟨h, X, G, c⟩ := T.x
  exact c.defC 3
theorem Tx.b_InvalidGraph___init__ (T : Tx K mg) : Binds K (fdOf K (a_InvalidGraph___init__ K)) ["self", "part"] [] := by
  obtain ⟨oc, od, kV, doc, pm, an, cdv, ct, osl, e, _⟩ := (T.d_InvalidGraph___init__).ex
  rw [e]
  exact .all fun us hl => match us, hl with | [_, _], _ => rfl
theorem sc_InvalidGraph___init__ : SupScope ["self", "part"] ["self", "part"] (defScope s_InvalidGraph___init__) := ⟨rfl, rfl, rfl, by decide +kernel, rfl, by decide +kernel, by decide +kernel, by decide +kernel, by decide +kernel, by decide +kernel⟩
theorem Tx.d_InvalidModel___init__ (T : Tx K mg) : FunC K file "__init__" "InvalidModel.__init__" (defArgs s_InvalidModel___init__) (defBody s_InvalidModel___init__) (defScope s_InvalidModel___init__) (a_InvalidModel___init__ K) (c_InvalidModel___init__ K) := by
  obtain ⟨h, X, G, c⟩ := T.x
  exact c.defC 4
theorem Tx.b_InvalidModel___init__ (T : Tx K mg) : Binds K (fdOf K (a_InvalidModel___init__ K)) ["self", "name"] [] := by
  obtain ⟨oc, od, kV, doc, pm, an, cdv, ct, osl, e, _⟩ := (T.d_InvalidModel___init__).ex
  rw [e]
  exact .all fun us hl => match us, hl with | [_, _], _ => rfl
theorem sc_InvalidModel___init__ : SupScope ["self", "name"] ["self", "name"] (defScope s_InvalidModel___init__) := ⟨rfl, rfl, rfl, by decide +kernel, rfl, by decide +kernel, by decide +kernel, by decide +kernel, by decide +kernel, by decide +kernel⟩
theorem Tx.d_UnknownName___init__ (T : Tx K mg) : FunC K file "__init__" "UnknownName.__init__" (defArgs s_UnknownName___init__) (defBody s_UnknownName___init__) (defScope s_UnknownName___init__) (a_UnknownName___init__ K) (c_UnknownName___init__ K) := by
  obtain ⟨h, X, G, c⟩ := T.x
  exact c.defC 5
theorem Tx.b_UnknownName___init__ (T : Tx K mg) : Binds K (fdOf K (a_UnknownName___init__ K)) ["self", "name"] [] := by
  obtain ⟨oc, od, kV, doc, pm, an, cdv, ct, osl, e, _⟩ := (T.d_UnknownName___init__).ex
  rw [e]
  exact .all fun us hl => match us, hl with | [_, _], _ => rfl
theorem sc_UnknownName___init__ : SupScope ["self", "name"] ["self", "name"] (defScope s_UnknownName___init__) := ⟨rfl, rfl, rfl, by decide +kernel, rfl, by decide +kernel, by decide +kernel, by decide +kernel, by decide +kernel, by decide +kernel⟩
theorem Tx.d_InvalidFact___init__ (T : Tx K mg) : FunC K file "__init__" "InvalidFact.__init__" (defArgs s_InvalidFact___init__) (defBody s_InvalidFact___init__) (defScope s_InvalidFact___init__) (a_InvalidFact___init__ K) (c_InvalidFact___init__ K) := by
  obtain ⟨h, X, G, c⟩ := T.x
  exact c.defC 6
theorem Tx.b_InvalidFact___init__ (T : Tx K mg) : Binds K (fdOf K (a_InvalidFact___init__ K)) ["self", "name"] [] := by
  obtain ⟨oc, od, kV, doc, pm, an, cdv, ct, osl, e, _⟩ := (T.d_InvalidFact___init__).ex
  rw [e]
  exact .all fun us hl => match us, hl with | [_, _], _ => rfl
theorem sc_InvalidFact___init__ : SupScope ["self", "name"] ["self", "name"] (defScope s_InvalidFact___init__) := ⟨rfl, rfl, rfl, by decide +kernel, rfl, by decide +kernel, by decide +kernel, by decide +kernel, by decide +kernel, by decide +kernel⟩
theorem Tx.d_InvalidQuestion___init__ (T : Tx K mg) : FunC K file "__init__" "InvalidQuestion.__init__" (defArgs s_InvalidQuestion___init__) (defBody s_InvalidQuestion___init__) (defScope s_InvalidQuestion___init__) (a_InvalidQuestion___init__ K) (c_InvalidQuestion___init__ K) := by
  obtain ⟨h, X, G, c⟩ := T.x
  exact c.defC 7
theorem Tx.b_InvalidQuestion___init__ (T : Tx K mg) : Binds K (fdOf K (a_InvalidQuestion___init__ K)) ["self", "about"] [] := by
  obtain ⟨oc, od, kV, doc, pm, an, cdv, ct, osl, e, _⟩ := (T.d_InvalidQuestion___init__).ex
  rw [e]
  exact .all fun us hl => match us, hl with | [_, _], _ => rfl
theorem sc_InvalidQuestion___init__ : SupScope ["self", "about"] ["self", "about"] (defScope s_InvalidQuestion___init__) := ⟨rfl, rfl, rfl, by decide +kernel, rfl, by decide +kernel, by decide +kernel, by decide +kernel, by decide +kernel, by decide +kernel⟩
theorem Tx.d_InvalidPaper___init__ (T : Tx K mg) : FunC K file "__init__" "InvalidPaper.__init__" (defArgs s_InvalidPaper___init__) (defBody s_InvalidPaper___init__) (defScope s_InvalidPaper___init__) (a_InvalidPaper___init__ K) (c_InvalidPaper___init__ K) := by
  obtain ⟨h, X, G, c⟩ := T.x
  exact c.defC 8
theorem Tx.b_InvalidPaper___init__ (T : Tx K mg) : Binds K (fdOf K (a_InvalidPaper___init__ K)) ["self", "about"] [] := by
  obtain ⟨oc, od, kV, doc, pm, an, cdv, ct, osl, e, _⟩ := (T.d_InvalidPaper___init__).ex
  rw [e]
  exact .all fun us hl => match us, hl with | [_, _], _ => rfl
theorem sc_InvalidPaper___init__ : SupScope ["self", "about"] ["self", "about"] (defScope s_InvalidPaper___init__) := ⟨rfl, rfl, rfl, by decide +kernel, rfl, by decide +kernel, by decide +kernel, by decide +kernel, by decide +kernel, by decide +kernel⟩
theorem Tx.d_TooLarge___init__ (T : Tx K mg) : FunC K file "__init__" "TooLarge.__init__" (defArgs s_TooLarge___init__) (defBody s_TooLarge___init__) (defScope s_TooLarge___init__) (a_TooLarge___init__ K) (c_TooLarge___init__ K) := by
  obtain ⟨h, X, G, c⟩ := T.x
  exact c.defC 9
theorem Tx.b_TooLarge___init__ (T : Tx K mg) : Binds K (fdOf K (a_TooLarge___init__ K)) ["self", "limit"] [] := by
  obtain ⟨oc, od, kV, doc, pm, an, cdv, ct, osl, e, _⟩ := (T.d_TooLarge___init__).ex
  rw [e]
  exact .all fun us hl => match us, hl with | [_, _], _ => rfl
theorem sc_TooLarge___init__ : SupScope ["self", "limit"] ["self", "limit"] (defScope s_TooLarge___init__) := ⟨rfl, rfl, rfl, by decide +kernel, rfl, by decide +kernel, by decide +kernel, by decide +kernel, by decide +kernel, by decide +kernel⟩
theorem Tx.d_ZeroChance___init__ (T : Tx K mg) : FunC K file "__init__" "ZeroChance.__init__" (defArgs s_ZeroChance___init__) (defBody s_ZeroChance___init__) (defScope s_ZeroChance___init__) (a_ZeroChance___init__ K) (c_ZeroChance___init__ K) := by
  obtain ⟨h, X, G, c⟩ := T.x
  exact c.defC 10
theorem Tx.b_ZeroChance___init__ (T : Tx K mg) : Binds K (fdOf K (a_ZeroChance___init__ K)) ["self"] [] := by
  obtain ⟨oc, od, kV, doc, pm, an, cdv, ct, osl, e, _⟩ := (T.d_ZeroChance___init__).ex
  rw [e]
  exact .all fun us hl => match us, hl with | [_], _ => rfl
theorem sc_ZeroChance___init__ : SupScope ["self"] ["self"] (defScope s_ZeroChance___init__) := ⟨rfl, rfl, rfl, by decide +kernel, rfl, by decide +kernel, by decide +kernel, by decide +kernel, by decide +kernel, by decide +kernel⟩
theorem Tx.d_Untold___init__ (T : Tx K mg) : FunC K file "__init__" "Untold.__init__" (defArgs s_Untold___init__) (defBody s_Untold___init__) (defScope s_Untold___init__) (a_Untold___init__ K) (c_Untold___init__ K) := by
  obtain ⟨h, X, G, c⟩ := T.x
  exact c.defC 11
theorem Tx.b_Untold___init__ (T : Tx K mg) : Binds K (fdOf K (a_Untold___init__ K)) ["self", "hedge"] [] := by
  obtain ⟨oc, od, kV, doc, pm, an, cdv, ct, osl, e, _⟩ := (T.d_Untold___init__).ex
  rw [e]
  exact .all fun us hl => match us, hl with | [_, _], _ => rfl
theorem sc_Untold___init__ : SupScope ["self", "hedge"] ["self", "hedge"] (defScope s_Untold___init__) := ⟨rfl, rfl, rfl, by decide +kernel, rfl, by decide +kernel, by decide +kernel, by decide +kernel, by decide +kernel, by decide +kernel⟩
theorem Tx.d_Misfit___init__ (T : Tx K mg) : FunC K file "__init__" "Misfit.__init__" (defArgs s_Misfit___init__) (defBody s_Misfit___init__) (defScope s_Misfit___init__) (a_Misfit___init__ K) (c_Misfit___init__ K) := by
  obtain ⟨h, X, G, c⟩ := T.x
  exact c.defC 12
theorem Tx.b_Misfit___init__ (T : Tx K mg) : Binds K (fdOf K (a_Misfit___init__ K)) ["self", "prices"] [] := by
  obtain ⟨oc, od, kV, doc, pm, an, cdv, ct, osl, e, _⟩ := (T.d_Misfit___init__).ex
  rw [e]
  exact .all fun us hl => match us, hl with | [_, _], _ => rfl
theorem sc_Misfit___init__ : SupScope ["self", "prices"] ["self", "prices"] (defScope s_Misfit___init__) := ⟨rfl, rfl, rfl, by decide +kernel, rfl, by decide +kernel, by decide +kernel, by decide +kernel, by decide +kernel, by decide +kernel⟩
theorem Tx.d_InvalidDeed___init__ (T : Tx K mg) : FunC K file "__init__" "InvalidDeed.__init__" (defArgs s_InvalidDeed___init__) (defBody s_InvalidDeed___init__) (defScope s_InvalidDeed___init__) (a_InvalidDeed___init__ K) (c_InvalidDeed___init__ K) := by
  obtain ⟨h, X, G, c⟩ := T.x
  exact c.defC 13
theorem Tx.b_InvalidDeed___init__ (T : Tx K mg) : Binds K (fdOf K (a_InvalidDeed___init__ K)) ["self", "word"] [] := by
  obtain ⟨oc, od, kV, doc, pm, an, cdv, ct, osl, e, _⟩ := (T.d_InvalidDeed___init__).ex
  rw [e]
  exact .all fun us hl => match us, hl with | [_, _], _ => rfl
theorem sc_InvalidDeed___init__ : SupScope ["self", "word"] ["self", "word"] (defScope s_InvalidDeed___init__) := ⟨rfl, rfl, rfl, by decide +kernel, rfl, by decide +kernel, by decide +kernel, by decide +kernel, by decide +kernel, by decide +kernel⟩
theorem Tx.d_DeedRefused___init__ (T : Tx K mg) : FunC K file "__init__" "DeedRefused.__init__" (defArgs s_DeedRefused___init__) (defBody s_DeedRefused___init__) (defScope s_DeedRefused___init__) (a_DeedRefused___init__ K) (c_DeedRefused___init__ K) := by
  obtain ⟨h, X, G, c⟩ := T.x
  exact c.defC 14
theorem Tx.b_DeedRefused___init__ (T : Tx K mg) : Binds K (fdOf K (a_DeedRefused___init__ K)) ["self", "position"] [] := by
  obtain ⟨oc, od, kV, doc, pm, an, cdv, ct, osl, e, _⟩ := (T.d_DeedRefused___init__).ex
  rw [e]
  exact .all fun us hl => match us, hl with | [_, _], _ => rfl
theorem sc_DeedRefused___init__ : SupScope ["self", "position"] ["self", "position"] (defScope s_DeedRefused___init__) := ⟨rfl, rfl, rfl, by decide +kernel, rfl, by decide +kernel, by decide +kernel, by decide +kernel, by decide +kernel, by decide +kernel⟩
theorem Tx.d_InvalidJournal___init__ (T : Tx K mg) : FunC K file "__init__" "InvalidJournal.__init__" (defArgs s_InvalidJournal___init__) (defBody s_InvalidJournal___init__) (defScope s_InvalidJournal___init__) (a_InvalidJournal___init__ K) (c_InvalidJournal___init__ K) := by
  obtain ⟨h, X, G, c⟩ := T.x
  exact c.defC 15
theorem Tx.b_InvalidJournal___init__ (T : Tx K mg) : Binds K (fdOf K (a_InvalidJournal___init__ K)) ["self", "line"] [] := by
  obtain ⟨oc, od, kV, doc, pm, an, cdv, ct, osl, e, _⟩ := (T.d_InvalidJournal___init__).ex
  rw [e]
  exact .all fun us hl => match us, hl with | [_, _], _ => rfl
theorem sc_InvalidJournal___init__ : SupScope ["self", "line"] ["self", "line"] (defScope s_InvalidJournal___init__) := ⟨rfl, rfl, rfl, by decide +kernel, rfl, by decide +kernel, by decide +kernel, by decide +kernel, by decide +kernel, by decide +kernel⟩
end
end K00
namespace K00
open PySem PySem.Spec PyProof.Rows L2 L2.LX
open PySem.W (Frag)
section
variable {CX : CXT} {P : Program} {w : World} {K : Frag} {mg : Str → Option Value} {base : Heap}
abbrev anyV (_ : V) : Prop := True
theorem ok_InvalidRatio (T : Tx K mg) (hP : P.main.file = file) (hS : (P.main.scope.names.lookup ("super" : Str)).isSome = false) : FnOk P w K mg base CX 1 (a_InvalidRatio___init__ K) (fdOf K (a_InvalidRatio___init__ K)) ["self", "den"] (spErr (ga K "InvalidRatio") "den" okTxt) :=
  err1 (te := fun σ H Q => tJs [tC _, tFmt (tVar 1)] Str.empty σ H fun out H1 => Q (.str out) H1) (Tx.d_InvalidRatio___init__ T) sc_InvalidRatio___init__ (Tx.e_InvalidRatio T).2 (Tx.n_InvalidRatio T) hP hS (Tx.f_super T) rfl rfl (fun _ _ _ _ _ _ => pe_joined (PJ.cons pe_str (PJ.cons (pe_fmt (pv 1)) PJ.nil))) (fun a v H Q ok q => tj2 (by decide) (fun R r => tfmt_ok (i := 1) rfl ok fun y hy => r y (Nat.le_trans hy (by decide))) q) (by decide) (by decide) (by decide) (by decide)
theorem ok_InvalidText (T : Tx K mg) (hP : P.main.file = file) (hS : (P.main.scope.names.lookup ("super" : Str)).isSome = false) : FnOk P w K mg base CX 1 (a_InvalidText___init__ K) (fdOf K (a_InvalidText___init__ K)) ["self", "text"] (spErr (ga K "InvalidText") "text" okTxt) :=
  err1 (te := fun σ H Q => tJs [tC _, tFmtR (tVar 1)] Str.empty σ H fun out H1 => Q (.str out) H1) (Tx.d_InvalidText___init__ T) sc_InvalidText___init__ (Tx.e_InvalidText T).2 (Tx.n_InvalidText T) hP hS (Tx.f_super T) rfl rfl (fun _ _ _ _ _ _ => pe_joined (PJ.cons pe_str (PJ.cons (pe_fmtR (pv 1)) PJ.nil))) (fun a v H Q ok q => tj2 (by decide) (fun R r => tfmtR_ok (i := 1) rfl ok fun y hy => r y hy) q) (by decide) (by decide) (by decide) (by decide)
theorem ok_InvalidTable (T : Tx K mg) (hP : P.main.file = file) (hS : (P.main.scope.names.lookup ("super" : Str)).isSome = false) : FnOk P w K mg base CX 1 (a_InvalidTable___init__ K) (fdOf K (a_InvalidTable___init__ K)) ["self", "part"] (spErr (ga K "InvalidTable") "part" okTxt) :=
  err1 (te := fun σ H Q => tJs [tC _, tFmt (tVar 1)] Str.empty σ H fun out H1 => Q (.str out) H1) (Tx.d_InvalidTable___init__ T) sc_InvalidTable___init__ (Tx.e_InvalidTable T).2 (Tx.n_InvalidTable T) hP hS (Tx.f_super T) rfl rfl (fun _ _ _ _ _ _ => pe_joined (PJ.cons pe_str (PJ.cons (pe_fmt (pv 1)) PJ.nil))) (fun a v H Q ok q => tj2 (by decide) (fun R r => tfmt_ok (i := 1) rfl ok fun y hy => r y (Nat.le_trans hy (by decide))) q) (by decide) (by decide) (by decide) (by decide)
theorem ok_InvalidGraph (T : Tx K mg) (hP : P.main.file = file) (hS : (P.main.scope.names.lookup ("super" : Str)).isSome = false) : FnOk P w K mg base CX 1 (a_InvalidGraph___init__ K) (fdOf K (a_InvalidGraph___init__ K)) ["self", "part"] (spErr (ga K "InvalidGraph") "part" okTxt) :=
  err1 (te := fun σ H Q => tJs [tC _, tFmt (tVar 1)] Str.empty σ H fun out H1 => Q (.str out) H1) (Tx.d_InvalidGraph___init__ T) sc_InvalidGraph___init__ (Tx.e_InvalidGraph T).2 (Tx.n_InvalidGraph T) hP hS (Tx.f_super T) rfl rfl (fun _ _ _ _ _ _ => pe_joined (PJ.cons pe_str (PJ.cons (pe_fmt (pv 1)) PJ.nil))) (fun a v H Q ok q => tj2 (by decide) (fun R r => tfmt_ok (i := 1) rfl ok fun y hy => r y (Nat.le_trans hy (by decide))) q) (by decide) (by decide) (by decide) (by decide)
theorem ok_InvalidModel (T : Tx K mg) (hP : P.main.file = file) (hS : (P.main.scope.names.lookup ("super" : Str)).isSome = false) : FnOk P w K mg base CX 1 (a_InvalidModel___init__ K) (fdOf K (a_InvalidModel___init__ K)) ["self", "name"] (spErr (ga K "InvalidModel") "name" okTxt) :=
  err1 (te := fun σ H Q => tJs [tC _, tFmt (tVar 1)] Str.empty σ H fun out H1 => Q (.str out) H1) (Tx.d_InvalidModel___init__ T) sc_InvalidModel___init__ (Tx.e_InvalidModel T).2 (Tx.n_InvalidModel T) hP hS (Tx.f_super T) rfl rfl (fun _ _ _ _ _ _ => pe_joined (PJ.cons pe_str (PJ.cons (pe_fmt (pv 1)) PJ.nil))) (fun a v H Q ok q => tj2 (by decide) (fun R r => tfmt_ok (i := 1) rfl ok fun y hy => r y (Nat.le_trans hy (by decide))) q) (by decide) (by decide) (by decide) (by decide)
theorem ok_UnknownName (T : Tx K mg) (hP : P.main.file = file) (hS : (P.main.scope.names.lookup ("super" : Str)).isSome = false) : FnOk P w K mg base CX 1 (a_UnknownName___init__ K) (fdOf K (a_UnknownName___init__ K)) ["self", "name"] (spErr (ga K "UnknownName") "name" okTxt) :=
  err1 (te := fun σ H Q => tJs [tC _, tFmt (tVar 1)] Str.empty σ H fun out H1 => Q (.str out) H1) (Tx.d_UnknownName___init__ T) sc_UnknownName___init__ (Tx.e_UnknownName T).2 (Tx.n_UnknownName T) hP hS (Tx.f_super T) rfl rfl (fun _ _ _ _ _ _ => pe_joined (PJ.cons pe_str (PJ.cons (pe_fmt (pv 1)) PJ.nil))) (fun a v H Q ok q => tj2 (by decide) (fun R r => tfmt_ok (i := 1) rfl ok fun y hy => r y (Nat.le_trans hy (by decide))) q) (by decide) (by decide) (by decide) (by decide)
theorem ok_InvalidFact (T : Tx K mg) (hP : P.main.file = file) (hS : (P.main.scope.names.lookup ("super" : Str)).isSome = false) : FnOk P w K mg base CX 1 (a_InvalidFact___init__ K) (fdOf K (a_InvalidFact___init__ K)) ["self", "name"] (spErr (ga K "InvalidFact") "name" okTxt) :=
  err1 (te := fun σ H Q => tJs [tC _, tFmt (tVar 1), tC _] Str.empty σ H fun out H1 => Q (.str out) H1) (Tx.d_InvalidFact___init__ T) sc_InvalidFact___init__ (Tx.e_InvalidFact T).2 (Tx.n_InvalidFact T) hP hS (Tx.f_super T) rfl rfl (fun _ _ _ _ _ _ => pe_joined (PJ.cons pe_str (PJ.cons (pe_fmt (pv 1)) (PJ.cons pe_str PJ.nil)))) (fun a v H Q ok q => tj3 (by decide) (by decide) (fun R r => tfmt_ok (i := 1) rfl ok fun y hy => r y (Nat.le_trans hy (by decide))) q) (by decide) (by decide) (by decide) (by decide)
theorem ok_InvalidQuestion (T : Tx K mg) (hP : P.main.file = file) (hS : (P.main.scope.names.lookup ("super" : Str)).isSome = false) : FnOk P w K mg base CX 1 (a_InvalidQuestion___init__ K) (fdOf K (a_InvalidQuestion___init__ K)) ["self", "about"] (spErr (ga K "InvalidQuestion") "about" okTxt) :=
  err1 (te := fun σ H Q => tJs [tC _, tFmt (tVar 1)] Str.empty σ H fun out H1 => Q (.str out) H1) (Tx.d_InvalidQuestion___init__ T) sc_InvalidQuestion___init__ (Tx.e_InvalidQuestion T).2 (Tx.n_InvalidQuestion T) hP hS (Tx.f_super T) rfl rfl (fun _ _ _ _ _ _ => pe_joined (PJ.cons pe_str (PJ.cons (pe_fmt (pv 1)) PJ.nil))) (fun a v H Q ok q => tj2 (by decide) (fun R r => tfmt_ok (i := 1) rfl ok fun y hy => r y (Nat.le_trans hy (by decide))) q) (by decide) (by decide) (by decide) (by decide)
theorem ok_InvalidPaper (T : Tx K mg) (hP : P.main.file = file) (hS : (P.main.scope.names.lookup ("super" : Str)).isSome = false) : FnOk P w K mg base CX 1 (a_InvalidPaper___init__ K) (fdOf K (a_InvalidPaper___init__ K)) ["self", "about"] (spErr (ga K "InvalidPaper") "about" okTxt) :=
  err1 (te := fun σ H Q => tJs [tC _, tFmt (tVar 1)] Str.empty σ H fun out H1 => Q (.str out) H1) (Tx.d_InvalidPaper___init__ T) sc_InvalidPaper___init__ (Tx.e_InvalidPaper T).2 (Tx.n_InvalidPaper T) hP hS (Tx.f_super T) rfl rfl (fun _ _ _ _ _ _ => pe_joined (PJ.cons pe_str (PJ.cons (pe_fmt (pv 1)) PJ.nil))) (fun a v H Q ok q => tj2 (by decide) (fun R r => tfmt_ok (i := 1) rfl ok fun y hy => r y (Nat.le_trans hy (by decide))) q) (by decide) (by decide) (by decide) (by decide)
theorem ok_TooLarge (T : Tx K mg) (hP : P.main.file = file) (hS : (P.main.scope.names.lookup ("super" : Str)).isSome = false) : FnOk P w K mg base CX 1 (a_TooLarge___init__ K) (fdOf K (a_TooLarge___init__ K)) ["self", "limit"] (spErr (ga K "TooLarge") "limit" okTxt) :=
  err1 (te := fun σ H Q => tJs [tC _, tFmt (tVar 1)] Str.empty σ H fun out H1 => Q (.str out) H1) (Tx.d_TooLarge___init__ T) sc_TooLarge___init__ (Tx.e_TooLarge T).2 (Tx.n_TooLarge T) hP hS (Tx.f_super T) rfl rfl (fun _ _ _ _ _ _ => pe_joined (PJ.cons pe_str (PJ.cons (pe_fmt (pv 1)) PJ.nil))) (fun a v H Q ok q => tj2 (by decide) (fun R r => tfmt_ok (i := 1) rfl ok fun y hy => r y (Nat.le_trans hy (by decide))) q) (by decide) (by decide) (by decide) (by decide)
theorem ok_ZeroChance (T : Tx K mg) (hP : P.main.file = file) (hS : (P.main.scope.names.lookup ("super" : Str)).isSome = false) : FnOk P w K mg base CX 1 (a_ZeroChance___init__ K) (fdOf K (a_ZeroChance___init__ K)) ["self"] (spErr0 (ga K "ZeroChance")) :=
  err0 (te := tC _) (Tx.d_ZeroChance___init__ T) sc_ZeroChance___init__ (Tx.e_ZeroChance T).2 hP hS (Tx.f_super T) rfl rfl (fun _ _ _ _ _ _ => pe_str) (fun _ _ _ q => q _)
theorem ok_Untold (T : Tx K mg) (hP : P.main.file = file) (hS : (P.main.scope.names.lookup ("super" : Str)).isSome = false) : FnOk P w K mg base CX 1 (a_Untold___init__ K) (fdOf K (a_Untold___init__ K)) ["self", "hedge"] (spErr (ga K "Untold") "hedge" anyV) :=
  err1 (te := tC _) (Tx.d_Untold___init__ T) sc_Untold___init__ (Tx.e_Untold T).2 (Tx.n_Untold T) hP hS (Tx.f_super T) rfl rfl (fun _ _ _ _ _ _ => pe_str) (fun _ _ _ _ _ q => q _) (by decide) (by decide) (by decide) (by decide)
theorem ok_Misfit (T : Tx K mg) (hP : P.main.file = file) (hS : (P.main.scope.names.lookup ("super" : Str)).isSome = false) : FnOk P w K mg base CX 1 (a_Misfit___init__ K) (fdOf K (a_Misfit___init__ K)) ["self", "prices"] (spErr (ga K "Misfit") "prices" anyV) :=
  err1 (te := tC _) (Tx.d_Misfit___init__ T) sc_Misfit___init__ (Tx.e_Misfit T).2 (Tx.n_Misfit T) hP hS (Tx.f_super T) rfl rfl (fun _ _ _ _ _ _ => pe_str) (fun _ _ _ _ _ q => q _) (by decide) (by decide) (by decide) (by decide)
theorem ok_InvalidDeed (T : Tx K mg) (hP : P.main.file = file) (hS : (P.main.scope.names.lookup ("super" : Str)).isSome = false) : FnOk P w K mg base CX 1 (a_InvalidDeed___init__ K) (fdOf K (a_InvalidDeed___init__ K)) ["self", "word"] (spErr (ga K "InvalidDeed") "word" okTxt) :=
  err1 (te := fun σ H Q => tJs [tC _, tFmt (tVar 1)] Str.empty σ H fun out H1 => Q (.str out) H1) (Tx.d_InvalidDeed___init__ T) sc_InvalidDeed___init__ (Tx.e_InvalidDeed T).2 (Tx.n_InvalidDeed T) hP hS (Tx.f_super T) rfl rfl (fun _ _ _ _ _ _ => pe_joined (PJ.cons pe_str (PJ.cons (pe_fmt (pv 1)) PJ.nil))) (fun a v H Q ok q => tj2 (by decide) (fun R r => tfmt_ok (i := 1) rfl ok fun y hy => r y (Nat.le_trans hy (by decide))) q) (by decide) (by decide) (by decide) (by decide)
theorem ok_DeedRefused (T : Tx K mg) (hP : P.main.file = file) (hS : (P.main.scope.names.lookup ("super" : Str)).isSome = false) : FnOk P w K mg base CX 1 (a_DeedRefused___init__ K) (fdOf K (a_DeedRefused___init__ K)) ["self", "position"] (spErr (ga K "DeedRefused") "position" okTxt) :=
  err1 (te := fun σ H Q => tJs [tC _, tFmt (tVar 1), tC _] Str.empty σ H fun out H1 => Q (.str out) H1) (Tx.d_DeedRefused___init__ T) sc_DeedRefused___init__ (Tx.e_DeedRefused T).2 (Tx.n_DeedRefused T) hP hS (Tx.f_super T) rfl rfl (fun _ _ _ _ _ _ => pe_joined (PJ.cons pe_str (PJ.cons (pe_fmt (pv 1)) (PJ.cons pe_str PJ.nil)))) (fun a v H Q ok q => tj3 (by decide) (by decide) (fun R r => tfmt_ok (i := 1) rfl ok fun y hy => r y (Nat.le_trans hy (by decide))) q) (by decide) (by decide) (by decide) (by decide)
theorem ok_InvalidJournal (T : Tx K mg) (hP : P.main.file = file) (hS : (P.main.scope.names.lookup ("super" : Str)).isSome = false) : FnOk P w K mg base CX 1 (a_InvalidJournal___init__ K) (fdOf K (a_InvalidJournal___init__ K)) ["self", "line"] (spErr (ga K "InvalidJournal") "line" okTxt) :=
  err1 (te := fun σ H Q => tJs [tC _, tFmt (tVar 1), tC _] Str.empty σ H fun out H1 => Q (.str out) H1) (Tx.d_InvalidJournal___init__ T) sc_InvalidJournal___init__ (Tx.e_InvalidJournal T).2 (Tx.n_InvalidJournal T) hP hS (Tx.f_super T) rfl rfl (fun _ _ _ _ _ _ => pe_joined (PJ.cons pe_str (PJ.cons (pe_fmt (pv 1)) (PJ.cons pe_str PJ.nil)))) (fun a v H Q ok q => tj3 (by decide) (by decide) (fun R r => tfmt_ok (i := 1) rfl ok fun y hy => r y (Nat.le_trans hy (by decide))) q) (by decide) (by decide) (by decide) (by decide)
end
end K00
namespace K00
open PySem PySem.Spec PyProof.Rows L2 L2.LX
open PySem.W (Frag)
/-! plain: lowest terms -/
theorem lowN (n d : Int) (hd : d ≠ 0) : n.fdiv (if d < 0 then -((Nat.gcd n.natAbs d.natAbs : Nat) : Int) else ((Nat.gcd n.natAbs d.natAbs : Nat) : Int)) = (Rat.divInt n d).num := by
  rw [Rat.num_divInt]
  have hg : (d.gcd n : Nat) = Nat.gcd n.natAbs d.natAbs := by rw [Int.gcd_comm]; rfl
  rw [hg]
  have h1 : ((Nat.gcd n.natAbs d.natAbs : Nat) : Int) ∣ n := by
    have := Int.gcd_dvd_left n d
    exact this
  by_cases h : d < 0
  · rw [if_pos h, Int.sign_eq_neg_one_of_neg h, Int.fdiv_eq_ediv_of_dvd (Int.neg_dvd.mpr h1), Int.ediv_neg, Int.neg_one_mul, Int.neg_ediv_of_dvd h1]
  · rw [if_neg h, Int.sign_eq_one_of_pos (by omega), Int.one_mul, Int.fdiv_eq_ediv_of_dvd h1]
theorem lowD (n d : Int) (hd : d ≠ 0) : d.fdiv (if d < 0 then -((Nat.gcd n.natAbs d.natAbs : Nat) : Int) else ((Nat.gcd n.natAbs d.natAbs : Nat) : Int)) = ((Rat.divInt n d).den : Int) := by
  rw [Rat.den_divInt, if_neg hd]
  have hg : (d.gcd n : Nat) = Nat.gcd n.natAbs d.natAbs := by rw [Int.gcd_comm]; rfl
  rw [hg]
  have h1 : ((Nat.gcd n.natAbs d.natAbs : Nat) : Int) ∣ d := Int.gcd_dvd_right n d
  by_cases h : d < 0
  · rw [if_pos h, Int.fdiv_eq_ediv_of_dvd (Int.neg_dvd.mpr h1), Int.ediv_neg]
    have e : d = -(d.natAbs : Int) := by omega
    rw [Int.natCast_ediv]
    have h2 : ((Nat.gcd n.natAbs d.natAbs : Nat) : Int) ∣ (d.natAbs : Int) := Int.dvd_natAbs.mpr h1
    have z : d / ((Nat.gcd n.natAbs d.natAbs : Nat) : Int) = -((d.natAbs : Int) / ((Nat.gcd n.natAbs d.natAbs : Nat) : Int)) := by
      rw [← Int.neg_ediv_of_dvd h2, ← e]
    omega
  · rw [if_neg h, Int.fdiv_eq_ediv_of_dvd h1, Int.natCast_ediv]
    have e : d = (d.natAbs : Int) := by omega
    rw [← e]
/-! branches -/
theorem iT {b : Bool} {t u : Prop} (e : b = true) (h : t) : if b = true then t else u := by rw [if_pos e]; exact h
theorem iF {b : Bool} {t u : Prop} (e : b = false) (h : u) : if b = true then t else u := by rw [if_neg (by simp [e])]; exact h
theorem iB {b : Bool} {t u : Prop} (h : b = true → t) (h' : b = false → u) : if b = true then t else u := by
  cases b with
  | true => exact iT rfl (h rfl)
  | false => exact iF rfl (h' rfl)
theorem iD {p : Prop} [Decidable p] {t u : Prop} (h : p → t) (h' : ¬p → u) : if decide p = true then t else u := iB (fun e => h (of_decide_eq_true e)) fun e => h' (of_decide_eq_false e)
theorem iN {p : Prop} [Decidable p] {t u : Prop} (h : ¬p → t) (h' : p → u) : if (!decide p) = true then t else u := iB (fun e => h (by simpa using e)) fun e => h' (by simpa using e)
theorem iI {i j : Int} {t u : Prop} (h : i = j → t) (h' : i ≠ j → u) : if decide (V.int i = V.int j) = true then t else u := iD (fun e => h (V.int.inj e)) fun e => h' fun q => e (congrArg V.int q)
theorem iIn {i j : Int} {t u : Prop} (h : i ≠ j → t) (h' : i = j → u) : if (!decide (V.int i = V.int j)) = true then t else u := iN (fun e => h fun q => e (congrArg V.int q)) fun e => h' (V.int.inj e)
theorem iS {i j : Str} {t u : Prop} (h : i = j → t) (h' : i ≠ j → u) : if decide (V.str i = V.str j) = true then t else u := iD (fun e => h (V.str.inj e)) fun e => h' fun q => e (congrArg V.str q)
theorem iSn {i j : Str} {t u : Prop} (h : i ≠ j → t) (h' : i = j → u) : if (!decide (V.str i = V.str j)) = true then t else u := iN (fun e => h fun q => e (congrArg V.str q)) fun e => h' (V.str.inj e)
/-- small enough -/
abbrev sm (n : Nat) (i : Int) : Prop := i.natAbs < 2 ^ n
theorem sm.mono {n m : Nat} {i : Int} (h : sm n i) (hm : n ≤ m := by decide) : sm m i := Nat.lt_of_lt_of_le h (Nat.pow_le_pow_right (by decide) hm)
theorem sm.mul {n m : Nat} {i j : Int} (h : sm n i) (h' : sm m j) : sm (n + m) (i * j) := wide_lt h h'
theorem sm.add {n : Nat} {i j : Int} (h : sm n i) (h' : sm n j) : sm (n + 1) (i + j) := by
  have := Nat.pow_succ 2 n
  unfold sm at *
  omega
theorem sm.neg {n : Nat} {i : Int} (h : sm n i) : sm n (-i) := by unfold sm at *; omega
theorem sm.sub {n : Nat} {i j : Int} (h : sm n i) (h' : sm n j) : sm (n + 1) (i - j) := by
  have := Nat.pow_succ 2 n
  unfold sm at *
  omega
theorem sm.mulOk {n m : Nat} {i j : Int} (h : sm n i) (h' : sm m j) (h1 : n + m ≤ 900000 := by decide) : CMulW i j :=
  wide_mul (h.mono (Nat.le_succ n)) (h'.mono (Nat.le_succ m)) (Nat.succ_pos _) (Nat.succ_pos _) (by omega)
theorem sm.log {n : Nat} {i : Int} (h : sm n i) (h0 : 0 < n := by decide) : i.natAbs.log2 < n := PySem.Flt.log2_lt_of h0 h
structure rsm (n : Nat) (q : Rat) : Prop where
  num : sm n q.num
  den : sm n (q.den : Int)
theorem rsm.mono {n m : Nat} {q : Rat} (h : rsm n q) (hm : n ≤ m := by decide) : rsm m q := ⟨h.num.mono hm, h.den.mono hm⟩
theorem rsm.divInt {n : Nat} {i j : Int} (hi : sm n i) (hj : sm n j) (h0 : j ≠ 0) : rsm n (Rat.divInt i j) := by
  have hg : (0 : Nat) < Nat.gcd i.natAbs j.natAbs := Nat.gcd_pos_of_pos_right _ (by omega)
  have h1 := lowN i j h0
  have h2 : (Rat.divInt i j).den ≤ j.natAbs := by
    rw [Rat.den_divInt, if_neg h0]
    exact Nat.div_le_self ..
  have h3 : (Rat.divInt i j).num.natAbs ≤ i.natAbs := by
    rw [Rat.num_divInt]
    have hd : ((j.gcd i : Nat) : Int) ∣ j.sign * i := Int.dvd_mul_of_dvd_right (Int.gcd_dvd_right _ _)
    rw [Int.natAbs_ediv_of_dvd hd, Int.natAbs_mul, Int.natAbs_sign_of_ne_zero h0, Nat.one_mul]
    exact Nat.div_le_self ..
  refine ⟨Nat.lt_of_le_of_lt h3 hi, ?_⟩
  show ((Rat.divInt i j).den : Int).natAbs < 2 ^ n
  unfold sm at hj
  omega
/-! the heap: what is kept -/
abbrev Gr (H H' : Hp) : Prop := ∀ a o, H a = some o → H' a = some o
theorem Gr.refl (H : Hp) : Gr H H := fun _ _ h => h
theorem Gr.trans {H H1 H2 : Hp} (g : Gr H H1) (g' : Gr H1 H2) : Gr H H2 := fun a o h => g' a o (g a o h)
theorem Gr.upd {H H1 : Hp} {p : Addr} {o : HO} (g : Gr H H1) (n : H1 p = none) : Gr H (upd H1 p o) := fun a x h => by
  rw [upd_ne (ne_of_none (g a x h) n)]
  exact g a x h
theorem gr_make {H : Hp} {x dx : Addr} {o o1 o2 : HO} (h : H x = none) (h' : H dx = none) : Gr H (upd (upd (upd H dx o) x o1) x o2) := fun a z e => by
  have h1 := ne_of_none e h
  have h2 := ne_of_none e h'
  rw [upd_ne h1, upd_ne h1, upd_ne h2]
  exact e
/-- a ratio's fields -/
abbrev rf (q : Rat) : List (Str × V) := [("num", .int q.num), ("den", .int (q.den : Int))]
abbrev RA (C : Addr) (H : Hp) (a : Addr) (q : Rat) : Prop := ∃ dx, H a = some (.ins C dx (rf q))
theorem RA.gr {C : Addr} {H H' : Hp} {a : Addr} {q : Rat} (r : RA C H a q) (g : Gr H H') : RA C H' a q := by
  obtain ⟨dx, h⟩ := r
  exact ⟨dx, g _ _ h⟩
/-- raising an own error with one field -/
theorem mk1 {C : Addr} {fld : Str} {ok : V → Prop} {v : V} {H : Hp} {Q : XK} (h : ok v) (q : ∀ dx, H dx = none → Q (.ref C) (some dx) (upd H dx (.xd [(fld, v)]))) :
    ([v] : List V).length ≤ 1000 ∧ ∀ a, H a = none → spErr C fld ok (.ref a :: ([v] ++ [])) (upd H a (exo a C none))
      (fun v H2 => v = .non ∧ ((∃ (d : Addr) (fs : List (Str × V)), H2 a = some (exo a C (some d)) ∧ H2 d = some (exd d fs) ∧ H d = none ∧ Q (.ref C) (some d) (upd (del H2 a) d (.xd fs))) ∨ (H2 a = some (exo a C none) ∧ Q (.ref C) none (del H2 a)))) (fun _ _ _ => False) := by
  refine ⟨Nat.le_of_ble_eq_true rfl, fun a ha => ⟨a, v, rfl, upd_same, h, fun dx hd hne => ⟨rfl, .inl ⟨dx, [(fld, v)], upd_same, ?_, ?_, ?_⟩⟩⟩⟩
  · rw [upd_ne hne]
    exact upd_same
  · rw [upd_ne hne] at hd
    exact hd
  · rw [upd_ne hne] at hd
    have e : upd (del (upd (upd (upd H a (exo a C none)) dx (exd dx [(fld, v)])) a (exo a C (some dx))) a) dx (.xd [(fld, v)]) = upd H dx (.xd [(fld, v)]) := by
      funext b
      by_cases h1 : b = dx
      · rw [h1, upd_same, upd_same]
      · rw [upd_ne h1, upd_ne h1]
        by_cases h2 : b = a
        · rw [h2, del_same, ha]
        · rw [del_ne h2, upd_ne h2, upd_ne h1, upd_ne h2]
    rw [e]
    exact q dx hd
theorem mk0 {C : Addr} {H : Hp} {Q : XK} (q : Q (.ref C) none H) :
    ([] : List V).length ≤ 1000 ∧ ∀ a, H a = none → spErr0 C (.ref a :: ([] ++ [])) (upd H a (exo a C none))
      (fun v H2 => v = .non ∧ ((∃ (d : Addr) (fs : List (Str × V)), H2 a = some (exo a C (some d)) ∧ H2 d = some (exd d fs) ∧ H d = none ∧ Q (.ref C) (some d) (upd (del H2 a) d (.xd fs))) ∨ (H2 a = some (exo a C none) ∧ Q (.ref C) none (del H2 a)))) (fun _ _ _ => False) := by
  refine ⟨by decide, fun a ha => ⟨a, rfl, upd_same, rfl, .inr ⟨upd_same, ?_⟩⟩⟩
  have e : del (upd H a (exo a C none)) a = H := by
    funext b
    by_cases h2 : b = a
    · rw [h2, del_same, ha]
    · rw [del_ne h2, upd_ne h2]
  rw [e]
  exact q
structure Pg (P : Program) : Prop where
  h1 : P.main.file = file
  h2 : (P.main.scope.names.lookup ("super" : Str)).isSome = false
section
variable {P : Program} {w : World} {K : Frag} {mg : Str → Option Value} {base : Heap}
theorem bd_Ratio___init___2 (T : Tx K mg) : Vals [] [] ∧ Binds K (fdOf K (a_Ratio___init__ K)) ["self", "num", "den"] [] := by
  obtain ⟨ds, v, b⟩ : ∃ ds, Vals ([] : List V) ds ∧ Binds K (fdOf K (a_Ratio___init__ K)) ["self", "num", "den"] ds :=
    (T.d_Ratio___init__).binds1 (ps := ["self", "num", "den"]) 3 1 (by simp) rfl fun T0 kV doc pm an cdv ct us its hu hi => by
      match us, hu with
      | [_, _, _], _ => match its, hi with
        | [_], _ => exact ⟨_, rfl, rfl⟩
  cases v
  exact ⟨.nil, b⟩
theorem bd_Ratio___init___1 (T : Tx K mg) : ∃ ds, Vals [.int 1] ds ∧ Binds K (fdOf K (a_Ratio___init__ K)) ["self", "num", "den"] ds :=
  (T.d_Ratio___init__).binds1 (ps := ["self", "num", "den"]) 2 0 (by simp) rfl fun T0 kV doc pm an cdv ct us its hu hi => by
  match us, hu with
  | [_, _], _ => match its, hi with
    | [_], _ => exact ⟨_, rfl, rfl⟩
/-- Ratio(n, d) -/
def spInit (K : Frag) : Sp := fun vs H Q E => ∃ a dx n d, vs = [.ref a, .int n, .int d] ∧ H a = some (.ins (ga K "Ratio") dx []) ∧ sm 8100 n ∧ sm 8100 d ∧
  (d ≠ 0 → Q .non (upd H a (.ins (ga K "Ratio") dx (rf (Rat.divInt n d))))) ∧
  (d = 0 → ∀ e, H e = none → E (.ref (ga K "InvalidRatio")) (some e) (upd H e (.xd [("den", .int 0)])))
theorem ok_Ratio___init__ (T : Tx K mg) (G : Pg P) : FnOk P w K mg base (L2N.CX P w) 3 (a_Ratio___init__ K) (fdOf K (a_Ratio___init__ K)) ["self", "num", "den"] (spInit K) := by
  refine (T.d_Ratio___init__).ok sc_Ratio___init__ (fun vs H Q E h => ?_) (fun cdv A outer s H vs Q E hr h => ?_)
  · obtain ⟨a, dx, n, d, rfl, _⟩ := h
    rfl
  obtain ⟨a, dx, n, d, rfl, ha, hn, hd, q, qe⟩ := h
  refine ⟨_, (pss_cons (ps_if (pt_cmpR op_eq (pv 2) pe_int (nomark _)) (pss_one (L2N.ps_raise rfl (L2N.takes_of rfl rfl rfl rfl) (pmkN (Tx.e_InvalidRatio T).2.sup.oex (Tx.e_InvalidRatio T).2.init (Tx.e_InvalidRatio T).2.fn (ok_InvalidRatio T G.1 G.2) (hr.mono (by decide)) (Tx.b_InvalidRatio___init__ T) .nil pass0 rfl (Tx.e_InvalidRatio T).1 (pa_cons (pv 2) pa_nil))))
    pss_nil)
    (pss_cons (ps_set (i := 3) sc_Ratio___init__.nd rfl (Or.inl rfl) (pe_callBfun cr_gcd rfl (Tx.b_gcd T) (pa_cons (pv 1) (pa_cons (pv 2) pa_nil))))
    (pss_cons (ps_if (pt_cmpR op_lt (pv 2) pe_int (nomark _)) (pss_one (ps_set (i := 3) sc_Ratio___init__.nd rfl (Or.inl rfl) (pe_un un_neg (pv 3))))
    pss_nil)
    (pss_cons (ps_fld (pv 0) (pe_op op_fdivZ (pv 1) (pv 3)) rfl)
    (pss_one (ps_fld (pv 0) (pe_op op_fdivZ (pv 2) (pv 3)) rfl)))))), ?_⟩
  refine ⟨_, rfl, rfl, _, rfl, ?_⟩
  refine iI (fun h0 => ?_) fun h0 => ?_
  · rw [h0]
    refine ⟨_, rfl, ?_⟩
    exact mk1 (ok := okTxt) (Or.inr ⟨0, rfl, by decide⟩) fun e he => qe h0 e he
  · have hg0 : (0 : Nat) < Nat.gcd n.natAbs d.natAbs := Nat.gcd_pos_of_pos_right _ (by omega)
    have hg1 : Nat.gcd n.natAbs d.natAbs ≤ d.natAbs := Nat.gcd_le_right _ (by omega)
    have tail : ∀ g : Int, g ≠ 0 → sm 8100 g → g = (if d < 0 then -((Nat.gcd n.natAbs d.natAbs : Nat) : Int) else ((Nat.gcd n.natAbs d.natAbs : Nat) : Int)) →
      tSeq (sFld K (tVar 0) (tOp (rI CDivZ fun i j => V.int (i.fdiv j)) (tVar 1) (tVar 3)) "num") (sFld K (tVar 0) (tOp (rI CDivZ fun i j => V.int (i.fdiv j)) (tVar 2) (tVar 3)) "den")
        { nx := fun _ H' => Q .non H', rt := Q } [some (.ref a), some (.int n), some (.int d), some (.int g)] H := fun g g0 gs ge => by
      have cd : ∀ i : Int, CDivZ i g := fun i => ⟨g0, Nat.lt_of_lt_of_le (gs.log (by decide)) (by decide)⟩
      refine ⟨_, rfl, _, rfl, _, _, rfl, rfl, cd _, _, rfl, a, _, dx, _, rfl, ha, T.c_Ratio, T.n_Ratio_num, by decide, ?_⟩
      refine ⟨_, rfl, _, rfl, _, _, rfl, rfl, cd _, _, rfl, a, _, dx, _, rfl, upd_same, T.c_Ratio, T.n_Ratio_den, (by show 1 < 1000; decide), ?_⟩
      have h1 : Q .non (upd H a (.ins (ga K "Ratio") dx [("num", .int (Rat.divInt n d).num), ("den", .int ((Rat.divInt n d).den : Int))])) := q h0
      rw [← lowN n d h0, ← lowD n d h0, ← ge] at h1
      show Q .non (upd (upd H a _) a _)
      rw [upd_upd]
      exact h1
    refine ⟨_, rfl, _, rfl, n, d, rfl, ?_⟩
    refine ⟨_, rfl, _, _, rfl, rfl, _, rfl, ?_⟩
    refine iD (fun hlt => ?_) fun hlt => ?_
    · refine ⟨_, rfl, _, rfl, ?_⟩
      exact tail _ (by omega) (by unfold sm at *; omega) (by rw [if_pos hlt])
    · exact tail _ (by omega) (by unfold sm at *; omega) (by rw [if_neg hlt])
end
end K00
namespace K00
open PySem PySem.Spec PyProof.Rows L2 L2.LX
open PySem.W (Frag)
theorem str_empty (a : Str) : Str.empty ++ a = a := by
  obtain ⟨l⟩ := a
  show (⟨#[] ++ l⟩ : Str) = _
  simp
section
variable {P : Program} {w : World} {K : Frag} {mg : Str → Option Value} {base : Heap}
theorem mkRat {H : Hp} {n d : Int} {Q : VK} {E : XK} (hn : sm 8100 n) (hd : sm 8100 d) (h0 : d ≠ 0) (q : ∀ x H', Gr H H' → H x = none → RA (ga K "Ratio") H' x (Rat.divInt n d) → Q (.ref x) H') :
    ∀ x dx, H x = none → H dx = none → dx ≠ x → spInit K (.ref x :: ([.int n, .int d] ++ [])) (upd (upd H dx (.own x)) x (.ins (ga K "Ratio") dx [])) (fun v H2 => v = .non ∧ Q (.ref x) H2) E :=
  fun x dx hx hdx hne => ⟨x, dx, n, d, rfl, upd_same, hn, hd, fun _ => ⟨rfl, q x _ (gr_make hx hdx) hx ⟨dx, upd_same⟩⟩, fun h => absurd h h0⟩
theorem den0 (q : Rat) : (q.den : Int) ≠ 0 := by
  have := q.den_pos
  omega
/-- the sum, the difference, .. of two ratios -/
def spBin (K : Frag) (n d : Rat → Rat → Int) : Sp := fun vs H Q _ => ∃ a b p q, vs = [.ref a, .ref b] ∧ RA (ga K "Ratio") H a p ∧ RA (ga K "Ratio") H b q ∧ rsm 4000 p ∧ rsm 4000 q ∧ ∀ x H', Gr H H' → H x = none → RA (ga K "Ratio") H' x (Rat.divInt (n p q) (d p q)) → Q (.ref x) H'
theorem ok_Ratio___add__ (T : Tx K mg) (G : Pg P) : FnOk P w K mg base (L2N.CX P w) 5 (a_Ratio___add__ K) (fdOf K (a_Ratio___add__ K)) ["self", "other"] (spBin K (fun p q => p.num * q.den + q.num * p.den) (fun p q => p.den * q.den)) := by
  refine (T.d_Ratio___add__).ok sc_Ratio___add__ (fun vs H Q E h => ?_) (fun cdv A outer s H vs Q E hr h => ?_)
  · obtain ⟨a, b, p, q, rfl, _⟩ := h
    rfl
  obtain ⟨a, b, p, q, rfl, ⟨dx, ha⟩, ⟨dy, hb⟩, sp, sq, R⟩ := h
  refine ⟨_, (pss_one (ps_ret (pe_make (Tx.m_Ratio T) (ok_Ratio___init__ T G) (hr.mono (by decide)) rfl (Tx.g_Ratio T) (bd_Ratio___init___2 T).2 .nil passN0 (pa_cons (pe_op op_add (pe_op op_mulW (pe_fld (pv 0) rfl) (pe_fld (pv 1) rfl)) (pe_op op_mulW (pe_fld (pv 1) rfl) (pe_fld (pv 0) rfl))) (pa_cons (pe_op op_mulW (pe_fld (pv 0) rfl) (pe_fld (pv 1) rfl)) pa_nil))))), ?_⟩
  refine ⟨_, rfl, _, _, _, _, _, rfl, ha, T.c_Ratio, T.n_Ratio_num, rfl, _, rfl, _, _, _, _, _, rfl, hb, T.c_Ratio, T.n_Ratio_den, rfl, _, _, rfl, rfl, sp.num.mulOk sq.den, _, rfl, _, _, _, _, _, rfl, hb, T.c_Ratio, T.n_Ratio_num, rfl, _, rfl, _, _, _, _, _, rfl, ha, T.c_Ratio, T.n_Ratio_den, rfl, _, _, rfl, rfl, sq.num.mulOk sp.den, _, _, rfl, rfl, _, rfl, _, _, _, _, _, rfl, ha, T.c_Ratio, T.n_Ratio_den, rfl, _, rfl, _, _, _, _, _, rfl, hb, T.c_Ratio, T.n_Ratio_den, rfl, _, _, rfl, rfl, sp.den.mulOk sq.den, ?_⟩
  exact mkRat (((sp.num.mul sq.den).add (sq.num.mul sp.den)).mono (by decide)) ((sp.den.mul sq.den).mono (by decide)) (Int.mul_ne_zero (den0 p) (den0 q)) R
theorem ok_Ratio___sub__ (T : Tx K mg) (G : Pg P) : FnOk P w K mg base (L2N.CX P w) 5 (a_Ratio___sub__ K) (fdOf K (a_Ratio___sub__ K)) ["self", "other"] (spBin K (fun p q => p.num * q.den - q.num * p.den) (fun p q => p.den * q.den)) := by
  refine (T.d_Ratio___sub__).ok sc_Ratio___sub__ (fun vs H Q E h => ?_) (fun cdv A outer s H vs Q E hr h => ?_)
  · obtain ⟨a, b, p, q, rfl, _⟩ := h
    rfl
  obtain ⟨a, b, p, q, rfl, ⟨dx, ha⟩, ⟨dy, hb⟩, sp, sq, R⟩ := h
  refine ⟨_, (pss_one (ps_ret (pe_make (Tx.m_Ratio T) (ok_Ratio___init__ T G) (hr.mono (by decide)) rfl (Tx.g_Ratio T) (bd_Ratio___init___2 T).2 .nil passN0 (pa_cons (pe_op op_sub (pe_op op_mulW (pe_fld (pv 0) rfl) (pe_fld (pv 1) rfl)) (pe_op op_mulW (pe_fld (pv 1) rfl) (pe_fld (pv 0) rfl))) (pa_cons (pe_op op_mulW (pe_fld (pv 0) rfl) (pe_fld (pv 1) rfl)) pa_nil))))), ?_⟩
  refine ⟨_, rfl, _, _, _, _, _, rfl, ha, T.c_Ratio, T.n_Ratio_num, rfl, _, rfl, _, _, _, _, _, rfl, hb, T.c_Ratio, T.n_Ratio_den, rfl, _, _, rfl, rfl, sp.num.mulOk sq.den, _, rfl, _, _, _, _, _, rfl, hb, T.c_Ratio, T.n_Ratio_num, rfl, _, rfl, _, _, _, _, _, rfl, ha, T.c_Ratio, T.n_Ratio_den, rfl, _, _, rfl, rfl, sq.num.mulOk sp.den, _, _, rfl, rfl, _, rfl, _, _, _, _, _, rfl, ha, T.c_Ratio, T.n_Ratio_den, rfl, _, rfl, _, _, _, _, _, rfl, hb, T.c_Ratio, T.n_Ratio_den, rfl, _, _, rfl, rfl, sp.den.mulOk sq.den, ?_⟩
  exact mkRat (((sp.num.mul sq.den).sub (sq.num.mul sp.den)).mono (by decide)) ((sp.den.mul sq.den).mono (by decide)) (Int.mul_ne_zero (den0 p) (den0 q)) R
theorem ok_Ratio___mul__ (T : Tx K mg) (G : Pg P) : FnOk P w K mg base (L2N.CX P w) 5 (a_Ratio___mul__ K) (fdOf K (a_Ratio___mul__ K)) ["self", "other"] (spBin K (fun p q => p.num * q.num) (fun p q => p.den * q.den)) := by
  refine (T.d_Ratio___mul__).ok sc_Ratio___mul__ (fun vs H Q E h => ?_) (fun cdv A outer s H vs Q E hr h => ?_)
  · obtain ⟨a, b, p, q, rfl, _⟩ := h
    rfl
  obtain ⟨a, b, p, q, rfl, ⟨dx, ha⟩, ⟨dy, hb⟩, sp, sq, R⟩ := h
  refine ⟨_, (pss_one (ps_ret (pe_make (Tx.m_Ratio T) (ok_Ratio___init__ T G) (hr.mono (by decide)) rfl (Tx.g_Ratio T) (bd_Ratio___init___2 T).2 .nil passN0 (pa_cons (pe_op op_mulW (pe_fld (pv 0) rfl) (pe_fld (pv 1) rfl)) (pa_cons (pe_op op_mulW (pe_fld (pv 0) rfl) (pe_fld (pv 1) rfl)) pa_nil))))), ?_⟩
  refine ⟨_, rfl, _, _, _, _, _, rfl, ha, T.c_Ratio, T.n_Ratio_num, rfl, _, rfl, _, _, _, _, _, rfl, hb, T.c_Ratio, T.n_Ratio_num, rfl, _, _, rfl, rfl, sp.num.mulOk sq.num, _, rfl, _, _, _, _, _, rfl, ha, T.c_Ratio, T.n_Ratio_den, rfl, _, rfl, _, _, _, _, _, rfl, hb, T.c_Ratio, T.n_Ratio_den, rfl, _, _, rfl, rfl, sp.den.mulOk sq.den, ?_⟩
  exact mkRat ((sp.num.mul sq.num).mono (by decide)) ((sp.den.mul sq.den).mono (by decide)) (Int.mul_ne_zero (den0 p) (den0 q)) R
/-- of one ratio -/
def spUn (K : Frag) (g : Rat → Rat) : Sp := fun vs H Q _ => ∃ a p, vs = [.ref a] ∧ RA (ga K "Ratio") H a p ∧ rsm 4000 p ∧ ∀ x H', Gr H H' → H x = none → RA (ga K "Ratio") H' x (g p) → Q (.ref x) H'
theorem divInt_self (p : Rat) : Rat.divInt p.num (p.den : Int) = p := p.num_divInt_den
theorem divInt_neg' (p : Rat) : Rat.divInt (-p.num) (p.den : Int) = -p := by rw [← Rat.neg_divInt, divInt_self]
def absR (p : Rat) : Rat := if p.num < 0 then -p else p
theorem absR_num (p : Rat) : (absR p).num = if p.num < 0 then -p.num else p.num := by
  unfold absR
  split
  · rw [Rat.neg_num]
  · rfl
theorem absR_den (p : Rat) : (absR p).den = p.den := by
  unfold absR
  split
  · rw [Rat.neg_den]
  · rfl
theorem divInt_abs (p : Rat) : Rat.divInt (if p.num < 0 then -p.num else p.num) (p.den : Int) = absR p := by
  rw [← absR_num, ← absR_den, divInt_self]
theorem sm.abs {n : Nat} {i : Int} (h : sm n i) : sm n (if i < 0 then -i else i) := by
  split
  · exact h.neg
  · exact h
theorem ok_Ratio___neg__ (T : Tx K mg) (G : Pg P) : FnOk P w K mg base (L2N.CX P w) 5 (a_Ratio___neg__ K) (fdOf K (a_Ratio___neg__ K)) ["self"] (spUn K fun p => -p) := by
  refine (T.d_Ratio___neg__).ok sc_Ratio___neg__ (fun vs H Q E h => ?_) (fun cdv A outer s H vs Q E hr h => ?_)
  · obtain ⟨a, p, rfl, _⟩ := h
    rfl
  obtain ⟨a, p, rfl, ⟨dx, ha⟩, sp, R⟩ := h
  refine ⟨_, (pss_one (ps_ret (pe_make (Tx.m_Ratio T) (ok_Ratio___init__ T G) (hr.mono (by decide)) rfl (Tx.g_Ratio T) (bd_Ratio___init___2 T).2 .nil passN0 (pa_cons (pe_un un_neg (pe_fld (pv 0) rfl)) (pa_cons (pe_fld (pv 0) rfl) pa_nil))))), ?_⟩
  refine ⟨_, rfl, _, _, _, _, _, rfl, ha, T.c_Ratio, T.n_Ratio_num, rfl, _, rfl, _, rfl, _, _, _, _, _, rfl, ha, T.c_Ratio, T.n_Ratio_den, rfl, ?_⟩
  refine mkRat (sp.num.neg.mono (by decide)) (sp.den.mono (by decide)) (den0 p) ?_
  rw [divInt_neg']
  exact R
theorem ok_Ratio___abs__ (T : Tx K mg) (G : Pg P) : FnOk P w K mg base (L2N.CX P w) 5 (a_Ratio___abs__ K) (fdOf K (a_Ratio___abs__ K)) ["self"] (spUn K absR) := by
  refine (T.d_Ratio___abs__).ok sc_Ratio___abs__ (fun vs H Q E h => ?_) (fun cdv A outer s H vs Q E hr h => ?_)
  · obtain ⟨a, p, rfl, _⟩ := h
    rfl
  obtain ⟨a, p, rfl, ⟨dx, ha⟩, sp, R⟩ := h
  refine ⟨_, (pss_one (ps_ret (pe_make (Tx.m_Ratio T) (ok_Ratio___init__ T G) (hr.mono (by decide)) rfl (Tx.g_Ratio T) (bd_Ratio___init___2 T).2 .nil passN0 (pa_cons (pe_callB call_abs (by rfl) (Tx.f_abs T) (by decide +kernel) (pa_cons (pe_fld (pv 0) rfl) pa_nil)) (pa_cons (pe_fld (pv 0) rfl) pa_nil))))), ?_⟩
  refine ⟨_, rfl, _, _, _, _, _, rfl, ha, T.c_Ratio, T.n_Ratio_num, rfl, _, rfl, _, rfl, _, _, _, _, _, rfl, ha, T.c_Ratio, T.n_Ratio_den, rfl, ?_⟩
  refine mkRat (sp.num.abs.mono (by decide)) (sp.den.mono (by decide)) (den0 p) ?_
  rw [divInt_abs]
  exact R
/-- a.over(b) -/
def spOver (K : Frag) : Sp := fun vs H Q E => ∃ a b p q, vs = [.ref a, .ref b] ∧ RA (ga K "Ratio") H a p ∧ RA (ga K "Ratio") H b q ∧ rsm 4000 p ∧ rsm 4000 q ∧
  (q.num ≠ 0 → ∀ x H', Gr H H' → H x = none → RA (ga K "Ratio") H' x (Rat.divInt (p.num * q.den) (p.den * q.num)) → Q (.ref x) H') ∧ (q.num = 0 → E (.ref (ga K "ZeroChance")) none H)
theorem ok_Ratio_over (T : Tx K mg) (G : Pg P) : FnOk P w K mg base (L2N.CX P w) 5 (a_Ratio_over K) (fdOf K (a_Ratio_over K)) ["self", "other"] (spOver K) := by
  refine (T.d_Ratio_over).ok sc_Ratio_over (fun vs H Q E h => ?_) (fun cdv A outer s H vs Q E hr h => ?_)
  · obtain ⟨a, b, p, q, rfl, _⟩ := h
    rfl
  obtain ⟨a, b, p, q, rfl, ⟨dx, ha⟩, ⟨dy, hb⟩, sp, sq, R, R0⟩ := h
  refine ⟨_, (pss_cons (ps_if (pt_cmpR op_eq (pe_fld (pv 1) rfl) pe_int (nomark _)) (pss_one (L2N.ps_raise rfl (L2N.takes_of rfl rfl rfl rfl) (pmkN0 (Tx.e_ZeroChance T).2.sup.oex (Tx.e_ZeroChance T).2.init (Tx.e_ZeroChance T).2.fn (ok_ZeroChance T G.1 G.2) (hr.mono (by decide)) (Tx.b_ZeroChance___init__ T) .nil pass0 rfl (Tx.e_ZeroChance T).1 )))
    pss_nil)
    (pss_one (ps_ret (pe_make (Tx.m_Ratio T) (ok_Ratio___init__ T G) (hr.mono (by decide)) rfl (Tx.g_Ratio T) (bd_Ratio___init___2 T).2 .nil passN0 (pa_cons (pe_op op_mulW (pe_fld (pv 0) rfl) (pe_fld (pv 1) rfl)) (pa_cons (pe_op op_mulW (pe_fld (pv 0) rfl) (pe_fld (pv 1) rfl)) pa_nil)))))), ?_⟩
  refine ⟨_, rfl, _, _, _, _, _, rfl, hb, T.c_Ratio, T.n_Ratio_num, rfl, rfl, _, rfl, ?_⟩
  refine iI (fun h0 => ?_) fun h0 => ?_
  · exact mk0 (R0 h0)
  refine ⟨_, rfl, _, _, _, _, _, rfl, ha, T.c_Ratio, T.n_Ratio_num, rfl, _, rfl, _, _, _, _, _, rfl, hb, T.c_Ratio, T.n_Ratio_den, rfl, _, _, rfl, rfl, sp.num.mulOk sq.den, _, rfl, _, _, _, _, _, rfl, ha, T.c_Ratio, T.n_Ratio_den, rfl, _, rfl, _, _, _, _, _, rfl, hb, T.c_Ratio, T.n_Ratio_num, rfl, _, _, rfl, rfl, sp.den.mulOk sq.num, ?_⟩
  exact mkRat ((sp.num.mul sq.den).mono (by decide)) ((sp.den.mul sq.num).mono (by decide)) (Int.mul_ne_zero (den0 p) h0) (R h0)
/-- a.less(b) -/
def spLess (K : Frag) : Sp := fun vs H Q _ => ∃ a b p q, vs = [.ref a, .ref b] ∧ RA (ga K "Ratio") H a p ∧ RA (ga K "Ratio") H b q ∧ rsm 4000 p ∧ rsm 4000 q ∧ Q (.bl (decide (p.num * q.den < q.num * p.den))) H
theorem ok_Ratio_less (T : Tx K mg) (G : Pg P) : FnOk P w K mg base (L2N.CX P w) 5 (a_Ratio_less K) (fdOf K (a_Ratio_less K)) ["self", "other"] (spLess K) := by
  refine (T.d_Ratio_less).ok sc_Ratio_less (fun vs H Q E h => ?_) (fun cdv A outer s H vs Q E hr h => ?_)
  · obtain ⟨a, b, p, q, rfl, _⟩ := h
    rfl
  obtain ⟨a, b, p, q, rfl, ⟨dx, ha⟩, ⟨dy, hb⟩, sp, sq, R⟩ := h
  refine ⟨_, (pss_one (ps_ret (pe_cmpR op_lt (pe_op op_mulW (pe_fld (pv 0) rfl) (pe_fld (pv 1) rfl)) (pe_op op_mulW (pe_fld (pv 1) rfl) (pe_fld (pv 0) rfl)) (nomark _)))), ?_⟩
  refine ⟨_, rfl, _, _, _, _, _, rfl, ha, T.c_Ratio, T.n_Ratio_num, rfl, _, rfl, _, _, _, _, _, rfl, hb, T.c_Ratio, T.n_Ratio_den, rfl, _, _, rfl, rfl, sp.num.mulOk sq.den, _, rfl, _, _, _, _, _, rfl, hb, T.c_Ratio, T.n_Ratio_num, rfl, _, rfl, _, _, _, _, _, rfl, ha, T.c_Ratio, T.n_Ratio_den, rfl, _, _, rfl, rfl, sq.num.mulOk sp.den, _, _, rfl, rfl, ?_⟩
  exact R
/-- a == y -/
def spEq (K : Frag) : Sp := fun vs H Q _ => ∃ a p y, vs = [.ref a, y] ∧ RA (ga K "Ratio") H a p ∧ ((∃ b q, y = .ref b ∧ RA (ga K "Ratio") H b q ∧ Q (.bl (decide (p = q))) H) ∨ (∃ t, TyX K H y t ∧ PySem.W.kitOne K t (.ref (ga K "Ratio")) = some false ∧ Q (.bl false) H))
theorem ok_Ratio___eq__ (T : Tx K mg) (G : Pg P) : FnOk P w K mg base (L2N.CX P w) 5 (a_Ratio___eq__ K) (fdOf K (a_Ratio___eq__ K)) ["self", "other"] (spEq K) := by
  refine (T.d_Ratio___eq__).ok sc_Ratio___eq__ (fun vs H Q E h => ?_) (fun cdv A outer s H vs Q E hr h => ?_)
  · obtain ⟨a, p, y, rfl, _⟩ := h
    rfl
  obtain ⟨a, p, y, rfl, ⟨dx, ha⟩, R⟩ := h
  refine ⟨_, (pss_cons (ps_if (pt_not (pt_val (pe_callB call_isi (by rfl) (Tx.f_isinstance T) (by decide +kernel) (pa_cons (pv 1) (pa_cons (pe_glob (v := .ref _) rfl (Tx.g_Ratio T) rfl) pa_nil))))) (pss_one (ps_ret pe_bl))
    pss_nil)
    (pss_one (ps_ret (pe_and (pe_cmpR op_eq (pe_fld (pv 0) rfl) (pe_fld (pv 1) rfl) (nomark _)) (pe_one (pe_cmpR op_eq (pe_fld (pv 0) rfl) (pe_fld (pv 1) rfl) (nomark _))))))), ?_⟩
  rcases R with ⟨b, q, rfl, ⟨dy, hb⟩, R⟩ | ⟨t, ty, kt, R⟩
  · refine ⟨_, rfl, _, _, _, _, _, rfl, .own _, (T.i_Ratio).ty T.c_Ratio hb, (T.i_Ratio).self, _, rfl, ?_⟩
    refine iF rfl ?_
    refine ⟨_, rfl, _, _, _, _, _, rfl, ha, T.c_Ratio, T.n_Ratio_num, rfl, _, rfl, _, _, _, _, _, rfl, hb, T.c_Ratio, T.n_Ratio_num, rfl, rfl, _, rfl, ?_⟩
    refine iI (fun hn => ?_) fun hn => ?_
    · refine ⟨_, rfl, _, _, _, _, _, rfl, ha, T.c_Ratio, T.n_Ratio_den, rfl, _, rfl, _, _, _, _, _, rfl, hb, T.c_Ratio, T.n_Ratio_den, rfl, rfl, ?_⟩
      have e : decide (p = q) = decide (V.int (p.den : Int) = V.int (q.den : Int)) := by
        rw [decide_eq_decide]
        refine ⟨fun e => by rw [e], fun e => Rat.ext hn ?_⟩
        have := V.int.inj e
        omega
      rw [e] at R
      exact R
    · have e : decide (p = q) = false := decide_eq_false fun e => hn (by rw [e])
      rw [e] at R
      exact R
  · refine ⟨_, rfl, _, _, _, _, _, rfl, .own _, ty, kt, _, rfl, ?_⟩
    exact iT rfl R
/-- bool(a) -/
def spBool (K : Frag) : Sp := fun vs H Q _ => ∃ a p, vs = [.ref a] ∧ RA (ga K "Ratio") H a p ∧ Q (.bl (!decide (p.num = 0))) H
theorem ok_Ratio___bool__ (T : Tx K mg) (G : Pg P) : FnOk P w K mg base (L2N.CX P w) 5 (a_Ratio___bool__ K) (fdOf K (a_Ratio___bool__ K)) ["self"] (spBool K) := by
  refine (T.d_Ratio___bool__).ok sc_Ratio___bool__ (fun vs H Q E h => ?_) (fun cdv A outer s H vs Q E hr h => ?_)
  · obtain ⟨a, p, rfl, _⟩ := h
    rfl
  obtain ⟨a, p, rfl, ⟨dx, ha⟩, R⟩ := h
  refine ⟨_, (pss_one (ps_ret (pe_callTy call_bool1 (by rfl) (Tx.f_bool T) (by decide +kernel) (pa_cons (pe_cmpR op_ne (pe_fld (pv 0) rfl) pe_int (nomark _)) pa_nil)))), ?_⟩
  refine ⟨_, rfl, _, _, _, _, _, rfl, ha, T.c_Ratio, T.n_Ratio_num, rfl, rfl, .inr ⟨_, rfl, ?_⟩⟩
  have e : decide (p.num = 0) = decide (V.int p.num = V.int 0) := by
    rw [decide_eq_decide]
    exact ⟨fun e => by rw [e], fun e => V.int.inj e⟩
  rw [e] at R
  exact R
/-- the written form -/
abbrev its (n : Int) : Str := Str.ofString (toString n)
def txt (n d : Int) : Str := if d = 1 then its n else its n ++ "/" ++ its d
def spStr (K : Frag) : Sp := fun vs H Q _ => ∃ a p, vs = [.ref a] ∧ RA (ga K "Ratio") H a p ∧ rsm 1900 p ∧ Q (.str (txt p.num p.den)) H
theorem ok_Ratio___str__ (T : Tx K mg) (G : Pg P) : FnOk P w K mg base (L2N.CX P w) 5 (a_Ratio___str__ K) (fdOf K (a_Ratio___str__ K)) ["self"] (spStr K) := by
  refine (T.d_Ratio___str__).ok sc_Ratio___str__ (fun vs H Q E h => ?_) (fun cdv A outer s H vs Q E hr h => ?_)
  · obtain ⟨a, p, rfl, _⟩ := h
    rfl
  obtain ⟨a, p, rfl, ⟨dx, ha⟩, sp, R⟩ := h
  refine ⟨_, (pss_cons (ps_if (pt_cmpR op_eq (pe_fld (pv 0) rfl) pe_int (nomark _)) (pss_one (ps_ret (pe_callTy call_str_int (by rfl) (Tx.f_str T) (by decide +kernel) (pa_cons (pe_fld (pv 0) rfl) pa_nil))))
    pss_nil)
    (pss_one (ps_ret (pe_joined (PJ.cons (pe_fmt (pe_fld (pv 0) rfl)) (PJ.cons pe_str (PJ.cons (pe_fmt (pe_fld (pv 0) rfl)) PJ.nil))))))), ?_⟩
  refine ⟨_, rfl, _, _, _, _, _, rfl, ha, T.c_Ratio, T.n_Ratio_den, rfl, rfl, _, rfl, ?_⟩
  refine iI (fun h0 => ?_) fun h0 => ?_
  · refine ⟨_, rfl, _, _, _, _, _, rfl, ha, T.c_Ratio, T.n_Ratio_num, rfl, _, rfl, Nat.lt_trans sp.num.log (by decide), ?_⟩
    have e : txt p.num p.den = its p.num := if_pos h0
    rw [e] at R
    exact R
  · have l1 := PyProof.Rows.int_text_len_1921 (Nat.lt_trans sp.num.log (by decide) : p.num.natAbs.log2 < 1920)
    have l2 := PyProof.Rows.int_text_len_1921 (Nat.lt_trans sp.den.log (by decide) : (p.den : Int).natAbs.log2 < 1920)
    have e0 : (Str.empty ++ its p.num) = its p.num := str_empty _
    have e : txt p.num p.den = its p.num ++ "/" ++ its p.den := if_neg h0
    rw [e] at R
    refine ⟨_, rfl, _, _, _, _, _, rfl, ha, T.c_Ratio, T.n_Ratio_num, rfl, .inr ⟨_, rfl, Nat.lt_trans sp.num.log (by decide), _, rfl, ?_⟩⟩
    rw [e0]
    have l3 : (its p.num ++ ("/" : Str)).length ≤ 1922 := by
      rw [slen]
      exact Nat.add_le_add l1 (Nat.le_refl 1)
    refine ⟨Nat.le_trans l1 (by rw [sizeLine_eq]; decide), _, rfl, Nat.le_trans l3 (by rw [sizeLine_eq]; decide), _, rfl, _, _, _, _, _, rfl, ha, T.c_Ratio, T.n_Ratio_den, rfl, .inr ⟨_, rfl, Nat.lt_trans sp.den.log (by decide), _, rfl, ?_, R⟩⟩
    rw [slen, sizeLine_eq]
    omega
/-- repr(a) -/
theorem ok_Ratio___repr__ (T : Tx K mg) (G : Pg P) : FnOk P w K mg base (L2N.CX P w) 8 (a_Ratio___repr__ K) (fdOf K (a_Ratio___repr__ K)) ["self"] (spStr K) := by
  refine (T.d_Ratio___repr__).ok sc_Ratio___repr__ (fun vs H Q E h => ?_) (fun cdv A outer s H vs Q E hr h => ?_)
  · obtain ⟨a, p, rfl, _⟩ := h
    rfl
  obtain ⟨a, p, rfl, ⟨dx, ha⟩, sp, R⟩ := h
  refine ⟨_, (pss_one (ps_ret (pe_callTy (call_ownStr (ok_Ratio___str__ T G) (hr.mono (by decide)) (Tx.b_Ratio___str__ T) passN0 (Tx.o_Ratio___str__ T).1) (by rfl) (Tx.f_str T) (by decide +kernel) (pa_cons (pv 0) pa_nil)))), ?_⟩
  exact ⟨_, rfl, _, _, _, rfl, ha, _, _, rfl, ⟨dx, ha⟩, sp, _, rfl, R⟩
end
end K00
namespace K00
open PySem PySem.Spec PyProof.Rows L2 L2.LX
open PySem.W (Frag)
theorem nxt {D : Ends} {σ : L2.St} {H : Hp} (h : D.nx σ H) : tNext D σ H := h
theorem stepC {v0 : V} {i : Nat} {v : TS} {D : Ends} {σ : L2.St} {H : Hp} (h : v D (σ.set i (some v0)) H) : tSeq (tAsg (tC v0) (gName i)) v D σ H := h
theorem seqP {t v : TS} {D : Ends} {σ : L2.St} {H : Hp} (Pv : L2.St → Hp → Prop) (h : (∀ σ' H', Pv σ' H' → v D σ' H') → t { D with nx := v D } σ H) (r : ∀ σ' H', Pv σ' H' → v D σ' H') : tSeq t v D σ H := h r
/-! the heap but one -/
abbrev Kp (b : Addr) (H H' : Hp) : Prop := ∀ a o, a ≠ b → H a = some o → H' a = some o
theorem Gr.kp {b : Addr} {H H' : Hp} (g : Gr H H') : Kp b H H' := fun a o _ e => g a o e
theorem Kp.refl (b : Addr) (H : Hp) : Kp b H H := fun _ _ _ e => e
theorem Kp.trans {b : Addr} {H H1 H2 : Hp} (k : Kp b H H1) (k' : Kp b H1 H2) : Kp b H H2 := fun a o n e => k' a o n (k a o n e)
theorem Kp.up {b : Addr} {H H1 : Hp} {o : HO} (k : Kp b H H1) : Kp b H (upd H1 b o) := fun a x n e => by
  rw [upd_ne n]
  exact k a x n e
/-- the box's list -/
abbrev bx (c0 c1 c2 c3 : Int) (r : List Int) : List V := V.int c0 :: V.int c1 :: V.int c2 :: V.int c3 :: r.map V.int
def Bx (b : Addr) (H : Hp) : Prop := ∃ c0 c1 c2 c3 r, H b = some (.lst (bx c0 c1 c2 c3 r)) ∧ 0 ≤ c0
theorem Bx.gr {b : Addr} {H H' : Hp} (h : Bx b H) (g : Gr H H') : Bx b H' := by
  obtain ⟨c0, c1, c2, c3, r, e, z⟩ := h
  exact ⟨c0, c1, c2, c3, r, g _ _ e, z⟩
theorem ix0 {a : V} {l : List V} : atI (a :: l) 0 = some a := atI_nat (j := 0) rfl
theorem ix1 {a b : V} {l : List V} : atI (a :: b :: l) 1 = some b := atI_nat (j := 1) rfl
theorem ix2 {a b c : V} {l : List V} : atI (a :: b :: c :: l) 2 = some c := atI_nat (j := 2) rfl
theorem ix3 {a b c d : V} {l : List V} : atI (a :: b :: c :: d :: l) 3 = some d := atI_nat (j := 3) rfl
theorem in0 {a : V} {l : List V} : ixN (a :: l).length 0 = some 0 := by simp [ixN]
theorem in1 {a b : V} {l : List V} : ixN (a :: b :: l).length 1 = some 1 := by simp [ixN]; omega
theorem in2 {a b c : V} {l : List V} : ixN (a :: b :: c :: l).length 2 = some 2 := by simp [ixN]; omega
theorem in3 {a b c d : V} {l : List V} : ixN (a :: b :: c :: d :: l).length 3 = some 3 := by simp [ixN]; omega
theorem ixAt {c0 c1 c2 c3 : Int} {r : List Int} {i : Int} (h : 0 ≤ i) (h1 : i < (bx c0 c1 c2 c3 r).length) : ∃ x : Int, atI (bx c0 c1 c2 c3 r) i = some (.int x) := by
  obtain ⟨n, rfl⟩ : ∃ n : Nat, i = (n : Int) := ⟨i.toNat, by omega⟩
  have h2 : n < (c0 :: c1 :: c2 :: c3 :: r).length := by
    have : (bx c0 c1 c2 c3 r).length = (c0 :: c1 :: c2 :: c3 :: r).length := by simp [bx]
    omega
  refine ⟨(c0 :: c1 :: c2 :: c3 :: r)[n], ?_⟩
  refine atI_nat ?_
  show ((c0 :: c1 :: c2 :: c3 :: r).map V.int)[n]? = _
  rw [List.getElem?_map, List.getElem?_eq_getElem h2]
  rfl
section
variable {P : Program} {w : World} {K : Frag} {mg : Str → Option Value} {base : Heap}
def spBox (K : Frag) : Sp := fun vs H Q _ => ∃ (a : Addr) (xs : List Int), vs = [.ref a] ∧ SqL K H a (xs.map V.int) ∧ xs.length ≤ 1000 ∧ ∀ b H', Gr H H' → H b = none → Bx b H' → Q (.ref b) H'
theorem cutV_int (xs : List Int) (lo hi : Option Int) : ∃ ys : List Int, cutV (xs.map V.int) lo hi = ys.map V.int ∧ ys.length ≤ xs.length := by
  refine ⟨(xs.drop (HT.sIx (xs.map V.int).length 0 lo)).take (HT.sIx (xs.map V.int).length (xs.map V.int).length hi - HT.sIx (xs.map V.int).length 0 lo), ?_, ?_⟩
  · unfold cutV
    rw [List.map_take, List.map_drop]
  · rw [List.length_take, List.length_drop]
    omega
theorem ok__law_box (T : Tx K mg) (G : Pg P) : FnOk P w K mg base (L2N.CX P w) 1 (a__law_box K) (fdOf K (a__law_box K)) ["script"] (spBox K) := by
  refine (T.d__law_box).ok sc__law_box (fun vs H Q E h => ?_) (fun cdv A outer s H vs Q E hr h => ?_)
  · obtain ⟨a, xs, rfl, _⟩ := h
    rfl
  obtain ⟨a, xs, rfl, ha, hx, R⟩ := h
  refine ⟨_, (pss_one (ps_ret (pe_op op_cat (pe_lst (pa_cons pe_int (pa_cons pe_int (pa_cons pe_int (pa_cons pe_int pa_nil))))) (pe_lc (own := [("cell", 1)]) (g := gName 1) (tt := tYes) rfl sc__law_box.nd (pi_list (pe_slice sl_list (pv 0) po_none (po_some pe_int))) (blkOk_by (N := ["script", "cell"]) (sc := defScope s__law_box) (by decide +kernel)) (fun _ _ _ _ _ => (pg_name (i := 1) sc__law_box.nd rfl (Or.inl rfl))) (fun _ _ _ _ _ => pts_nil) (fun _ _ _ _ _ => (pe_op op_modN (pe_callTy call_int1 (by rfl) (Tx.f_int T) (by decide +kernel) (pa_cons (pv 1) pa_nil)) (pe_op op_pow pe_int pe_int))))))), ?_⟩
  obtain ⟨ys, ey, ly⟩ := cutV_int xs none (some 63)
  refine ⟨by rw [sizeLine_eq]; decide, fun l hl => ⟨_, rfl, _, rfl, _, _, rfl, ha.ext ((Gr.refl H).upd hl), fun p hp => ?_⟩⟩
  rw [ey]
  refine ⟨p, rfl, ⟨_, SqL.of upd_same⟩, fun D hD => lc_list (xs := ys.map V.int) (fun i H' => ∃ zs : List Int, zs.length = i ∧ H' D = some (.lst (zs.map V.int)) ∧ (∀ a o, upd (upd H l (.lst [.int 0, .int 0, .int 0, .int 0])) p (.lst (ys.map V.int)) a = some o → H' a = some o)) ?_ ?_ ?_ ?_⟩
  · exact ⟨[], rfl, upd_same, fun a o e => by rw [upd_ne (ne_of_none e hD)]; exact e⟩
  · rintro i H' hi ⟨zs, h1, h2, h3⟩
    exact SqL.of (h3 p _ upd_same)
  · rintro i x H' hx' ⟨zs, h1, h2, h3⟩
    rw [List.getElem?_map] at hx'
    obtain ⟨y, hy, rfl⟩ := Option.map_eq_some_iff.mp hx'
    have hi : i < ys.length := (List.getElem?_eq_some_iff.mp hy).1
    refine ⟨rfl, _, rfl, .inl ⟨_, rfl, _, _, rfl, rfl, ⟨by decide, by decide, by decide⟩, _, _, rfl, rfl, (by show ((10 : Int) ^ (64 : Nat)) ≠ 0; decide +kernel), zs.map V.int, h2, ?_, zs ++ [y.fmod ((10 : Int) ^ (64 : Nat))], ?_, ?_, ?_⟩⟩
    · rw [List.length_map, sizeLine_eq]
      omega
    · rw [List.length_append, h1]
      rfl
    · rw [List.map_append]
      exact upd_same
    · intro a' o e
      by_cases ea : a' = D
      · rw [ea, hD] at e
        cases e
      · rw [upd_ne ea]
        exact h3 a' o e
  · rintro H' ⟨zs, h1, h2, h3⟩
    have hlp : l ≠ p := ne_of_none upd_same hp
    refine ⟨l, D, _, _, rfl, rfl, h3 l _ (by rw [upd_ne hlp]; exact upd_same), h2, ?_, fun q hq => ?_⟩
    · rw [List.length_map, sizeLine_eq] at *
      simp only [List.length_cons, List.length_nil, List.length_map] at *
      omega
    · refine R q _ (fun a' o e => ?_) ?_ ⟨0, 0, 0, 0, zs, upd_same, by decide⟩
      · have e2 : H' a' = some o := h3 a' o (by rw [upd_ne (ne_of_none (by rw [upd_ne (ne_of_none e hl)]; exact e) hp), upd_ne (ne_of_none e hl)]; exact e)
        rw [upd_ne (ne_of_none e2 hq)]
        exact e2
      · cases e : H q with
        | none => rfl
        | some o =>
          have e2 : H' q = some o := h3 q o (by rw [upd_ne (ne_of_none (by rw [upd_ne (ne_of_none e hl)]; exact e) hp), upd_ne (ne_of_none e hl)]; exact e)
          rw [hq] at e2
          cases e2
/-- one more drawn number -/
def spTake : Sp := fun vs H Q _ => ∃ b n, vs = [.ref b, .int n] ∧ Bx b H ∧ 0 < n ∧ n < 1073741824 ∧ ∀ r H', Kp b H H' → Bx b H' → 0 ≤ r → r < n → Q (.int r) H'
theorem ok__law_take (T : Tx K mg) (G : Pg P) : FnOk P w K mg base (L2N.CX P w) 1 (a__law_take K) (fdOf K (a__law_take K)) ["box", "size"] spTake := by
  refine (T.d__law_take).ok sc__law_take (fun vs H Q E h => ?_) (fun cdv A outer s H vs Q E hr h => ?_)
  · obtain ⟨b, n, rfl, _⟩ := h
    rfl
  obtain ⟨b, n, rfl, ⟨c0, c1, c2, c3, r, hb, h0⟩, hn, hn2, R⟩ := h
  refine ⟨_, (pss_cons (ps_set (i := 2) sc__law_take.nd rfl (Or.inl rfl) (pe_op op_add pe_int (pe_ix ix_list (pv 0) pe_int (fun _ _ => rfl))))
    (pss_cons (ps_if (PW.pt (pw_and (pt_cmpR op_lt (pe_ix ix_list (pv 0) pe_int (fun _ _ => rfl)) pe_int (nomark _)) (pw_and (pt_cmpR op_lt (pv 2) (pe_callB call_len_seq (by rfl) (Tx.f_len T) (by decide +kernel) (pa_cons (pv 0) pa_nil)) (nomark _)) (pw_and1 (pt_cmpR op_ge (pe_ix ix_list (pv 0) (pv 2) (fun _ _ => rfl)) (pe_op op_pow pe_int pe_int) (nomark _)))))) (pss_cons (ps_asg (pe_ix ix_list (pv 0) (pv 2) (fun _ _ => rfl)) (pg_sub (pv 0) pe_int set_list))
    (pss_one (ps_asg (pe_op op_add (pe_ix ix_list (pv 0) pe_int (fun _ _ => rfl)) pe_int) (pg_sub (pv 0) pe_int set_list))))
    pss_nil)
    (pss_cons (ps_if (pt_cmpR op_gt (pe_ix ix_list (pv 0) pe_int (fun _ _ => rfl)) pe_int (nomark _)) (pss_cons (ps_set (i := 3) sc__law_take.nd rfl (Or.inl rfl) (pe_op op_modN (pe_callTy call_int1 (by rfl) (Tx.f_int T) (by decide +kernel) (pa_cons (pe_ix ix_list (pv 0) pe_int (fun _ _ => rfl)) pa_nil)) (pv 1)))
    (pss_cons (ps_asg (pe_op op_fdivN (pe_ix ix_list (pv 0) pe_int (fun _ _ => rfl)) (pv 1)) (pg_sub (pv 0) pe_int set_list))
    (pss_one (ps_ret (pv 3)))))
    pss_nil)
    (pss_cons (ps_set (i := 4) sc__law_take.nd rfl (Or.inl rfl) pe_int)
    (pss_cons (ps_if (pt_cmpR op_lt (pv 2) (pe_callB call_len_seq (by rfl) (Tx.f_len T) (by decide +kernel) (pa_cons (pv 0) pa_nil)) (nomark _)) (pss_cons (ps_set (i := 4) sc__law_take.nd rfl (Or.inl rfl) (pe_ix ix_list (pv 0) (pv 2) (fun _ _ => rfl)))
    (pss_one (ps_asg (pe_op op_add (pe_ix ix_list (pv 0) pe_int (fun _ _ => rfl)) pe_int) (pg_sub (pv 0) pe_int set_list))))
    pss_nil)
    (pss_cons (ps_asg (pe_op op_add (pe_ix ix_list (pv 0) pe_int (fun _ _ => rfl)) pe_int) (pg_sub (pv 0) pe_int set_list))
    (pss_cons (ps_asg (pe_op op_modN (pe_callTy call_int1 (by rfl) (Tx.f_int T) (by decide +kernel) (pa_cons (pe_op op_add (pe_op op_add (pe_op op_mul (pe_ix ix_list (pv 0) pe_int (fun _ _ => rfl)) pe_int) (pe_op op_mul (pv 4) pe_int)) (pe_op op_mul (pe_ix ix_list (pv 0) pe_int (fun _ _ => rfl)) pe_int)) pa_nil)) pe_int) (pg_sub (pv 0) pe_int set_list))
    (pss_one (ps_ret (pe_op op_modN (pe_op op_fdivN (pe_op op_modN (pe_callTy call_int1 (by rfl) (Tx.f_int T) (by decide +kernel) (pa_cons (pe_op op_add (pe_op op_add (pe_op op_mul (pe_op op_fdivN (pe_ix ix_list (pv 0) pe_int (fun _ _ => rfl)) pe_int) pe_int) (pe_op op_mul (pe_ix ix_list (pv 0) pe_int (fun _ _ => rfl)) pe_int)) (pv 4)) pa_nil)) pe_int) pe_int) (pv 1))))))))))), ?_⟩
  refine ⟨_, rfl, _, _, _, _, rfl, rfl, SqL.of hb, ix0, _, _, rfl, rfl, ?_⟩
  have fin : ∀ (x : Int) (H' : Hp), Kp b H H' → Bx b H' → Q (.int (x.fmod n)) H' := fun x H' k bb => R _ H' k bb (Int.fmod_nonneg_of_pos _ hn) (Int.fmod_lt_of_pos _ hn)
  have nn : (n : Int) ≠ 0 := by omega
  have bB : ∀ {c0 c1 c2 c3 r} {H' : Hp}, H' b = some (.lst (bx c0 c1 c2 c3 r)) → 0 ≤ c0 → Bx b H' := fun h z => ⟨_, _, _, _, _, h, z⟩
  have mO : ∀ x y : Int, y = 48271 ∨ y = 69621 ∨ y = 30011 ∨ y = 40692 ∨ y = 65537 → CMul x y := fun x y h => .inr (by omega)
  dsimp only [gName]
  refine seqP (fun σ' H' => ∃ c0 c1 c2 c3 r at0, σ' = ([some (.ref b), some (.int n), some (.int at0), none, none] : List (Option V)) ∧ H' b = some (.lst (bx c0 c1 c2 c3 r)) ∧ Kp b H H' ∧ 0 ≤ c0 ∧ 4 ≤ at0) (fun kk => ?_) ?_
  · have no : ∀ H', Kp b H H' → H' b = some (.lst (bx c0 c1 c2 c3 r)) → _ := fun H' k hb' => kk _ H' ⟨c0, c1, c2, c3, r, 4 + c0, rfl, hb', k, h0, by omega⟩
    refine ⟨_, rfl, _, _, _, _, rfl, rfl, SqL.of hb, ix1, _, _, rfl, rfl, _, rfl, iD (fun _ => ?_) fun _ => iF rfl (nxt (no H (Kp.refl b H) hb))⟩
    refine ⟨_, rfl, _, rfl, _, _, rfl, .inl (SqL.of hb), _, _, rfl, rfl, _, rfl, iD (fun h1 => ?_) fun _ => iF rfl (nxt (no H (Kp.refl b H) hb))⟩
    obtain ⟨x, ex⟩ := ixAt (by omega) h1
    refine ⟨_, rfl, _, rfl, _, _, _, _, rfl, rfl, SqL.of hb, ex, _, _, rfl, rfl, ⟨by decide, by decide, by decide⟩, _, _, rfl, rfl, _, rfl, iD (fun _ => ?_) fun _ => nxt (no H (Kp.refl b H) hb)⟩
    refine ⟨_, rfl, _, rfl, _, _, _, _, rfl, rfl, SqL.of hb, ex, _, rfl, _, _, _, _, rfl, rfl, hb, in1, ?_⟩
    refine ⟨_, rfl, _, _, _, _, rfl, rfl, SqL.of upd_same, ix0, _, _, rfl, rfl, _, rfl, _, _, _, _, rfl, rfl, upd_same, in0, ?_⟩
    exact kk _ _ ⟨c0 + 1, _, _, _, _, 4 + c0, rfl, upd_same, (Kp.refl b H).up.up, by omega, by omega⟩
  · rintro _ H1 ⟨c0, c1, c2, c3, r, at0, rfl, hb, k, h0, h4⟩
    refine ⟨_, rfl, _, _, _, _, rfl, rfl, SqL.of hb, ix1, _, _, rfl, rfl, _, rfl, iD (fun _ => ?_) fun _ => ?_⟩
    · refine ⟨_, rfl, _, _, _, _, rfl, rfl, SqL.of hb, ix1, .inl ⟨_, rfl, _, rfl, _, _, rfl, rfl, nn, ?_⟩⟩
      refine ⟨_, rfl, _, _, _, _, rfl, rfl, SqL.of hb, ix1, _, rfl, _, _, rfl, rfl, ⟨nn, by omega⟩, _, rfl, _, _, _, _, rfl, rfl, hb, in1, ?_⟩
      exact ⟨_, rfl, fin _ _ k.up (bB upd_same h0)⟩
    refine nxt ?_
    dsimp only
    refine stepC ?_
    refine seqP (fun σ' H' => ∃ c0 c1 c2 c3 r at0 cell, σ' = ([some (.ref b), some (.int n), some (.int at0), none, some (.int cell)] : List (Option V)) ∧ H' b = some (.lst (bx c0 c1 c2 c3 r)) ∧ Kp b H H' ∧ 0 ≤ c0) (fun kk => ?_) ?_
    · refine ⟨_, rfl, _, rfl, _, _, rfl, .inl (SqL.of hb), _, _, rfl, rfl, _, rfl, iD (fun h1 => ?_) fun _ => nxt (kk _ _ ⟨_, _, _, _, _, _, _, rfl, hb, k, h0⟩)⟩
      obtain ⟨x, ex⟩ := ixAt (by omega) h1
      refine ⟨_, rfl, _, rfl, _, _, _, _, rfl, rfl, SqL.of hb, ex, ?_⟩
      refine ⟨_, rfl, _, _, _, _, rfl, rfl, SqL.of hb, ix0, _, _, rfl, rfl, _, rfl, _, _, _, _, rfl, rfl, hb, in0, ?_⟩
      exact kk _ _ ⟨c0 + 1, _, _, _, _, _, _, rfl, upd_same, k.up, by omega⟩
    · rintro _ H1 ⟨c0, c1, c2, c3, r, at0, cell, rfl, hb, k, h0⟩
      refine ⟨_, rfl, _, _, _, _, rfl, rfl, SqL.of hb, ix2, _, _, rfl, rfl, _, rfl, _, _, _, _, rfl, rfl, hb, in2, ?_⟩
      refine ⟨_, rfl, _, _, _, _, rfl, rfl, SqL.of upd_same, ix3, _, _, rfl, rfl, mO _ _ (by simp), ?_⟩
      refine ⟨_, rfl, _, _, rfl, rfl, mO _ _ (by simp), _, _, rfl, rfl, _, rfl, _, _, _, _, rfl, rfl, SqL.of upd_same, ix2, _, _, rfl, rfl, mO _ _ (by simp), _, _, rfl, rfl, .inl ⟨_, rfl, _, _, rfl, rfl, (show (2147483647 : Int) ≠ 0 by decide), ?_⟩⟩
      refine ⟨_, rfl, _, _, _, _, rfl, rfl, upd_same, in3, ?_⟩
      refine ⟨_, rfl, _, _, _, _, rfl, rfl, SqL.of upd_same, ix3, _, _, rfl, rfl, ⟨by decide, by decide⟩, _, _, rfl, rfl, mO _ _ (by simp), ?_⟩
      refine ⟨_, rfl, _, _, _, _, rfl, rfl, SqL.of upd_same, ix2, _, _, rfl, rfl, mO _ _ (by simp), _, _, rfl, rfl, _, rfl, _, _, rfl, rfl, .inl ⟨_, rfl, _, _, rfl, rfl, (show (2147483399 : Int) ≠ 0 by decide), _, _, rfl, rfl, ⟨by decide, by decide⟩, _, rfl, _, _, rfl, rfl, nn, ?_⟩⟩
      exact fin _ _ k.up.up (bB upd_same h0)
end
end K00
namespace K00
open PySem PySem.Spec PyProof.Rows L2 L2.LX
open PySem.W (Frag)
theorem sz2 {a b : V} : ([a, b] : List V).length ≤ sizeLine := by
  show 2 ≤ sizeLine
  rw [sizeLine_eq]
  decide
section
variable {P : Program} {w : World} {K : Frag} {mg : Str → Option Value} {base : Heap}
def spGcd : Sp := fun vs H Q _ => ∃ a b : Int, vs = [.int a, .int b] ∧ Q (.int ((Nat.gcd a.natAbs b.natAbs : Nat) : Int)) H
theorem ok__law_gcd (T : Tx K mg) (G : Pg P) : FnOk P w K mg base (L2N.CX P w) 1 (a__law_gcd K) (fdOf K (a__law_gcd K)) ["one", "other"] spGcd := by
  refine (T.d__law_gcd).ok sc__law_gcd (fun vs H Q E h => ?_) (fun cdv A outer s H vs Q E hr h => ?_)
  · obtain ⟨a, b, rfl, _⟩ := h
    rfl
  obtain ⟨a, b, rfl, R⟩ := h
  refine ⟨_, (pss_cons (ps_set (i := 0) sc__law_gcd.nd rfl (Or.inl rfl) (pe_callB call_abs (by rfl) (Tx.f_abs T) (by decide +kernel) (pa_cons (pv 0) pa_nil)))
    (pss_cons (ps_set (i := 1) sc__law_gcd.nd rfl (Or.inl rfl) (pe_callB call_abs (by rfl) (Tx.f_abs T) (by decide +kernel) (pa_cons (pv 1) pa_nil)))
    (pss_cons (ps_while (passes_of rfl) (pt_cmpR op_gt (pv 1) pe_int (nomark _)) (pss_cons (ps_set (i := 2) sc__law_gcd.nd rfl (Or.inl rfl) (pe_op op_modN (pe_callTy call_int1 (by rfl) (Tx.f_int T) (by decide +kernel) (pa_cons (pv 0) pa_nil)) (pv 1)))
    (pss_cons (ps_set (i := 0) sc__law_gcd.nd rfl (Or.inl rfl) (pv 1))
    (pss_one (ps_set (i := 1) sc__law_gcd.nd rfl (Or.inl rfl) (pv 2))))))
    (pss_one (ps_ret (pv 0)))))), ?_⟩
  have ab : ∀ i : Int, (if i < 0 then -i else i) = (i.natAbs : Int) := fun i => by split <;> omega
  refine ⟨_, rfl, _, rfl, ⟨_, rfl, _, rfl, ?_⟩⟩
  dsimp only [gName]
  refine while_by (fun σ' H' => H' = H ∧ ∃ (x y : Nat) (r : Option V), σ' = ([some (.int x), some (.int y), r] : List (Option V)) ∧ Nat.gcd x y = Nat.gcd a.natAbs b.natAbs)
    (fun σ' _ => match σ' with
      | [_, some (.int y), _] => y.toNat
      | _ => 0) ⟨rfl, a.natAbs, b.natAbs, none, by rw [ab, ab]; rfl, rfl⟩ ?_ ?_
  · rintro σ' H' ⟨rfl, x, y, r, rfl, hg⟩
    refine ⟨_, rfl, _, _, rfl, rfl, _, rfl, iD (fun hy => ?_) fun hy => ?_⟩
    · refine ⟨_, rfl, .inl ⟨_, rfl, _, rfl, _, _, rfl, rfl, (show (y : Int) ≠ 0 by omega), ?_⟩⟩
      have hm : (x : Int).fmod (y : Int) = ((x % y : Nat) : Int) := by rw [Int.fmod_eq_emod_of_nonneg _ (by omega), Int.natCast_emod]
      have hy' : 0 < y := by omega
      refine ⟨_, rfl, _, rfl, ⟨rfl, y, x % y, some (.int ((x % y : Nat) : Int)), ?_, ?_⟩, ?_⟩
      · show ([some (.int (y : Int)), some (.int ((x : Int).fmod (y : Int))), some (.int ((x : Int).fmod (y : Int)))] : List (Option V)) = _
        rw [hm]
      · rw [← hg, Nat.gcd_comm y, ← Nat.gcd_rec, Nat.gcd_comm]
      · show ((x : Int).fmod (y : Int)).toNat < ((y : Nat) : Int).toNat
        rw [hm]
        have := Nat.mod_lt x hy'
        omega
    · have e : y = 0 := by omega
      subst e
      rw [Nat.gcd_zero_right] at hg
      refine ⟨_, rfl, ?_⟩
      show Q (.int (x : Int)) H'
      rw [hg]
      exact R
  · rintro σ' H' Q1 Q2 hq ⟨v, e, i, j, e1, e2, k, e3, q⟩
    exact ⟨v, e, i, j, e1, e2, k, e3, hq _ _ q⟩
/-- lowest terms as a pair -/
abbrev TA (H : Hp) (t : Addr) (n d : Int) : Prop := H t = some (.tup [.int n, .int d])
def spLow : Sp := fun vs H Q _ => ∃ n d : Int, vs = [.int n, .int d] ∧ d ≠ 0 ∧ sm 8100 d ∧ ∀ t H', Gr H H' → H t = none → TA H' t (Rat.divInt n d).num (Rat.divInt n d).den → Q (.ref t) H'
theorem ok__law_lowest (T : Tx K mg) (G : Pg P) : FnOk P w K mg base (L2N.CX P w) 2 (a__law_lowest K) (fdOf K (a__law_lowest K)) ["top", "bottom"] spLow := by
  refine (T.d__law_lowest).ok sc__law_lowest (fun vs H Q E h => ?_) (fun cdv A outer s H vs Q E hr h => ?_)
  · obtain ⟨a, b, rfl, _⟩ := h
    rfl
  obtain ⟨n, d, rfl, h0, hd, R⟩ := h
  refine ⟨_, (pss_cons (ps_if (pt_cmpR op_lt (pv 1) pe_int (nomark _)) (pss_cons (ps_set (i := 0) sc__law_lowest.nd rfl (Or.inl rfl) (pe_un un_neg (pv 0)))
    (pss_one (ps_set (i := 1) sc__law_lowest.nd rfl (Or.inl rfl) (pe_un un_neg (pv 1)))))
    pss_nil)
    (pss_cons (ps_set (i := 2) sc__law_lowest.nd rfl (Or.inl rfl) (pe_call (ok__law_gcd T G) (hr.mono (by decide)) rfl (Tx.g__law_gcd T) (Tx.d__law_gcd T).kp (Tx.b__law_gcd T) .nil passN0 (pa_cons (pv 0) (pa_cons (pv 1) pa_nil))))
    (pss_one (ps_ret (pe_tup (pa_cons (pe_op op_fdivZ (pv 0) (pv 2)) (pa_cons (pe_op op_fdivZ (pv 1) (pv 2)) pa_nil))))))), ?_⟩
  refine seqP (fun σ' H' => H' = H ∧ ∃ n' d' : Int, σ' = ([some (.int n'), some (.int d'), none] : List (Option V)) ∧ Rat.divInt n' d' = Rat.divInt n d ∧ 0 < d' ∧ sm 8100 d') (fun kk => ?_) ?_
  · refine ⟨_, rfl, _, _, rfl, rfl, _, rfl, iD (fun hlt => ?_) fun hlt => nxt (kk _ _ ⟨rfl, n, d, rfl, rfl, by omega, hd⟩)⟩
    refine ⟨_, rfl, _, rfl, _, rfl, _, rfl, ?_⟩
    exact kk _ _ ⟨rfl, -n, -d, rfl, Rat.neg_divInt_neg n d, by omega, hd.neg⟩
  · rintro _ _ ⟨rfl, n', d', rfl, e, hp, hs⟩
    have hg0 : (0 : Nat) < Nat.gcd n'.natAbs d'.natAbs := Nat.gcd_pos_of_pos_right _ (by omega)
    have hg1 : Nat.gcd n'.natAbs d'.natAbs ≤ d'.natAbs := Nat.gcd_le_right _ (by omega)
    have hsg : sm 8100 ((Nat.gcd n'.natAbs d'.natAbs : Nat) : Int) := by unfold sm at *; omega
    have cd : ∀ i : Int, CDivZ i ((Nat.gcd n'.natAbs d'.natAbs : Nat) : Int) := fun i => ⟨by omega, Nat.lt_of_lt_of_le (hsg.log (by decide)) (by decide)⟩
    have e1 := lowN n' d' (by omega)
    have e2 := lowD n' d' (by omega)
    rw [if_neg (by omega), e] at e1 e2
    refine ⟨_, rfl, _, rfl, _, _, rfl, _, rfl, _, rfl, _, _, rfl, rfl, cd _, _, rfl, _, rfl, _, _, rfl, rfl, cd _, sz2, fun t ht => ?_⟩
    refine R t _ ((Gr.refl _).upd ht) ht ?_
    show upd _ t _ t = _
    rw [upd_same]
    show some (HO.tup [V.int (n'.fdiv _), V.int (d'.fdiv _)]) = _
    rw [e1, e2]
/-- some number of up to 8 * parts digits -/
def spDigits : Sp := fun vs H Q _ => ∃ (b : Addr) (n : Nat), vs = [.ref b, .int n] ∧ Bx b H ∧ n ≤ 5 ∧ ∀ (r : Int) H', Kp b H H' → Bx b H' → 0 ≤ r → r < 10 ^ (8 * n) → Q (.int r) H'
theorem ok__law_digits (T : Tx K mg) (G : Pg P) : FnOk P w K mg base (L2N.CX P w) 2 (a__law_digits K) (fdOf K (a__law_digits K)) ["box", "parts"] spDigits := by
  refine (T.d__law_digits).ok sc__law_digits (fun vs H Q E h => ?_) (fun cdv A outer s H vs Q E hr h => ?_)
  · obtain ⟨a, b, rfl, _⟩ := h
    rfl
  obtain ⟨b, n, rfl, hb, hn, R⟩ := h
  refine ⟨_, (pss_cons (ps_set (i := 2) sc__law_digits.nd rfl (Or.inl rfl) pe_int)
    (pss_cons (ps_for (passes_of rfl) rfl (pi_range1 rfl (Tx.f_range T) (pa_cons (pv 1) pa_nil)) (pg_name (i := 3) sc__law_digits.nd rfl (Or.inl rfl))
    (pss_one (ps_set (i := 2) sc__law_digits.nd rfl (Or.inl rfl) (pe_op op_add (pe_op op_mul (pv 2) (pe_op op_pow pe_int pe_int)) (pe_call (ok__law_take T G) (hr.mono (by decide)) rfl (Tx.g__law_take T) (Tx.d__law_take T).kp (Tx.b__law_take T) .nil passN0 (pa_cons (pv 0) (pa_cons (pe_op op_pow pe_int pe_int) pa_nil)))))))
    (pss_one (ps_ret (pv 2))))), ?_⟩
  refine ⟨_, rfl, n, rfl, by omega, by omega, ?_⟩
  refine for_range (n := n) (fun i σ' H' => ∃ (x : Int) (r : Option V), σ' = ([some (.ref b), some (.int n), some (.int x), r] : List (Option V)) ∧ Kp b H H' ∧ Bx b H' ∧ 0 ≤ x ∧ x < 10 ^ (8 * i)) ?_ ?_ ?_
  · exact ⟨0, none, rfl, Kp.refl b H, hb, by decide, by decide⟩
  · rintro i _ H' hi ⟨x, r, rfl, k, bb, x0, x1⟩
    refine ⟨_, rfl, _, _, rfl, rfl, ⟨by decide, by decide, by decide⟩, _, _, rfl, rfl, .inr ⟨by decide, by decide⟩, _, rfl, _, _, rfl, rfl, ⟨by decide, by decide, by decide⟩, b, _, rfl, bb, by decide, by decide, fun r H2 k2 b2 r0 r1 => ?_⟩
    refine ⟨_, _, rfl, rfl, ?_⟩
    refine ⟨_, _, rfl, k.trans k2, b2, ?_, ?_⟩
    · show 0 ≤ x * 100000000 + r
      omega
    · show x * 100000000 + r < 10 ^ (8 * (i + 1))
      have e : (10 : Int) ^ (8 * (i + 1)) = 10 ^ (8 * i) * 100000000 := by rw [Nat.mul_add, Int.pow_add]; rfl
      have r2 : r < 100000000 := r1
      rw [e]
      omega
  · rintro _ H' ⟨x, r, rfl, k, bb, x0, x1⟩
    exact ⟨_, rfl, R x H' k bb x0 x1⟩
end
end K00
namespace K00
open PySem PySem.Spec PyProof.Rows L2 L2.LX
open PySem.W (Frag)
theorem Kp.ta {b t : Addr} {H H' : Hp} {n d : Int} (k : Kp b H H') (hb : Bx b H) (ht : TA H t n d) : TA H' t n d := by
  obtain ⟨c0, c1, c2, c3, r, e, _⟩ := hb
  exact k t _ (ne_of ht e (by intro z; cases z)) ht
/-- a sign -/
theorem sgn (x : Int) : 1 - 2 * x.fmod 2 = 1 ∨ 1 - 2 * x.fmod 2 = -1 := by
  have h1 := Int.fmod_nonneg_of_pos x (b := 2) (by decide)
  have h2 := Int.fmod_lt_of_pos x (b := 2) (by decide)
  omega
section
variable {P : Program} {w : World} {K : Frag} {mg : Str → Option Value} {base : Heap}
abbrev pm (x y : Int) : Prop := x = y ∨ x = -y
theorem pm_sgn (n x : Int) : pm (n * (1 - 2 * x.fmod 2)) n := by
  rcases sgn x with h | h
  · rw [h]
    exact .inl (Int.mul_one n)
  · rw [h]
    exact .inr (by omega)
theorem cm_sgn (n x : Int) : CMul n (1 - 2 * x.fmod 2) := .inr (by rcases sgn x with h | h <;> rw [h] <;> decide)
def spSigned : Sp := fun vs H Q _ => ∃ (t : Addr) (n d k : Int), vs = [.ref t, .int k] ∧ TA H t n d ∧ ∀ u H' n' d', Gr H H' → TA H' u n' d' → pm n' n → pm d' d → Q (.ref u) H'
theorem ok__law_signed (T : Tx K mg) (G : Pg P) : FnOk P w K mg base (L2N.CX P w) 1 (a__law_signed K) (fdOf K (a__law_signed K)) ["pair", "turn"] spSigned := by
  refine (T.d__law_signed).ok sc__law_signed (fun vs H Q E h => ?_) (fun cdv A outer s H vs Q E hr h => ?_)
  · obtain ⟨t, n, d, k, rfl, _⟩ := h
    rfl
  obtain ⟨t, n, d, k, rfl, ht, R⟩ := h
  refine ⟨_, (pss_one (ps_ret (pe_tup (pa_cons (pe_op op_mul (pe_ix ix_tup (pv 0) pe_int (fun _ _ => rfl)) (pe_op op_sub pe_int (pe_op op_mul pe_int (pe_op op_modN (pe_callTy call_int1 (by rfl) (Tx.f_int T) (by decide +kernel) (pa_cons (pv 1) pa_nil)) pe_int)))) (pa_cons (pe_op op_mul (pe_ix ix_tup (pv 0) pe_int (fun _ _ => rfl)) (pe_op op_sub pe_int (pe_op op_mul pe_int (pe_op op_modN (pe_op op_fdivN (pe_callTy call_int1 (by rfl) (Tx.f_int T) (by decide +kernel) (pa_cons (pv 1) pa_nil)) pe_int) pe_int)))) pa_nil))))), ?_⟩
  refine ⟨_, rfl, _, _, _, _, rfl, rfl, SqT.of ht, ix0, _, rfl, .inl ⟨_, rfl, _, _, rfl, rfl, (show (2 : Int) ≠ 0 by decide), _, _, rfl, rfl, .inl ⟨by decide, by decide⟩, _, _, rfl, rfl, _, _, rfl, rfl, cm_sgn _ _, ?_⟩⟩
  refine ⟨_, rfl, _, _, _, _, rfl, rfl, SqT.of ht, ix1, _, rfl, .inl ⟨_, rfl, _, _, rfl, rfl, ⟨by decide, by decide⟩, _, _, rfl, rfl, (show (2 : Int) ≠ 0 by decide), _, _, rfl, rfl, .inl ⟨by decide, by decide⟩, _, _, rfl, rfl, _, _, rfl, rfl, cm_sgn _ _, sz2, fun u hu => ?_⟩⟩
  exact R u _ _ _ ((Gr.refl H).upd hu) upd_same (pm_sgn _ _) (pm_sgn _ _)
/-- what a pair must keep -/
structure GoodP (n d : Int) : Prop where
  n1 : -(10 ^ 40) ≤ n
  n2 : n ≤ 10 ^ 40
  d1 : -(10 ^ 40) ≤ d
  d2 : d ≤ 10 ^ 40
  d0 : d ≠ 0
theorem GoodP.pm {n d n' d' : Int} (g : GoodP n d) (h : pm n' n) (h' : pm d' d) : GoodP n' d' := by
  obtain ⟨a, b, c, e, f⟩ := g
  rcases h with h | h <;> rcases h' with h' | h' <;> subst h h' <;> constructor <;> omega
def spNear : Sp := fun vs H Q _ => ∃ (b t : Addr) (n d wy k : Int), vs = [.ref b, .ref t, .int wy, .int k] ∧ Bx b H ∧ TA H t n d ∧ (-(10 ^ 39) < n ∧ n < 10 ^ 39 ∧ 0 < d ∧ d < 10 ^ 39) ∧ ∀ u H' n' d', Kp b H H' → Bx b H' → TA H' u n' d' → GoodP n' d' → Q (.ref u) H'
theorem ok__law_near (T : Tx K mg) (G : Pg P) : FnOk P w K mg base (L2N.CX P w) 2 (a__law_near K) (fdOf K (a__law_near K)) ["box", "near", "way", "turn"] spNear := by
  refine (T.d__law_near).ok sc__law_near (fun vs H Q E h => ?_) (fun cdv A outer s H vs Q E hr h => ?_)
  · obtain ⟨b, t, n, d, wy, k, rfl, _⟩ := h
    rfl
  obtain ⟨b, t, n, d, wy, k, rfl, hb, ht, hs, R⟩ := h
  refine ⟨_, (pss_cons (ps_asg (pv 1) (pg_tup rfl (pgs_cons (pg_name (i := 4) sc__law_near.nd rfl (Or.inl rfl)) (pgs_cons (pg_name (i := 5) sc__law_near.nd rfl (Or.inl rfl)) pgs_nil))))
    (pss_cons (ps_if (pt_cmpR op_eq (pv 2) pe_int (nomark _)) (pss_cons (ps_set (i := 6) sc__law_near.nd rfl (Or.inl rfl) (pe_op op_mul (pe_op op_add pe_int (pe_call (ok__law_take T G) (hr.mono (by decide)) rfl (Tx.g__law_take T) (Tx.d__law_take T).kp (Tx.b__law_take T) .nil passN0 (pa_cons (pv 0) (pa_cons pe_int pa_nil)))) (pe_op op_sub pe_int (pe_op op_mul pe_int (pe_op op_modN (pe_callTy call_int1 (by rfl) (Tx.f_int T) (by decide +kernel) (pa_cons (pv 3) pa_nil)) pe_int)))))
    (pss_one (ps_ret (pe_tup (pa_cons (pe_op op_mul (pv 4) (pv 6)) (pa_cons (pe_op op_mul (pv 5) (pv 6)) pa_nil))))))
    pss_nil)
    (pss_cons (ps_if (pt_cmpR op_eq (pv 2) pe_int (nomark _)) (pss_one (ps_ret (pe_call (ok__law_signed T G) (hr.mono (by decide)) rfl (Tx.g__law_signed T) (Tx.d__law_signed T).kp (Tx.b__law_signed T) .nil passN0 (pa_cons (pe_tup (pa_cons (pe_op op_sub (pe_op op_add (pv 4) pe_int) (pe_op op_mul pe_int (pe_call (ok__law_take T G) (hr.mono (by decide)) rfl (Tx.g__law_take T) (Tx.d__law_take T).kp (Tx.b__law_take T) .nil passN0 (pa_cons (pv 0) (pa_cons pe_int pa_nil))))) (pa_cons (pv 5) pa_nil))) (pa_cons (pv 3) pa_nil)))))
    pss_nil)
    (pss_cons (ps_if (pt_cmpR op_eq (pv 4) pe_int (nomark _)) (pss_one (ps_ret (pe_tup (pa_cons pe_int (pa_cons (pe_un un_neg (pv 5)) pa_nil)))))
    pss_nil)
    (pss_one (ps_ret (pe_call (ok__law_signed T G) (hr.mono (by decide)) rfl (Tx.g__law_signed T) (Tx.d__law_signed T).kp (Tx.b__law_signed T) .nil passN0 (pa_cons (pe_tup (pa_cons (pv 5) (pa_cons (pv 4) pa_nil))) (pa_cons (pv 3) pa_nil))))))))), ?_⟩
  refine ⟨_, rfl, _, _, rfl, SqT.of ht, rfl, _, _, rfl, _, _, rfl, rfl, ?_⟩
  refine ⟨_, rfl, rfl, _, rfl, iI (fun _ => ?_) fun _ => nxt ⟨_, rfl, rfl, _, rfl, iI (fun _ => ?_) fun _ => nxt ⟨_, rfl, rfl, _, rfl, iI (fun hn => ?_) fun hn => nxt ?_⟩⟩⟩
  · refine ⟨_, rfl, b, _, rfl, hb, by decide, by decide, fun r H1 k1 b1 r0 r1 => ?_⟩
    refine ⟨_, _, rfl, rfl, _, rfl, .inl ⟨_, rfl, _, _, rfl, rfl, (show (2 : Int) ≠ 0 by decide), _, _, rfl, rfl, .inl ⟨by decide, by decide⟩, _, _, rfl, rfl, _, _, rfl, rfl, cm_sgn _ _, ?_⟩⟩
    have hf := pm_sgn (1 + r) k
    have cf : ∀ x, CMul x ((1 + r) * (1 - 2 * k.fmod 2)) := fun x => .inr (by rcases hf with h | h <;> omega)
    refine ⟨_, rfl, _, rfl, _, _, rfl, rfl, cf _, _, rfl, _, rfl, _, _, rfl, rfl, cf _, sz2, fun u hu => ?_⟩
    refine R u _ _ _ (k1.trans ((Gr.refl _).upd hu).kp) (b1.gr ((Gr.refl _).upd hu)) upd_same ?_
    have hr9 : r = 0 ∨ r = 1 ∨ r = 2 ∨ r = 3 ∨ r = 4 ∨ r = 5 ∨ r = 6 ∨ r = 7 ∨ r = 8 := by omega
    show GoodP (n * ((1 + r) * (1 - 2 * k.fmod 2))) (d * ((1 + r) * (1 - 2 * k.fmod 2)))
    generalize (1 + r) * (1 - 2 * k.fmod 2) = f at hf
    constructor <;> rcases hf with h | h <;> subst h <;> rcases hr9 with h | h | h | h | h | h | h | h | h <;> subst h <;> omega
  · refine ⟨_, rfl, _, _, rfl, rfl, _, rfl, b, _, rfl, hb, by decide, by decide, fun r H1 k1 b1 r0 r1 => ?_⟩
    refine ⟨_, _, rfl, rfl, .inl ⟨by decide, by decide⟩, _, _, rfl, rfl, _, rfl, sz2, fun u hu => ⟨_, rfl, _, _, _, _, rfl, upd_same, fun u2 H2 n2 d2 g2 t2 p1 p2 => ?_⟩⟩
    have g3 : Gr H1 H2 := ((Gr.refl _).upd hu).trans g2
    refine R u2 _ _ _ (k1.trans g3.kp) (b1.gr g3) t2 (GoodP.pm (n := n + 1 - 2 * r) (d := d) ?_ p1 p2)
    constructor <;> omega
  · refine ⟨_, rfl, _, rfl, sz2, fun u hu => ?_⟩
    refine R u _ _ _ ((Gr.refl _).upd hu).kp (hb.gr ((Gr.refl _).upd hu)) upd_same ?_
    constructor <;> omega
  · refine ⟨_, rfl, _, rfl, sz2, fun u hu => ⟨_, rfl, _, _, _, _, rfl, upd_same, fun u2 H2 n2 d2 g2 t2 p1 p2 => ?_⟩⟩
    have g3 : Gr H H2 := ((Gr.refl _).upd hu).trans g2
    refine R u2 _ _ _ g3.kp (hb.gr g3) t2 (GoodP.pm (n := d) (d := n) ?_ p1 p2)
    constructor <;> omega
/-- a drawn pair; the dues: pairs of whole numbers, the second one positive -/
structure Dues (b l : Addr) (H : Hp) (ts : List Addr) (ps : List (Int × Int)) : Prop where
  at_ : H l = some (.lst (ts.map V.ref))
  len : ts.length = ps.length
  each : ∀ (i : Nat) (t : Addr) (p : Int × Int), ts[i]? = some t → ps[i]? = some p → TA H t p.1 p.2 ∧ 0 < p.2
theorem Dues.kp {b l : Addr} {H H' : Hp} {ts : List Addr} {ps : List (Int × Int)} (d : Dues b l H ts ps) (k : Kp b H H') (hb : Bx b H) (hl : l ≠ b) : Dues b l H' ts ps :=
  ⟨k l _ hl d.at_, d.len, fun i t p h1 h2 => ⟨k.ta hb (d.each i t p h1 h2).1, (d.each i t p h1 h2).2⟩⟩
theorem Dues.get {b l : Addr} {H : Hp} {ts : List Addr} {ps : List (Int × Int)} (d : Dues b l H ts ps) {r : Int} (h0 : 0 ≤ r) (h1 : r < ts.length) : ∃ (i : Nat) (t : Addr) (p : Int × Int), r = (i : Int) ∧ atI (ts.map V.ref) r = some (.ref t) ∧ ts[i]? = some t ∧ ps[i]? = some p ∧ TA H t p.1 p.2 ∧ 0 < p.2 := by
  obtain ⟨i, rfl⟩ : ∃ i : Nat, r = (i : Int) := ⟨r.toNat, by omega⟩
  have hi : i < ts.length := by omega
  have hi2 : i < ps.length := by rw [← d.len]; exact hi
  have e1 := List.getElem?_eq_getElem hi
  have e2 := List.getElem?_eq_getElem hi2
  refine ⟨i, ts[i], ps[i], rfl, atI_nat ?_, e1, e2, d.each i _ _ e1 e2⟩
  rw [List.getElem?_map, e1]
  rfl
theorem mulB {x f A B : Int} (h0 : 0 ≤ x) (h1 : x ≤ A) (h2 : 0 ≤ f) (h3 : f ≤ B) : 0 ≤ x * f ∧ x * f ≤ A * B := ⟨Int.mul_nonneg h0 h2, Int.mul_le_mul h1 h3 h2 (by omega)⟩
theorem absI (x : Int) : (if x < 0 then -x else x) = (x.natAbs : Int) := by split <;> omega
def spPair : Sp := fun vs H Q _ => ∃ (b l : Addr) (ts : List Addr) (ps : List (Int × Int)), vs = [.ref b, .ref l] ∧ Bx b H ∧ Dues b l H ts ps ∧ l ≠ b ∧ ps.length ≤ 5 ∧ ∀ u H' n' d', Kp b H H' → Bx b H' → TA H' u n' d' → GoodP n' d' → Q (.ref u) H'
theorem ok__law_pair (T : Tx K mg) (G : Pg P) : FnOk P w K mg base (L2N.CX P w) 4 (a__law_pair K) (fdOf K (a__law_pair K)) ["box", "dues"] spPair := by
  refine (T.d__law_pair).ok sc__law_pair (fun vs H Q E h => ?_) (fun cdv A outer s H vs Q E hr h => ?_)
  · obtain ⟨b, l, ts, ps, rfl, _⟩ := h
    rfl
  obtain ⟨b, l, ts, ps, rfl, hb, hd, hlb, hps, R⟩ := h
  refine ⟨_, (pss_cons (ps_set (i := 2) sc__law_pair.nd rfl (Or.inl rfl) (pe_call (ok__law_take T G) (hr.mono (by decide)) rfl (Tx.g__law_take T) (Tx.d__law_take T).kp (Tx.b__law_take T) .nil passN0 (pa_cons (pv 0) (pa_cons pe_int pa_nil))))
    (pss_cons (ps_set (i := 3) sc__law_pair.nd rfl (Or.inl rfl) (pe_call (ok__law_take T G) (hr.mono (by decide)) rfl (Tx.g__law_take T) (Tx.d__law_take T).kp (Tx.b__law_take T) .nil passN0 (pa_cons (pv 0) (pa_cons pe_int pa_nil))))
    (pss_cons (ps_if (PW.pt (pw_and (pt_cmpR op_gt (pv 2) pe_int (nomark _)) (pw_and1 (pt_cmpR op_gt (pe_callB call_len_seq (by rfl) (Tx.f_len T) (by decide +kernel) (pa_cons (pv 1) pa_nil)) pe_int (nomark _))))) (pss_cons (ps_set (i := 4) sc__law_pair.nd rfl (Or.inl rfl) (pe_ix ix_list (pv 1) (pe_call (ok__law_take T G) (hr.mono (by decide)) rfl (Tx.g__law_take T) (Tx.d__law_take T).kp (Tx.b__law_take T) .nil passN0 (pa_cons (pv 0) (pa_cons (pe_callB call_len_seq (by rfl) (Tx.f_len T) (by decide +kernel) (pa_cons (pv 1) pa_nil)) pa_nil))) (fun _ _ => rfl)))
    (pss_one (ps_if (PW.pt (pw_and (pt_cmpR op_lt (pe_callB call_abs (by rfl) (Tx.f_abs T) (by decide +kernel) (pa_cons (pe_ix ix_tup (pv 4) pe_int (fun _ _ => rfl)) pa_nil)) (pe_op op_pow pe_int pe_int) (nomark _)) (pw_and1 (pt_cmpR op_lt (pe_ix ix_tup (pv 4) pe_int (fun _ _ => rfl)) (pe_op op_pow pe_int pe_int) (nomark _))))) (pss_one (ps_ret (pe_call (ok__law_near T G) (hr.mono (by decide)) rfl (Tx.g__law_near T) (Tx.d__law_near T).kp (Tx.b__law_near T) .nil passN0 (pa_cons (pv 0) (pa_cons (pv 4) (pa_cons (pv 2) (pa_cons (pv 3) pa_nil)))))))
    pss_nil)))
    pss_nil)
    (pss_cons (ps_if (pt_cmpR op_eq (pv 2) pe_int (nomark _)) (pss_cons (ps_set (i := 5) sc__law_pair.nd rfl (Or.inl rfl) (pe_op op_add pe_int (pe_call (ok__law_take T G) (hr.mono (by decide)) rfl (Tx.g__law_take T) (Tx.d__law_take T).kp (Tx.b__law_take T) .nil passN0 (pa_cons (pv 0) (pa_cons pe_int pa_nil)))))
    (pss_one (ps_set (i := 6) sc__law_pair.nd rfl (Or.inl rfl) (pe_tup (pa_cons (pe_op op_mul (pe_call (ok__law_take T G) (hr.mono (by decide)) rfl (Tx.g__law_take T) (Tx.d__law_take T).kp (Tx.b__law_take T) .nil passN0 (pa_cons (pv 0) (pa_cons pe_int pa_nil))) (pv 5)) (pa_cons (pe_op op_mul (pe_op op_add pe_int (pe_call (ok__law_take T G) (hr.mono (by decide)) rfl (Tx.g__law_take T) (Tx.d__law_take T).kp (Tx.b__law_take T) .nil passN0 (pa_cons (pv 0) (pa_cons pe_int pa_nil)))) (pv 5)) pa_nil))))))
    (pss_one (ps_if (pt_cmpR op_eq (pv 2) pe_int (nomark _)) (pss_one (ps_set (i := 6) sc__law_pair.nd rfl (Or.inl rfl) (pe_tup (pa_cons (pe_call (ok__law_digits T G) (hr.mono (by decide)) rfl (Tx.g__law_digits T) (Tx.d__law_digits T).kp (Tx.b__law_digits T) .nil passN0 (pa_cons (pv 0) (pa_cons pe_int pa_nil))) (pa_cons (pe_op op_add pe_int (pe_op op_modN (pe_callTy call_int1 (by rfl) (Tx.f_int T) (by decide +kernel) (pa_cons (pe_call (ok__law_digits T G) (hr.mono (by decide)) rfl (Tx.g__law_digits T) (Tx.d__law_digits T).kp (Tx.b__law_digits T) .nil passN0 (pa_cons (pv 0) (pa_cons pe_int pa_nil))) pa_nil)) (pe_op op_sub (pe_op op_pow pe_int pe_int) pe_int))) pa_nil)))))
    (pss_one (ps_if (pt_cmpR op_eq (pv 2) pe_int (nomark _)) (pss_cons (ps_set (i := 5) sc__law_pair.nd rfl (Or.inl rfl) (pe_op op_add pe_int (pe_op op_modN (pe_callTy call_int1 (by rfl) (Tx.f_int T) (by decide +kernel) (pa_cons (pe_call (ok__law_digits T G) (hr.mono (by decide)) rfl (Tx.g__law_digits T) (Tx.d__law_digits T).kp (Tx.b__law_digits T) .nil passN0 (pa_cons (pv 0) (pa_cons pe_int pa_nil))) pa_nil)) (pe_op op_sub (pe_op op_pow pe_int pe_int) pe_int))))
    (pss_one (ps_set (i := 6) sc__law_pair.nd rfl (Or.inl rfl) (pe_tup (pa_cons (pe_op op_mul (pe_call (ok__law_digits T G) (hr.mono (by decide)) rfl (Tx.g__law_digits T) (Tx.d__law_digits T).kp (Tx.b__law_digits T) .nil passN0 (pa_cons (pv 0) (pa_cons pe_int pa_nil))) (pv 5)) (pa_cons (pe_op op_mul (pe_op op_add pe_int (pe_op op_modN (pe_callTy call_int1 (by rfl) (Tx.f_int T) (by decide +kernel) (pa_cons (pe_call (ok__law_digits T G) (hr.mono (by decide)) rfl (Tx.g__law_digits T) (Tx.d__law_digits T).kp (Tx.b__law_digits T) .nil passN0 (pa_cons (pv 0) (pa_cons pe_int pa_nil))) pa_nil)) (pe_op op_sub (pe_op op_pow pe_int pe_int) pe_int))) (pv 5)) pa_nil))))))
    (pss_one (ps_set (i := 6) sc__law_pair.nd rfl (Or.inl rfl) (pe_tup (pa_cons (pe_call (ok__law_take T G) (hr.mono (by decide)) rfl (Tx.g__law_take T) (Tx.d__law_take T).kp (Tx.b__law_take T) .nil passN0 (pa_cons (pv 0) (pa_cons pe_int pa_nil))) (pa_cons (pe_op op_add pe_int (pe_call (ok__law_take T G) (hr.mono (by decide)) rfl (Tx.g__law_take T) (Tx.d__law_take T).kp (Tx.b__law_take T) .nil passN0 (pa_cons (pv 0) (pa_cons pe_int pa_nil)))) pa_nil))))))))))
    (pss_one (ps_ret (pe_call (ok__law_signed T G) (hr.mono (by decide)) rfl (Tx.g__law_signed T) (Tx.d__law_signed T).kp (Tx.b__law_signed T) .nil passN0 (pa_cons (pv 6) (pa_cons (pv 3) pa_nil))))))))), ?_⟩
  refine ⟨_, rfl, b, _, rfl, hb, by decide, by decide, fun wy H1 k1 b1 _ _ => ?_⟩
  refine ⟨_, rfl, b, _, rfl, b1, by decide, by decide, fun k H2 k2 b2 _ _ => ?_⟩
  have k12 := k1.trans k2
  have d2 := hd.kp k12 hb hlb
  dsimp only [gName]
  refine seqP (fun σ' H' => ∃ nr : Option V, σ' = ([some (.ref b), some (.ref l), some (.int wy), some (.int k), nr, none, none] : List (Option V)) ∧ Kp b H H' ∧ Bx b H') (fun kk => ?_) ?_
  · have no := fun (nr : Option V) (H' : Hp) (k' : Kp b H H') (b' : Bx b H') => kk ([some (.ref b), some (.ref l), some (.int wy), some (.int k), nr, none, none] : List (Option V)) H' ⟨nr, rfl, k', b'⟩
    refine ⟨_, rfl, _, _, rfl, rfl, _, rfl, iD (fun _ => ?_) fun _ => iF rfl (nxt (no none H2 k12 b2))⟩
    refine ⟨_, rfl, _, _, rfl, .inl (SqL.of d2.at_), _, _, rfl, rfl, _, rfl, iD (fun hlen => ?_) fun _ => nxt (no none H2 k12 b2)⟩
    have hl5 : ts.length ≤ 5 := by rw [hd.len]; exact hps
    rw [List.length_map] at hlen
    refine ⟨_, rfl, _, rfl, _, rfl, _, _, rfl, .inl (SqL.of d2.at_), b, _, rfl, b2, by rw [List.length_map]; exact hlen, by rw [List.length_map]; omega, fun r H3 k3 b3 r0 r1 => ?_⟩
    have d3 := d2.kp k3 b2 hlb
    rw [List.length_map] at r1
    obtain ⟨i, t, ⟨n, d⟩, hi, ea, e1, e2, ht, hp⟩ := d3.get r0 r1
    refine ⟨_, _, _, _, rfl, rfl, SqL.of d3.at_, ea, ?_⟩
    have k13 := k12.trans k3
    refine ⟨_, rfl, _, _, _, _, rfl, rfl, SqT.of ht, ix0, _, rfl, _, _, rfl, rfl, ⟨by decide, by decide, by decide⟩, _, _, rfl, rfl, _, rfl, iD (fun h1 => ?_) fun _ => iF rfl (nxt (no _ H3 k13 b3))⟩
    refine ⟨_, rfl, _, _, _, _, rfl, rfl, SqT.of ht, ix1, _, _, rfl, rfl, ⟨by decide, by decide, by decide⟩, _, _, rfl, rfl, _, rfl, iD (fun h2 => ?_) fun _ => nxt (no _ H3 k13 b3)⟩
    have h1' : (if n < 0 then -n else n) < (10 : Int) ^ 39 := h1
    have h2' : d < (10 : Int) ^ 39 := h2
    rw [absI] at h1'
    refine ⟨_, rfl, _, rfl, _, rfl, _, rfl, b, t, n, d, _, _, rfl, b3, ht, ⟨by omega, by omega, hp, h2'⟩, fun u H4 n' d' k4 b4 t4 g4 => R u H4 n' d' (k13.trans k4) b4 t4 g4⟩
  · rintro _ H3 ⟨nr, rfl, k3, b3⟩
    refine seqP (fun σ' H' => ∃ (fc : Option V) (t : Addr) (n d : Int), σ' = ([some (.ref b), some (.ref l), some (.int wy), some (.int k), nr, fc, some (.ref t)] : List (Option V)) ∧ Kp b H H' ∧ Bx b H' ∧ TA H' t n d ∧ GoodP n d) (fun kk => ?_) ?_
    · refine ⟨_, rfl, rfl, _, rfl, iI (fun _ => ?_) fun _ => ?_⟩
      · refine ⟨_, rfl, b, _, rfl, b3, by decide, by decide, fun f H4 k4 b4 f0 f1 => ⟨_, _, rfl, rfl, ?_⟩⟩
        refine ⟨_, rfl, b, _, rfl, b4, by decide, by decide, fun x H5 k5 b5 x0 x1 => ⟨_, rfl, _, _, rfl, rfl, .inl ⟨by omega, by omega⟩, ?_⟩⟩
        refine ⟨_, rfl, b, _, rfl, b5, by decide, by decide, fun y H6 k6 b6 y0 y1 => ⟨_, _, rfl, rfl, _, rfl, _, _, rfl, rfl, .inl ⟨by omega, by omega⟩, sz2, fun t ht => ?_⟩⟩
        refine kk _ _ ⟨_, t, _, _, rfl, (((k3.trans k4).trans k5).trans k6).trans ((Gr.refl _).upd ht).kp, b6.gr ((Gr.refl _).upd ht), upd_same, ?_⟩
        have m1 := mulB (A := 1000) (B := 1000) x0 (by omega) (show 0 ≤ 1 + f by omega) (by omega)
        have m2 := mulB (A := 1000) (B := 1000) (show 0 ≤ 1 + y by omega) (by omega) (show 0 ≤ 1 + f by omega) (by omega)
        have m3 : (1 + y) * (1 + f) ≠ 0 := Int.mul_ne_zero (by omega) (by omega)
        constructor <;> omega
      refine ⟨_, rfl, rfl, _, rfl, iI (fun _ => ?_) fun _ => ?_⟩
      · refine ⟨_, rfl, b, 5, rfl, b3, by decide, fun x H4 k4 b4 x0 x1 => ?_⟩
        refine ⟨_, rfl, b, 5, rfl, b4, by decide, fun y H5 k5 b5 y0 y1 => .inl ⟨_, rfl, _, _, rfl, rfl, ⟨by decide, by decide, by decide⟩, _, _, rfl, rfl, _, _, rfl, rfl, (show (10 : Int) ^ (40 : Nat) - 1 ≠ 0 by decide +kernel), _, _, rfl, rfl, sz2, fun t ht => ?_⟩⟩
        refine kk _ _ ⟨_, t, _, _, rfl, ((k3.trans k4).trans k5).trans ((Gr.refl _).upd ht).kp, b5.gr ((Gr.refl _).upd ht), upd_same, ?_⟩
        have q1 := Int.fmod_nonneg_of_pos y (b := 10 ^ 40 - 1) (by decide)
        have q2 := Int.fmod_lt_of_pos y (b := 10 ^ 40 - 1) (by decide)
        show GoodP x (1 + y.fmod (10 ^ 40 - 1))
        constructor <;> omega
      refine ⟨_, rfl, rfl, _, rfl, iI (fun _ => ?_) fun _ => ?_⟩
      · refine ⟨_, rfl, b, 3, rfl, b3, by decide, fun f H4 k4 b4 f0 f1 => .inl ⟨_, rfl, _, _, rfl, rfl, ⟨by decide, by decide, by decide⟩, _, _, rfl, rfl, _, _, rfl, rfl, (show (10 : Int) ^ (24 : Nat) - 1 ≠ 0 by decide +kernel), _, _, rfl, rfl, ?_⟩⟩
        refine ⟨_, rfl, b, 2, rfl, b4, by decide, fun x H5 k5 b5 x0 x1 => ⟨_, rfl, _, _, rfl, rfl, .inl ⟨by omega, by omega⟩, ?_⟩⟩
        refine ⟨_, rfl, b, 2, rfl, b5, by decide, fun y H6 k6 b6 y0 y1 => .inl ⟨_, rfl, _, _, rfl, rfl, ⟨by decide, by decide, by decide⟩, _, _, rfl, rfl, _, _, rfl, rfl, (show (10 : Int) ^ (16 : Nat) - 1 ≠ 0 by decide +kernel), _, _, rfl, rfl, _, rfl, _, _, rfl, rfl, ?_⟩⟩
        have q1 := Int.fmod_nonneg_of_pos y (b := 10 ^ 16 - 1) (by decide)
        have q2 := Int.fmod_lt_of_pos y (b := 10 ^ 16 - 1) (by decide)
        have q3 := Int.fmod_nonneg_of_pos f (b := 10 ^ 24 - 1) (by decide)
        have q4 := Int.fmod_lt_of_pos f (b := 10 ^ 24 - 1) (by decide)
        refine ⟨.inl ⟨(show -(2 ^ 64) < 1 + y.fmod (10 ^ 16 - 1) by omega), (show 1 + y.fmod (10 ^ 16 - 1) < 2 ^ 64 by omega)⟩, sz2, fun t ht => ?_⟩
        refine kk _ _ ⟨_, t, _, _, rfl, (((k3.trans k4).trans k5).trans k6).trans ((Gr.refl _).upd ht).kp, b6.gr ((Gr.refl _).upd ht), upd_same, ?_⟩
        show GoodP (x * (1 + f.fmod (10 ^ 24 - 1))) ((1 + y.fmod (10 ^ 16 - 1)) * (1 + f.fmod (10 ^ 24 - 1)))
        generalize y.fmod (10 ^ 16 - 1) = z at q1 q2
        generalize f.fmod (10 ^ 24 - 1) = g at q3 q4
        have m1 := mulB (A := 10 ^ 16) (B := 10 ^ 24) x0 (by omega) (show 0 ≤ 1 + g by omega) (by omega)
        have m2 := mulB (A := 10 ^ 16) (B := 10 ^ 24) (show 0 ≤ 1 + z by omega) (by omega) (show 0 ≤ 1 + g by omega) (by omega)
        have m3 : (1 + z) * (1 + g) ≠ 0 := Int.mul_ne_zero (by omega) (by omega)
        generalize (1 + z) * (1 + g) = u at m2 m3
        generalize x * (1 + g) = v at m1
        constructor <;> omega
      · refine ⟨_, rfl, b, _, rfl, b3, by decide, by decide, fun x H4 k4 b4 x0 x1 => ?_⟩
        refine ⟨_, rfl, b, _, rfl, b4, by decide, by decide, fun y H5 k5 b5 y0 y1 => ⟨_, _, rfl, rfl, sz2, fun t ht => ?_⟩⟩
        refine kk _ _ ⟨_, t, _, _, rfl, ((k3.trans k4).trans k5).trans ((Gr.refl _).upd ht).kp, b5.gr ((Gr.refl _).upd ht), upd_same, ?_⟩
        constructor <;> omega
    · rintro _ H4 ⟨fc, t, n, d, rfl, k4, b4, t4, g4⟩
      refine ⟨_, rfl, _, rfl, t, n, d, _, rfl, t4, fun u H5 n' d' g5 t5 p1 p2 => R u H5 n' d' (k4.trans g5.kp) (b4.gr g5) t5 (g4.pm p1 p2)⟩
end
end K00
namespace K00
open PySem PySem.Spec PyProof.Rows L2 L2.LX
open PySem.W (Frag)
section
variable {P : Program} {w : World} {K : Frag} {mg : Str → Option Value} {base : Heap}
theorem kb_Ratio___init___den (T : Tx K mg) : KBn K (fdOf K (a_Ratio___init__ K)) ["self", "num", "den"] 2 ["den"] (fun us ws => us ++ ws) (fun vs zs => vs ++ zs) := by
  obtain ⟨its, k⟩ := (T.d_Ratio___init__).kbindsD (ps := ["self", "num", "den"]) 2 ["den"] (fun {α} vs _ zs => vs ++ zs) (by simp) (fun r1 _ r3 => r1.append r3) fun T0 kV doc pm an cdv ct us its ws hu hi hw => by
    match us, hu with
    | [_, _], _ => match its, hi with
      | [_], _ => match ws, hw with
        | [_], _ => exact ⟨_, rfl, rfl⟩
  exact k
noncomputable def ds1 (T : Tx K mg) : List Value := (bd_Ratio___init___1 T).choose
theorem bds_Ratio___init___1 (T : Tx K mg) : Vals [.int 1] (ds1 T) ∧ Binds K (fdOf K (a_Ratio___init__ K)) ["self", "num", "den"] (ds1 T) := (bd_Ratio___init___1 T).choose_spec
theorem GoodP.s133 {n d : Int} (g : GoodP n d) : sm 133 n ∧ sm 133 d := by
  obtain ⟨a, b, c, e, f⟩ := g
  have h : (10 : Nat) ^ 40 < 2 ^ 133 := by decide
  unfold K00.sm
  omega
theorem GoodP.sm {n d : Int} (g : GoodP n d) : sm 8100 n ∧ sm 8100 d := ⟨g.s133.1.mono, g.s133.2.mono⟩
/-- the ratio of a drawn pair -/
def spMade (K : Frag) : Sp := fun vs H Q _ => ∃ (b t : Addr) (n d : Int), vs = [.ref b, .ref t] ∧ Bx b H ∧ TA H t n d ∧ GoodP n d ∧ ∀ x H', Kp b H H' → Bx b H' → RA (ga K "Ratio") H' x (Rat.divInt n d) → Q (.ref x) H'
theorem ok__law_made (T : Tx K mg) (G : Pg P) : FnOk P w K mg base (L2N.CX P w) 6 (a__law_made K) (fdOf K (a__law_made K)) ["box", "pair"] (spMade K) := by
  refine (T.d__law_made).ok sc__law_made (fun vs H Q E h => ?_) (fun cdv A outer s H vs Q E hr h => ?_)
  · obtain ⟨b, t, n, d, rfl, _⟩ := h
    rfl
  obtain ⟨b, t, n, d, rfl, hb, ht, g, R⟩ := h
  obtain ⟨sn, sd⟩ := g.sm
  refine ⟨_, (pss_cons (ps_set (i := 2) sc__law_made.nd rfl (Or.inl rfl) (pe_call (ok__law_take T G) (hr.mono (by decide)) rfl (Tx.g__law_take T) (Tx.d__law_take T).kp (Tx.b__law_take T) .nil passN0 (pa_cons (pv 0) (pa_cons pe_int pa_nil))))
    (pss_cons (ps_if (PW.pt (pw_and (pt_cmpR op_eq (pe_ix ix_tup (pv 1) pe_int (fun _ _ => rfl)) pe_int (nomark _)) (pw_and1 (pt_cmpR op_gt (pv 2) pe_int (nomark _))))) (pss_one (ps_ret (pe_make (Tx.m_Ratio T) (ok_Ratio___init__ T G) (hr.mono (by decide)) rfl (Tx.g_Ratio T) (bds_Ratio___init___1 T).2 (bds_Ratio___init___1 T).1 passN0 (pa_cons (pe_ix ix_tup (pv 1) pe_int (fun _ _ => rfl)) pa_nil))))
    pss_nil)
    (pss_cons (ps_if (pt_cmpR op_eq (pv 2) pe_int (nomark _)) (pss_one (ps_ret (pe_makeN (n := 1) (Tx.m_Ratio T) (ok_Ratio___init__ T G) (hr.mono (by decide)) rfl (Tx.g_Ratio T) (kb_Ratio___init___den T) passN0 (pa_cons (pe_ix ix_tup (pv 1) pe_int (fun _ _ => rfl)) pa_nil) (pk_cons (pe_ix ix_tup (pv 1) pe_int (fun _ _ => rfl)) pk_nil))))
    pss_nil)
    (pss_one (ps_ret (pe_make (Tx.m_Ratio T) (ok_Ratio___init__ T G) (hr.mono (by decide)) rfl (Tx.g_Ratio T) (bd_Ratio___init___2 T).2 .nil passN0 (pa_cons (pe_ix ix_tup (pv 1) pe_int (fun _ _ => rfl)) (pa_cons (pe_ix ix_tup (pv 1) pe_int (fun _ _ => rfl)) pa_nil)))))))), ?_⟩
  refine ⟨_, rfl, b, _, rfl, hb, by decide, by decide, fun wy H1 k1 b1 _ _ => ?_⟩
  have t1 := k1.ta hb ht
  have fin : ∀ x H', Gr H1 H' → H1 x = none → RA (ga K "Ratio") H' x (Rat.divInt n d) → Q (.ref x) H' := fun x H' g' _ r => R x H' (k1.trans g'.kp) (b1.gr g') r
  refine ⟨_, rfl, _, _, _, _, rfl, rfl, SqT.of t1, ix1, rfl, _, rfl, iI (fun hd => ?_) fun _ => iF rfl (nxt ?_)⟩
  · refine ⟨_, rfl, _, _, rfl, rfl, _, rfl, iD (fun _ => ?_) fun _ => nxt ?_⟩
    · subst hd
      exact ⟨_, rfl, _, _, _, _, rfl, rfl, SqT.of t1, ix0, mkRat sn sd (by decide) fin⟩
    · refine ⟨_, rfl, rfl, _, rfl, iI (fun _ => ?_) fun _ => nxt ?_⟩
      · exact ⟨_, rfl, _, _, _, _, rfl, rfl, SqT.of t1, ix0, _, rfl, _, _, _, _, rfl, rfl, SqT.of t1, ix1, rfl, rfl, mkRat sn sd g.d0 fin⟩
      · exact ⟨_, rfl, _, _, _, _, rfl, rfl, SqT.of t1, ix0, _, rfl, _, _, _, _, rfl, rfl, SqT.of t1, ix1, mkRat sn sd g.d0 fin⟩
  · refine ⟨_, rfl, rfl, _, rfl, iI (fun _ => ?_) fun _ => nxt ?_⟩
    · exact ⟨_, rfl, _, _, _, _, rfl, rfl, SqT.of t1, ix0, _, rfl, _, _, _, _, rfl, rfl, SqT.of t1, ix1, rfl, rfl, mkRat sn sd g.d0 fin⟩
    · exact ⟨_, rfl, _, _, _, _, rfl, rfl, SqT.of t1, ix0, _, rfl, _, _, _, _, rfl, rfl, SqT.of t1, ix1, mkRat sn sd g.d0 fin⟩
def spWhole : Sp := fun vs H Q _ => ∃ i : Int, vs = [.int i] ∧ Q (.bl true) H
theorem ok__law_whole (T : Tx K mg) (G : Pg P) : FnOk P w K mg base (L2N.CX P w) 1 (a__law_whole K) (fdOf K (a__law_whole K)) ["thing"] spWhole := by
  refine (T.d__law_whole).ok sc__law_whole (fun vs H Q E h => ?_) (fun cdv A outer s H vs Q E hr h => ?_)
  · obtain ⟨i, rfl, _⟩ := h
    rfl
  obtain ⟨i, rfl, R⟩ := h
  refine ⟨_, (pss_one (ps_ret (pe_and (pe_callB call_isi (by rfl) (Tx.f_isinstance T) (by decide +kernel) (pa_cons (pv 0) (pa_cons (pe_bltn (v := .ty "int") (by rfl) (Tx.f_int T) (by decide +kernel) rfl) pa_nil))) (pe_one (pe_not (pe_callB call_isi (by rfl) (Tx.f_isinstance T) (by decide +kernel) (pa_cons (pv 0) (pa_cons (pe_bltn (v := .ty "bool") (by rfl) (Tx.f_bool T) (by decide +kernel) rfl) pa_nil)))))))), ?_⟩
  refine ⟨_, rfl, _, _, _, _, _, rfl, .ty _, (Bt.int i).ty, kit_ty (a := "int") (b := "int") (r := true) (by decide +kernel), _, rfl, ?_⟩
  exact iT rfl ⟨_, rfl, _, _, _, _, _, rfl, .ty _, (Bt.int i).ty, kit_ty (a := "int") (b := "bool") (r := false) (by decide +kernel), _, rfl, R⟩
theorem okH__law_whole (T : Tx K mg) (G : Pg P) : L2H.FnH P w K mg base (L2N.CX P w) 1 (a__law_whole K) (fdOf K (a__law_whole K)) ["thing"] spWhole := by
  refine okH (T.d__law_whole) sc__law_whole (fun vs H Q E h => ?_) (fun cdv A outer s H vs Q E p hp hr h => ?_)
  · obtain ⟨i, rfl, _⟩ := h
    rfl
  obtain ⟨i, rfl, R⟩ := h
  refine ⟨_, (pss_one (ps_ret (pe_and (pe_callB call_isi (by rfl) (Tx.f_isinstance T) (by decide +kernel) (pa_cons (pv 0) (pa_cons (pe_bltn (v := .ty "int") (by rfl) (Tx.f_int T) (by decide +kernel) rfl) pa_nil))) (pe_one (pe_not (pe_callB call_isi (by rfl) (Tx.f_isinstance T) (by decide +kernel) (pa_cons (pv 0) (pa_cons (pe_bltn (v := .ty "bool") (by rfl) (Tx.f_bool T) (by decide +kernel) rfl) pa_nil)))))))), ?_⟩
  refine ⟨_, rfl, _, _, _, _, _, rfl, .ty _, (Bt.int i).ty, kit_ty (a := "int") (b := "int") (r := true) (by decide +kernel), _, rfl, ?_⟩
  exact iT rfl ⟨_, rfl, _, _, _, _, _, rfl, .ty _, (Bt.int i).ty, kit_ty (a := "int") (b := "bool") (r := false) (by decide +kernel), _, rfl, R⟩
/-- the ratio has just these parts -/
def spIs (K : Frag) : Sp := fun vs H Q _ => ∃ (a t : Addr) (q : Rat) (n d : Int), vs = [.ref a, .ref t] ∧ RA (ga K "Ratio") H a q ∧ TA H t n d ∧ q.num = n ∧ (q.den : Int) = d ∧ ∀ H', Gr H H' → Q (.bl true) H'
theorem ok__law_is (T : Tx K mg) (G : Pg P) : FnOk P w K mg base (L2N.CX P w) 2 (a__law_is K) (fdOf K (a__law_is K)) ["told", "due"] (spIs K) := by
  refine (T.d__law_is).ok sc__law_is (fun vs H Q E h => ?_) (fun cdv A outer s H vs Q E hr h => ?_)
  · obtain ⟨a, t, q, n, d, rfl, _⟩ := h
    rfl
  obtain ⟨a, t, q, n, d, rfl, ⟨dx, ha⟩, ht, hn, hd, R⟩ := h
  refine ⟨_, (pss_cons (ps_if (PW.pt (pw_or (pt_not (pt_val (pe_callB call_isi (by rfl) (Tx.f_isinstance T) (by decide +kernel) (pa_cons (pv 0) (pa_cons (pe_glob (v := .ref _) rfl (Tx.g_Ratio T) rfl) pa_nil))))) (pw_or (pt_not (pt_val (pe_call (ok__law_whole T G) (hr.mono (by decide)) rfl (Tx.g__law_whole T) (Tx.d__law_whole T).kp (Tx.b__law_whole T) .nil passN0 (pa_cons (pe_fld (pv 0) rfl) pa_nil)))) (pw_or1 (pt_not (pt_val (pe_call (ok__law_whole T G) (hr.mono (by decide)) rfl (Tx.g__law_whole T) (Tx.d__law_whole T).kp (Tx.b__law_whole T) .nil passN0 (pa_cons (pe_fld (pv 0) rfl) pa_nil)))))))) (pss_one (ps_ret pe_bl))
    pss_nil)
    (pss_one (ps_ret (pe_cmpR (op_eqD hr.units) (pe_tup (pa_cons (pe_fld (pv 0) rfl) (pa_cons (pe_fld (pv 0) rfl) pa_nil))) (pv 1) (nomark _))))), ?_⟩
  refine ⟨_, rfl, _, _, _, _, _, rfl, .own _, (T.i_Ratio).ty T.c_Ratio ha, (T.i_Ratio).self, _, rfl, iF rfl ?_⟩
  refine ⟨_, rfl, _, _, _, _, _, rfl, ha, T.c_Ratio, T.n_Ratio_num, rfl, _, rfl, _, rfl, iF rfl ?_⟩
  refine ⟨_, rfl, _, _, _, _, _, rfl, ha, T.c_Ratio, T.n_Ratio_den, rfl, _, rfl, _, rfl, iF rfl ?_⟩
  refine ⟨_, rfl, _, _, _, _, _, rfl, ha, T.c_Ratio, T.n_Ratio_num, rfl, _, rfl, _, _, _, _, _, rfl, ha, T.c_Ratio, T.n_Ratio_den, rfl, sz2, fun p hp => ⟨_, rfl, ?_⟩⟩
  have ht2 : TA (upd H p (.tup [.int q.num, .int (q.den : Int)])) t n d := (Gr.refl H).upd hp _ _ ht
  refine ⟨.tuple [.int q.num, .int (q.den : Int)], .tuple [.int n, .int d], .tup (SqT.of upd_same) (.cons (.int _) (.cons (.int _) .nil)), .tup (SqT.of ht2) (.cons (.int _) (.cons (.int _) .nil)), rfl, rfl, ?_⟩
  have e : PyData.eqv (.tuple [.int q.num, .int (q.den : Int)]) (.tuple [.int n, .int d]) = true := by
    rw [hn, hd]
    simp [PyData.eqv, PyData.eqvAll]
  rw [e]
  exact R _ ((Gr.refl H).upd hp)
end
end K00
namespace K00
open PySem PySem.Spec PyProof.Rows L2 L2.LX
open PySem.W (Frag)
section
variable {P : Program} {w : World} {K : Frag} {mg : Str → Option Value} {base : Heap}
theorem sm0 {n : Nat} : sm n 0 := Nat.two_pow_pos n
def spZero : Sp := fun vs H Q _ => ∃ n : Int, vs = [.int n] ∧ sm 8100 n ∧ ∀ H', Gr H H' → Q (.bl true) H'
theorem gr_two {H : Hp} {x dx e : Addr} {o o1 o2 : HO} (h : H x = none) (h' : H dx = none) (he : upd (upd H dx o) x o1 e = none) : Gr H (upd (upd (upd H dx o) x o1) e o2) := fun a z q => by
  have h1 := ne_of_none q h
  have h2 := ne_of_none q h'
  have q2 : upd (upd H dx o) x o1 a = some z := by
    rw [upd_ne h1, upd_ne h2]
    exact q
  rw [upd_ne (ne_of_none q2 he)]
  exact q2
theorem ok__law_zero_refused (T : Tx K mg) (G : Pg P) : FnOk P w K mg base (L2N.CX P w) 5 (a__law_zero_refused K) (fdOf K (a__law_zero_refused K)) ["top"] spZero := by
  refine (T.d__law_zero_refused).ok sc__law_zero_refused (fun vs H Q E h => ?_) (fun cdv A outer s H vs Q E hr h => ?_)
  · obtain ⟨n, rfl, _⟩ := h
    rfl
  obtain ⟨n, rfl, hn, R⟩ := h
  refine ⟨_, (pss_cons (L2N.ps_try_as (i := 1) rfl rfl sc__law_zero_refused.nd rfl rfl ⟨rfl, by decide, .inl (Tx.e_InvalidRatio T).1⟩ (L2N.takes_of rfl rfl rfl rfl) (fun W pn xe tk _ => (pss_one (ps_expr (pe_makeT (Tx.m_Ratio T) (ok_Ratio___init__ T G) (hr.mono (by decide)) rfl (Tx.g_Ratio T) (bd_Ratio___init___2 T).2 .nil (fun σ => L2N.passAt tk σ) (pa_cons (pv 0) (pa_cons pe_int pa_nil)))))) (fun a oe cls d pn hz hf => (pss_one (ps_ret (pe_and (L2H.pe_callH (okH__law_whole T G) (roomM (hr.mono (by decide))) (hotOf hz hf) rfl (Tx.g__law_whole T) (Tx.d__law_whole T).kp (Tx.b__law_whole T) (fun _ => passNA) (pa_cons (pe_xf (Tx.e_InvalidRatio T).2.xf (Tx.n_InvalidRatio T) hz.zc hf (pv 1)) pa_nil)) (pe_one (pe_cmpR op_eq (pe_xf (Tx.e_InvalidRatio T).2.xf (Tx.n_InvalidRatio T) hz.zc hf (pv 1)) pe_int (nomark _))))))))
    (pss_one (ps_ret pe_bl))), ?_⟩
  refine ⟨_, rfl, fun x dx hx hdx hne => ⟨x, dx, n, 0, rfl, upd_same, hn, sm0, fun h => absurd rfl h, fun _ e he => ?_⟩⟩
  refine ⟨true, (Tx.e_InvalidRatio T).2.exm, fun _ a hea => ?_, fun h => nomatch h⟩
  refine ⟨_, rfl, rfl, rfl, e, _, _, rfl, upd_same, rfl, 0, rfl, ?_⟩
  refine ⟨true, rfl, iT rfl ?_⟩
  refine ⟨_, rfl, rfl, rfl, e, _, _, rfl, upd_same, rfl, rfl, ?_⟩
  exact R _ (gr_two hx hdx he)
/-- all of two ratios -/
structure Two (K : Frag) (H : Hp) (a b t u : Addr) (p q : Rat) : Prop where
  ra : RA (ga K "Ratio") H a p
  rb : RA (ga K "Ratio") H b q
  ta : TA H t p.num p.den
  tb : TA H u q.num q.den
  sa : rsm 1500 p
  sb : rsm 1500 q
theorem Two.gr {K : Frag} {H H' : Hp} {a b t u : Addr} {p q : Rat} (h : Two K H a b t u p q) (g : Gr H H') : Two K H' a b t u p q := ⟨h.ra.gr g, h.rb.gr g, g _ _ h.ta, g _ _ h.tb, h.sa, h.sb⟩
def spTwo (K : Frag) : Sp := fun vs H Q _ => ∃ (a b t u : Addr) (p q : Rat), vs = [.ref a, .ref b, .ref t, .ref u] ∧ Two K H a b t u p q ∧ ∀ H', Gr H H' → Q (.bl true) H'
theorem ok__law_over_right (T : Tx K mg) (G : Pg P) : FnOk P w K mg base (L2N.CX P w) 6 (a__law_over_right K) (fdOf K (a__law_over_right K)) ["one", "other", "first", "second"] (spTwo K) := by
  refine (T.d__law_over_right).ok sc__law_over_right (fun vs H Q E h => ?_) (fun cdv A outer s H vs Q E hr h => ?_)
  · obtain ⟨a, b, t, u, p, q, rfl, _⟩ := h
    rfl
  obtain ⟨a, b, t, u, p, q, rfl, h, R⟩ := h
  obtain ⟨dx, ha⟩ := h.ra
  obtain ⟨dy, hb⟩ := h.rb
  refine ⟨_, (pss_cons (L2N.ps_try_many rfl rfl (L2N.takes_of rfl rfl rfl rfl) (fun W pn xe tk _ => (pss_one (ps_set (i := 4) sc__law_over_right.nd rfl (Or.inl rfl) (pe_methT (pv 0) (Tx.c_Ratio T) (Tx.o_Ratio_over T).2 (ok_Ratio_over T G) (hr.mono (by decide)) (Tx.b_Ratio_over T) (fun σ => L2N.passAt tk σ) (pa_cons (pv 1) pa_nil))))) (.cons ⟨rfl, by decide, .inl (Tx.e_ZeroChance T).1⟩ (fun a oe cls d pn hz hf => (pss_one (ps_ret (pe_cmpR op_eq (pe_ix (ix_tupS (K := K) rfl) (pv 3) pe_int (fun _ _ => rfl)) pe_int (nomark _))))) .nil))
    (pss_one (ps_ret (pe_and (pe_cmpR op_ne (pe_ix ix_tup (pv 3) pe_int (fun _ _ => rfl)) pe_int (nomark _)) (pe_one (pe_call (ok__law_is T G) (hr.mono (by decide)) rfl (Tx.g__law_is T) (Tx.d__law_is T).kp (Tx.b__law_is T) .nil passN0 (pa_cons (pv 4) (pa_cons (pe_call (ok__law_lowest T G) (hr.mono (by decide)) rfl (Tx.g__law_lowest T) (Tx.d__law_lowest T).kp (Tx.b__law_lowest T) .nil passN0 (pa_cons (pe_op op_mulW (pe_ix ix_tup (pv 2) pe_int (fun _ _ => rfl)) (pe_ix ix_tup (pv 3) pe_int (fun _ _ => rfl))) (pa_cons (pe_op op_mulW (pe_ix ix_tup (pv 2) pe_int (fun _ _ => rfl)) (pe_ix ix_tup (pv 3) pe_int (fun _ _ => rfl))) pa_nil))) pa_nil)))))))), ?_⟩
  refine ⟨_, rfl, a, dx, _, rfl, ha, rfl, _, rfl, a, b, p, q, rfl, h.ra, h.rb, h.sa.mono, h.sb.mono, fun h0 x H1 g1 _ rx => ?_, fun h0 => ?_⟩
  · have h1 := h.gr g1
    have t1 := h1.ta
    have u1 := h1.tb
    refine ⟨_, rfl, _, _, _, _, rfl, rfl, SqT.of u1, ix0, rfl, _, rfl, iIn (fun _ => ?_) fun e => absurd e h0⟩
    refine ⟨_, rfl, _, rfl, _, _, _, _, rfl, rfl, SqT.of t1, ix0, _, rfl, _, _, _, _, rfl, rfl, SqT.of u1, ix1, _, _, rfl, rfl, h.sa.num.mulOk h.sb.den, _, rfl, _, _, _, _, rfl, rfl, SqT.of t1, ix1, _, rfl, _, _, _, _, rfl, rfl, SqT.of u1, ix0, _, _, rfl, rfl, h.sa.den.mulOk h.sb.num, _, _, rfl, Int.mul_ne_zero (den0 p) h0, (h.sa.den.mul h.sb.num).mono (by decide), fun v H2 g2 _ v2 => ?_⟩
    exact ⟨x, v, _, _, _, rfl, rx.gr g2, v2, rfl, rfl, fun H3 g3 => R H3 ((g1.trans g2).trans g3)⟩
  · refine ⟨true, (Tx.e_ZeroChance T).2.exm, fun _ c hc => ?_, fun h => nomatch h⟩
    refine ⟨_, rfl, _, _, _, _, rfl, rfl, SqT.of h.tb, ix0, rfl, ?_⟩
    rw [h0]
    exact R H (Gr.refl H)
theorem ok__law_pair_right (T : Tx K mg) (G : Pg P) : FnOk P w K mg base (L2N.CX P w) 7 (a__law_pair_right K) (fdOf K (a__law_pair_right K)) ["one", "other", "first", "second"] (spTwo K) := by
  refine (T.d__law_pair_right).ok sc__law_pair_right (fun vs H Q E h => ?_) (fun cdv A outer s H vs Q E hr h => ?_)
  · obtain ⟨a, b, t, u, p, q, rfl, _⟩ := h
    rfl
  obtain ⟨a, b, t, u, p, q, rfl, h, R⟩ := h
  refine ⟨_, (pss_cons (ps_set (i := 4) sc__law_pair_right.nd rfl (Or.inl rfl) (pe_op op_mulW (pe_ix ix_tup (pv 2) pe_int (fun _ _ => rfl)) (pe_ix ix_tup (pv 3) pe_int (fun _ _ => rfl))))
    (pss_cons (ps_set (i := 5) sc__law_pair_right.nd rfl (Or.inl rfl) (pe_op op_mulW (pe_ix ix_tup (pv 3) pe_int (fun _ _ => rfl)) (pe_ix ix_tup (pv 2) pe_int (fun _ _ => rfl))))
    (pss_cons (ps_set (i := 6) sc__law_pair_right.nd rfl (Or.inl rfl) (pe_op op_mulW (pe_ix ix_tup (pv 2) pe_int (fun _ _ => rfl)) (pe_ix ix_tup (pv 3) pe_int (fun _ _ => rfl))))
    (pss_cons (ps_if (pt_not (pt_val (pe_call (ok__law_is T G) (hr.mono (by decide)) rfl (Tx.g__law_is T) (Tx.d__law_is T).kp (Tx.b__law_is T) .nil passN0 (pa_cons (pe_op (op_own2 (ok_Ratio___add__ T G) (hr.mono (by decide)) (Tx.b_Ratio___add__ T) passN0 (Tx.sf_Ratio T) (Tx.o_Ratio___add__ T).1) (pv 0) (pv 1)) (pa_cons (pe_call (ok__law_lowest T G) (hr.mono (by decide)) rfl (Tx.g__law_lowest T) (Tx.d__law_lowest T).kp (Tx.b__law_lowest T) .nil passN0 (pa_cons (pe_op op_add (pv 4) (pv 5)) (pa_cons (pv 6) pa_nil))) pa_nil))))) (pss_one (ps_ret pe_bl))
    pss_nil)
    (pss_cons (ps_if (pt_not (pt_val (pe_call (ok__law_is T G) (hr.mono (by decide)) rfl (Tx.g__law_is T) (Tx.d__law_is T).kp (Tx.b__law_is T) .nil passN0 (pa_cons (pe_op (op_own2 (ok_Ratio___sub__ T G) (hr.mono (by decide)) (Tx.b_Ratio___sub__ T) passN0 (Tx.sf_Ratio T) (Tx.o_Ratio___sub__ T).1) (pv 0) (pv 1)) (pa_cons (pe_call (ok__law_lowest T G) (hr.mono (by decide)) rfl (Tx.g__law_lowest T) (Tx.d__law_lowest T).kp (Tx.b__law_lowest T) .nil passN0 (pa_cons (pe_op op_sub (pv 4) (pv 5)) (pa_cons (pv 6) pa_nil))) pa_nil))))) (pss_one (ps_ret pe_bl))
    pss_nil)
    (pss_cons (ps_if (pt_not (pt_val (pe_call (ok__law_is T G) (hr.mono (by decide)) rfl (Tx.g__law_is T) (Tx.d__law_is T).kp (Tx.b__law_is T) .nil passN0 (pa_cons (pe_op (op_own2 (ok_Ratio___mul__ T G) (hr.mono (by decide)) (Tx.b_Ratio___mul__ T) passN0 (Tx.sf_Ratio T) (Tx.o_Ratio___mul__ T).1) (pv 0) (pv 1)) (pa_cons (pe_call (ok__law_lowest T G) (hr.mono (by decide)) rfl (Tx.g__law_lowest T) (Tx.d__law_lowest T).kp (Tx.b__law_lowest T) .nil passN0 (pa_cons (pe_op op_mulW (pe_ix ix_tup (pv 2) pe_int (fun _ _ => rfl)) (pe_ix ix_tup (pv 3) pe_int (fun _ _ => rfl))) (pa_cons (pv 6) pa_nil))) pa_nil))))) (pss_one (ps_ret pe_bl))
    pss_nil)
    (pss_cons (ps_set (i := 7) sc__law_pair_right.nd rfl (Or.inl rfl) (pe_meth (pv 0) (Tx.c_Ratio T) (Tx.o_Ratio_less T).2 (ok_Ratio_less T G) (hr.mono (by decide)) (Tx.b_Ratio_less T) .nil passN0 (pa_cons (pv 1) pa_nil)))
    (pss_cons (ps_if (PW.pt (pw_or (pt_not (pt_val (pe_callB call_isi (by rfl) (Tx.f_isinstance T) (by decide +kernel) (pa_cons (pv 7) (pa_cons (pe_bltn (v := .ty "bool") (by rfl) (Tx.f_bool T) (by decide +kernel) rfl) pa_nil))))) (pw_or1 (pt_cmpR op_ne (pv 7) (pe_cmpR op_lt (pv 4) (pv 5) (nomark _)) (nomark _))))) (pss_one (ps_ret pe_bl))
    pss_nil)
    (pss_cons (ps_if (pt_cmpR op_ne (pe_callTy call_bool1 (by rfl) (Tx.f_bool T) (by decide +kernel) (pa_cons (pe_cmpR (op_ownEq (ok_Ratio___eq__ T G) (hr.mono (by decide)) (Tx.b_Ratio___eq__ T) passN0 (Tx.o_Ratio___eq__ T).1) (pv 0) (pv 1) (nomark _)) pa_nil)) (pe_cmpR op_eq (pv 4) (pv 5) (nomark _)) (nomark _)) (pss_one (ps_ret pe_bl))
    pss_nil)
    (pss_one (ps_ret (pe_call (ok__law_over_right T G) (hr.mono (by decide)) rfl (Tx.g__law_over_right T) (Tx.d__law_over_right T).kp (Tx.b__law_over_right T) .nil passN0 (pa_cons (pv 0) (pa_cons (pv 1) (pa_cons (pv 2) (pa_cons (pv 3) pa_nil)))))))))))))))), ?_⟩
  have dd : (p.den : Int) * q.den ≠ 0 := Int.mul_ne_zero (den0 p) (den0 q)
  have sdd : sm 8100 ((p.den : Int) * q.den) := (h.sa.den.mul h.sb.den).mono (by decide)
  have bin : ∀ {n d : Rat → Rat → Int} {H0 : Hp} {Q' : VK} {E' : XK}, Gr H H0 → (∀ x H', Gr H0 H' → RA (ga K "Ratio") H' x (Rat.divInt (n p q) (d p q)) → Q' (.ref x) H') → spBin K n d [.ref a, .ref b] H0 Q' E' :=
    fun g q' => ⟨a, b, p, q, rfl, h.ra.gr g, h.rb.gr g, h.sa.mono, h.sb.mono, fun x H' g' _ r => q' x H' g' r⟩
  refine ⟨_, rfl, _, _, _, _, rfl, rfl, SqT.of h.ta, ix0, _, rfl, _, _, _, _, rfl, rfl, SqT.of h.tb, ix1, _, _, rfl, rfl, h.sa.num.mulOk h.sb.den, ?_⟩
  refine ⟨_, rfl, _, _, _, _, rfl, rfl, SqT.of h.tb, ix0, _, rfl, _, _, _, _, rfl, rfl, SqT.of h.ta, ix1, _, _, rfl, rfl, h.sb.num.mulOk h.sa.den, ?_⟩
  refine ⟨_, rfl, _, _, _, _, rfl, rfl, SqT.of h.ta, ix1, _, rfl, _, _, _, _, rfl, rfl, SqT.of h.tb, ix1, _, _, rfl, rfl, h.sa.den.mulOk h.sb.den, ?_⟩
  obtain ⟨dx, ha⟩ := h.ra
  obtain ⟨dy, hb⟩ := h.rb
  refine ⟨_, rfl, _, rfl, a, b, _, _, _, _, rfl, rfl, ha, hb, bin (Gr.refl H) fun x H1 g1 rx => ?_⟩
  refine ⟨_, rfl, _, rfl, _, _, rfl, rfl, _, rfl, _, _, rfl, dd, sdd, fun v H2 g2 _ v2 => ?_⟩
  refine ⟨x, v, _, _, _, rfl, rx.gr g2, v2, rfl, rfl, fun H3 g3 => ⟨_, rfl, iF rfl (nxt ?_)⟩⟩
  have g13 := (g1.trans g2).trans g3
  have h3 := h.gr g13
  refine ⟨_, rfl, _, rfl, a, b, _, _, _, _, rfl, rfl, g13 _ _ ha, g13 _ _ hb, bin g13 fun x H4 g4 rx => ?_⟩
  refine ⟨_, rfl, _, rfl, _, _, rfl, rfl, _, rfl, _, _, rfl, dd, sdd, fun v H5 g5 _ v2 => ?_⟩
  refine ⟨x, v, _, _, _, rfl, rx.gr g5, v2, rfl, rfl, fun H6 g6 => ⟨_, rfl, iF rfl (nxt ?_)⟩⟩
  have g16 := ((g13.trans g4).trans g5).trans g6
  have h6 := h.gr g16
  refine ⟨_, rfl, _, rfl, a, b, _, _, _, _, rfl, rfl, g16 _ _ ha, g16 _ _ hb, bin g16 fun x H7 g7 rx => ?_⟩
  have h7 := h6.gr g7
  refine ⟨_, rfl, _, _, _, _, rfl, rfl, SqT.of h7.ta, ix0, _, rfl, _, _, _, _, rfl, rfl, SqT.of h7.tb, ix0, _, _, rfl, rfl, h.sa.num.mulOk h.sb.num, _, rfl, _, _, rfl, dd, sdd, fun v H8 g8 _ v2 => ?_⟩
  refine ⟨x, v, _, _, _, rfl, rx.gr g8, v2, rfl, rfl, fun H9 g9 => ⟨_, rfl, iF rfl (nxt ?_)⟩⟩
  have g19 := ((g16.trans g7).trans g8).trans g9
  have h9 := h.gr g19
  refine ⟨_, rfl, a, dx, _, rfl, g19 _ _ ha, rfl, _, rfl, a, b, p, q, rfl, h9.ra, h9.rb, h.sa.mono, h.sb.mono, ?_⟩
  refine ⟨_, rfl, _, _, _, _, _, rfl, .ty _, (Bt.bl _).ty, kit_ty (a := "bool") (b := "bool") (r := true) (by decide +kernel), _, rfl, iF rfl ?_⟩
  refine ⟨_, rfl, _, rfl, _, rfl, _, _, rfl, rfl, rfl, _, rfl, ?_⟩
  have e0 : (!decide (V.bl (decide (p.num * q.den < q.num * p.den)) = V.bl (decide (p.num * (q.den : Int) < q.num * (p.den : Int))))) = false := by rw [decide_eq_true rfl]; rfl
  refine iF e0 (nxt ?_)
  refine ⟨_, rfl, _, rfl, a, _, _, _, rfl, g19 _ _ ha, (T.i_Ratio).ty T.c_Ratio (g19 _ _ hb), (by simp [PySem.W.notFirst]), ⟨a, p, _, rfl, h9.ra, .inl ⟨b, q, rfl, h9.rb, .inr ⟨_, rfl, ?_⟩⟩⟩⟩
  have ec : decide (p = q) = decide (V.int (p.num * (q.den : Int)) = V.int (q.num * (p.den : Int))) := by
    rw [decide_eq_decide]
    have e1 := Rat.divInt_eq_divInt_iff (n₁ := p.num) (n₂ := q.num) (den0 p) (den0 q)
    rw [divInt_self, divInt_self] at e1
    exact e1.trans ⟨fun e => by rw [e], fun e => V.int.inj e⟩
  refine ⟨_, rfl, _, rfl, rfl, rfl, _, rfl, ?_⟩
  have e2 : (!decide (V.bl (decide (p = q)) = V.bl (decide (V.int (p.num * (q.den : Int)) = V.int (q.num * (p.den : Int)))))) = false := by rw [ec, decide_eq_true rfl]; rfl
  refine iF e2 (nxt ?_)
  exact ⟨_, rfl, _, rfl, _, rfl, _, rfl, a, b, t, u, p, q, rfl, h9, fun H' g' => R H' (g19.trans g')⟩
end
end K00
namespace K00
open PySem PySem.Spec PyProof.Rows L2 L2.LX
open PySem.W (Frag)
theorem szn {n : Nat} (h : n ≤ 1000) : n ≤ sizeLine := by
  rw [sizeLine_eq]
  omega
theorem sz6 {a b c d e f : V} : ([a, b, c, d, e, f] : List V).length ≤ sizeLine := szn (by show 6 ≤ 1000; decide)
section
variable {P : Program} {w : World} {K : Frag} {mg : Str → Option Value} {base : Heap}
theorem len_its {n : Int} (h : sm 1900 n) : (its n).length ≤ 1921 := PyProof.Rows.int_text_len_1921 (Nat.lt_trans h.log (by decide))
/-- the written form of a pair -/
def spText : Sp := fun vs H Q _ => ∃ (t : Addr) (n d : Int), vs = [.ref t] ∧ TA H t n d ∧ sm 1900 n ∧ sm 1900 d ∧ Q (.str (txt n d)) H
theorem ok__law_text (T : Tx K mg) (G : Pg P) : FnOk P w K mg base (L2N.CX P w) 1 (a__law_text K) (fdOf K (a__law_text K)) ["due"] spText := by
  refine (T.d__law_text).ok sc__law_text (fun vs H Q E h => ?_) (fun cdv A outer s H vs Q E hr h => ?_)
  · obtain ⟨t, n, d, rfl, _⟩ := h
    rfl
  obtain ⟨t, n, d, rfl, ht, sn, sd, R⟩ := h
  refine ⟨_, (pss_cons (ps_if (pt_cmpR op_eq (pe_ix ix_tup (pv 0) pe_int (fun _ _ => rfl)) pe_int (nomark _)) (pss_one (ps_ret (pe_callTy call_str_int (by rfl) (Tx.f_str T) (by decide +kernel) (pa_cons (pe_ix ix_tup (pv 0) pe_int (fun _ _ => rfl)) pa_nil))))
    pss_nil)
    (pss_one (ps_ret (pe_op op_add_str (pe_op op_add_str (pe_callTy call_str_int (by rfl) (Tx.f_str T) (by decide +kernel) (pa_cons (pe_ix ix_tup (pv 0) pe_int (fun _ _ => rfl)) pa_nil)) pe_str) (pe_callTy call_str_int (by rfl) (Tx.f_str T) (by decide +kernel) (pa_cons (pe_ix ix_tup (pv 0) pe_int (fun _ _ => rfl)) pa_nil)))))), ?_⟩
  refine ⟨_, rfl, _, _, _, _, rfl, rfl, SqT.of ht, ix1, rfl, _, rfl, iI (fun h0 => ?_) fun h0 => nxt ?_⟩
  · refine ⟨_, rfl, _, _, _, _, rfl, rfl, SqT.of ht, ix0, _, rfl, Nat.lt_trans sn.log (by decide), ?_⟩
    have e : txt n d = its n := if_pos h0
    rw [e] at R
    exact R
  · have e : txt n d = its n ++ "/" ++ its d := if_neg h0
    rw [e] at R
    have l1 := len_its sn
    have l2 := len_its sd
    have l3 : (its n ++ ("/" : Str)).length ≤ 1922 := by
      rw [slen]
      exact Nat.add_le_add l1 (Nat.le_refl 1)
    refine ⟨_, rfl, _, _, _, _, rfl, rfl, SqT.of ht, ix0, _, rfl, Nat.lt_trans sn.log (by decide), _, _, rfl, rfl, ?_, ?_⟩
    · show (its n).length + 1 ≤ sizeLine
      rw [sizeLine_eq]
      omega
    refine ⟨_, rfl, _, _, _, _, rfl, rfl, SqT.of ht, ix1, _, rfl, Nat.lt_trans sd.log (by decide), _, _, rfl, rfl, ?_, R⟩
    show (its n ++ ("/" : Str)).length + (its d).length ≤ sizeLine
    rw [sizeLine_eq]
    omega
/-- a value that no ratio equals -/
def Odd (K : Frag) (H : Hp) (x : V) : Prop := ∃ T : String, Bt K H x T ∧ StrT K (ga K "Ratio") T
theorem Bt.gr {H H' : Hp} {x : V} {T : String} (h : Bt K H x T) (g : Gr H H') : Bt K H' x T := by
  cases h with
  | int i => exact .int i
  | bl i => exact .bl i
  | str i => exact .str i
  | non => exact .non
  | tup h => exact .tup (g _ _ h)
  | lst h => exact .lst (g _ _ h)
theorem Odd.gr {H H' : Hp} {x : V} (h : Odd K H x) (g : Gr H H') : Odd K H' x := by
  obtain ⟨T, h1, h2⟩ := h
  exact ⟨T, Bt.gr h1 g, h2⟩
def spOne (K : Frag) : Sp := fun vs H Q _ => ∃ (a t : Addr) (q : Rat), vs = [.ref a, .ref t] ∧ RA (ga K "Ratio") H a q ∧ TA H t q.num q.den ∧ rsm 1900 q ∧ ∀ H', Gr H H' → Q (.bl true) H'
theorem ok__law_one_right (T : Tx K mg) (G : Pg P) : FnOk P w K mg base (L2N.CX P w) 12 (a__law_one_right K) (fdOf K (a__law_one_right K)) ["one", "due"] (spOne K) := by
  refine (T.d__law_one_right).ok sc__law_one_right (fun vs H Q E h => ?_) (fun cdv A outer s H vs Q E hr h => ?_)
  · obtain ⟨a, t, q, rfl, _⟩ := h
    rfl
  obtain ⟨a, t, q, rfl, ra, ht, sq, R⟩ := h
  obtain ⟨dx, ha⟩ := id ra
  refine ⟨_, (pss_cons (ps_set (i := 2) sc__law_one_right.nd rfl (Or.inl rfl) (pe_call (ok__law_text T G) (hr.mono (by decide)) rfl (Tx.g__law_text T) (Tx.d__law_text T).kp (Tx.b__law_text T) .nil passN0 (pa_cons (pv 1) pa_nil)))
    (pss_cons (ps_if (PW.pt (pw_or (pt_cmpR op_ne (pe_callTy (call_ownStr (ok_Ratio___str__ T G) (hr.mono (by decide)) (Tx.b_Ratio___str__ T) passN0 (Tx.o_Ratio___str__ T).1) (by rfl) (Tx.f_str T) (by decide +kernel) (pa_cons (pv 0) pa_nil)) (pv 2) (nomark _)) (pw_or1 (pt_cmpR op_ne (pe_callB (call_ownRepr (ok_Ratio___repr__ T G) (hr.mono (by decide)) (Tx.b_Ratio___repr__ T) passN0 (Tx.o_Ratio___repr__ T).1) (by rfl) (Tx.f_repr T) (by decide +kernel) (pa_cons (pv 0) pa_nil)) (pv 2) (nomark _))))) (pss_one (ps_ret pe_bl))
    pss_nil)
    (pss_cons (ps_if (pt_cmpR op_ne (pe_callTy (call_ownBool (ok_Ratio___bool__ T G) (hr.mono (by decide)) (Tx.b_Ratio___bool__ T) passN0 (Tx.o_Ratio___bool__ T).1) (by rfl) (Tx.f_bool T) (by decide +kernel) (pa_cons (pv 0) pa_nil)) (pe_cmpR op_ne (pe_ix ix_tup (pv 1) pe_int (fun _ _ => rfl)) pe_int (nomark _)) (nomark _)) (pss_one (ps_ret pe_bl))
    pss_nil)
    (pss_cons (ps_if (PW.pt (pw_or (pt_not (pt_val (pe_call (ok__law_is T G) (hr.mono (by decide)) rfl (Tx.g__law_is T) (Tx.d__law_is T).kp (Tx.b__law_is T) .nil passN0 (pa_cons (pe_un (un_ownNeg (ok_Ratio___neg__ T G) (hr.mono (by decide)) (Tx.b_Ratio___neg__ T) passN0 (Tx.o_Ratio___neg__ T).1) (pv 0)) (pa_cons (pe_tup (pa_cons (pe_un un_neg (pe_ix ix_tup (pv 1) pe_int (fun _ _ => rfl))) (pa_cons (pe_ix ix_tup (pv 1) pe_int (fun _ _ => rfl)) pa_nil))) pa_nil))))) (pw_or1 (pt_not (pt_val (pe_call (ok__law_is T G) (hr.mono (by decide)) rfl (Tx.g__law_is T) (Tx.d__law_is T).kp (Tx.b__law_is T) .nil passN0 (pa_cons (pe_callB (call_ownAbs (ok_Ratio___abs__ T G) (hr.mono (by decide)) (Tx.b_Ratio___abs__ T) passN0 (Tx.o_Ratio___abs__ T).1) (by rfl) (Tx.f_abs T) (by decide +kernel) (pa_cons (pv 0) pa_nil)) (pa_cons (pe_tup (pa_cons (pe_callB call_abs (by rfl) (Tx.f_abs T) (by decide +kernel) (pa_cons (pe_ix ix_tup (pv 1) pe_int (fun _ _ => rfl)) pa_nil)) (pa_cons (pe_ix ix_tup (pv 1) pe_int (fun _ _ => rfl)) pa_nil))) pa_nil)))))))) (pss_one (ps_ret pe_bl))
    pss_nil)
    (pss_cons (ps_for (passes_of rfl) rfl (pi_list (pe_lst (pa_cons (pe_ix ix_tup (pv 1) pe_int (fun _ _ => rfl)) (pa_cons (pv 2) (pa_cons (pv 1) (pa_cons (pe_callTy call_list_of (by rfl) (Tx.f_list T) (by decide +kernel) (pa_cons (pv 1) pa_nil)) (pa_cons pe_bl (pa_cons pe_non pa_nil)))))))) (pg_name (i := 3) sc__law_one_right.nd rfl (Or.inl rfl))
    (pss_one (ps_if (PW.pt (pw_or (pt_cmpR (op_ownEq (ok_Ratio___eq__ T G) (hr.mono (by decide)) (Tx.b_Ratio___eq__ T) passN0 (Tx.o_Ratio___eq__ T).1) (pv 0) (pv 3) (nomark _)) (pw_or1 (pt_cmpR (op_ownEqR (ok_Ratio___eq__ T G) (hr.mono (by decide)) (Tx.b_Ratio___eq__ T) passN0 (Tx.o_Ratio___eq__ T).1) (pv 3) (pv 0) (nomark _))))) (pss_one (ps_ret pe_bl))
    pss_nil)))
    (pss_one (ps_ret (pe_call (ok__law_is T G) (hr.mono (by decide)) rfl (Tx.g__law_is T) (Tx.d__law_is T).kp (Tx.b__law_is T) .nil passN0 (pa_cons (pv 0) (pa_cons (pv 1) pa_nil)))))))))), ?_⟩
  refine ⟨_, rfl, t, _, _, rfl, ht, sq.num, sq.den, ?_⟩
  have eq0 : (!decide (V.str (txt q.num q.den) = V.str (txt q.num q.den))) = false := by rw [decide_eq_true rfl]; rfl
  refine ⟨_, rfl, a, dx, _, rfl, ha, a, q, rfl, ra, sq, _, rfl, _, rfl, rfl, _, rfl, iF eq0 ?_⟩
  refine ⟨_, rfl, a, dx, _, rfl, ha, a, q, rfl, ra, sq, _, rfl, _, rfl, rfl, _, rfl, iF eq0 (nxt ?_)⟩
  refine ⟨_, rfl, a, dx, _, rfl, ha, a, q, rfl, ra, _, rfl, _, rfl, _, _, _, _, rfl, rfl, SqT.of ht, ix0, rfl, rfl, _, rfl, ?_⟩
  have eq1 : (!decide (V.bl (!decide (q.num = 0)) = V.bl (!decide (V.int q.num = V.int 0)))) = false := by
    have e : decide (q.num = 0) = decide (V.int q.num = V.int 0) := by
      rw [decide_eq_decide]
      exact ⟨fun e => by rw [e], fun e => V.int.inj e⟩
    rw [e, decide_eq_true rfl]
    rfl
  refine iF eq1 (nxt ?_)
  refine ⟨_, rfl, a, dx, _, rfl, ha, a, q, rfl, ra, sq.mono, fun x H1 g1 _ rx => ?_⟩
  have t1 := g1 _ _ ht
  refine ⟨_, rfl, _, _, _, _, rfl, rfl, SqT.of t1, ix0, _, rfl, _, rfl, _, _, _, _, rfl, rfl, SqT.of t1, ix1, sz2, fun v hv => ?_⟩
  have g2 := (Gr.refl H1).upd (o := .tup [.int (-q.num), .int (q.den : Int)]) hv
  refine ⟨x, v, _, _, _, rfl, rx.gr g2, upd_same, Rat.neg_num q, by rw [Rat.neg_den], fun H3 g3 => ⟨_, rfl, iF rfl ?_⟩⟩
  have g13 := (g1.trans g2).trans g3
  refine ⟨_, rfl, a, dx, _, rfl, g13 _ _ ha, a, q, rfl, ra.gr g13, sq.mono, fun x H4 g4 _ rx => ?_⟩
  have t4 := (g13.trans g4) _ _ ht
  refine ⟨_, rfl, _, _, _, _, rfl, rfl, SqT.of t4, ix0, _, rfl, _, rfl, _, _, _, _, rfl, rfl, SqT.of t4, ix1, sz2, fun v hv => ?_⟩
  have g5 := (Gr.refl H4).upd (o := .tup [.int (if q.num < 0 then -q.num else q.num), .int (q.den : Int)]) hv
  refine ⟨x, v, _, _, _, rfl, rx.gr g5, upd_same, absR_num q, by rw [absR_den], fun H6 g6 => ⟨_, rfl, iF rfl (nxt ?_)⟩⟩
  have g16 := ((g13.trans g4).trans g5).trans g6
  have t6 := g16 _ _ ht
  refine ⟨_, rfl, _, _, _, _, rfl, rfl, SqT.of t6, ix0, _, rfl, _, rfl, _, rfl, t, _, rfl, .inr (SqT.of t6), fun l hl => ⟨sz6, fun m hm => ?_⟩⟩
  have gl := (Gr.refl H6).upd (o := .lst [.int q.num, .int (q.den : Int)]) hl
  have gm := gl.trans ((Gr.refl _).upd (o := .lst [.int q.num, .str (txt q.num q.den), .ref t, .ref l, .bl true, .non]) hm)
  have odd : ∀ (i : Nat) (x : V), ([.int q.num, .str (txt q.num q.den), .ref t, .ref l, .bl true, .non] : List V)[i]? = some x → Odd K (upd (upd H6 l (.lst [.int q.num, .int (q.den : Int)])) m (.lst [.int q.num, .str (txt q.num q.den), .ref t, .ref l, .bl true, .non])) x := fun i x hx => by
    have hl2 := ne_of_none (upd_same (H := H6) (a := l) (o := .lst [.int q.num, .int (q.den : Int)])) hm
    rcases i with _ | _ | _ | _ | _ | _ | i
    · cases hx; exact ⟨_, .int _, T.str_int⟩
    · cases hx; exact ⟨_, .str _, T.str_str⟩
    · cases hx; exact ⟨_, .tup (gm _ _ t6), T.str_tuple⟩
    · cases hx; exact ⟨_, .lst (by rw [upd_ne hl2]; exact upd_same), T.str_list⟩
    · cases hx; exact ⟨_, .bl _, T.str_bool⟩
    · cases hx; exact ⟨_, .non, T.str_NoneType⟩
    · cases hx
  have gM := g16.trans gm
  refine ⟨m, rfl, ⟨_, SqL.of upd_same⟩, for_list (xs := [.int q.num, .str (txt q.num q.den), .ref t, .ref l, .bl true, .non]) (fun i σ' H' => ∃ r : Option V, σ' = ([some (.ref a), some (.ref t), some (.str (txt q.num q.den)), r] : List (Option V)) ∧ Gr (upd (upd H6 l (.lst [.int q.num, .int (q.den : Int)])) m (.lst [.int q.num, .str (txt q.num q.den), .ref t, .ref l, .bl true, .non])) H') ?_ ?_ ?_ ?_⟩
  · exact ⟨none, rfl, Gr.refl _⟩
  · rintro i _ H' _ ⟨r, rfl, g⟩
    exact SqL.of (g _ _ upd_same)
  · rintro i x _ H' hx ⟨r, rfl, g⟩
    obtain ⟨Ty, hb, hs⟩ := (odd i x hx).gr g
    have gA := gM.trans g
    refine ⟨_, rfl, _, rfl, a, _, _, _, rfl, gA _ _ ha, hb.ty, hs.nf, ⟨a, q, x, rfl, ra.gr gA, .inr ⟨_, hb.ty, hs.isi, _, rfl, iF rfl ?_⟩⟩⟩
    refine ⟨_, rfl, _, rfl, a, _, _, Ty, rfl, gA _ _ ha, hb, hs.sub, ⟨a, q, x, rfl, ra.gr gA, .inr ⟨_, hb.ty, hs.isi, _, rfl, iF rfl (nxt ?_)⟩⟩⟩
    exact ⟨_, rfl, g⟩
  · rintro _ H' ⟨r, rfl, g⟩
    have gA := gM.trans g
    exact ⟨_, rfl, _, rfl, a, t, q, _, _, rfl, ra.gr gA, gA _ _ ht, rfl, rfl, fun H2 g2 => R H2 (gA.trans g2)⟩
end
end K00
namespace K00
open PySem PySem.Spec PyProof.Rows L2 L2.LX
/-! plain: written forms -/
abbrev AD (w : List Nat) : Prop := NumText.AllDigits w
abbrev dv (w : List Nat) : Nat := NumText.digitsVal w
/-- a numeral without leading zeros -/
structure NZ (w : List Nat) : Prop where
  ne : w ≠ []
  ad : AD w
  hd : w.head? = some 48 → w.length = 1
theorem dv_snoc (w : List Nat) (c : Nat) : dv (w ++ [c]) = dv w * 10 + (c - 48) := by
  show (w ++ [c]).foldl _ 0 = _
  rw [List.foldl_append]
  rfl
theorem dv_ge : ∀ (w : List Nat) (a : Nat), a ≤ w.foldl (fun acc c => acc * 10 + (c - 48)) a
  | [], a => Nat.le_refl a
  | c :: w, a => Nat.le_trans (by omega) (dv_ge w (a * 10 + (c - 48)))
theorem dv_pos {w : List Nat} (h : NZ w) (hl : w ≠ [48]) : 1 ≤ dv w := by
  cases w with
  | nil => exact absurd rfl h.ne
  | cons c r =>
    have hc := h.ad c List.mem_cons_self
    have h48 : c ≠ 48 := fun e => by
      subst e
      have := h.hd rfl
      cases r with
      | nil => exact hl rfl
      | cons d s => simp at this
    show 1 ≤ r.foldl _ (0 * 10 + (c - 48))
    exact Nat.le_trans (by omega) (dv_ge r _)
theorem num_back : ∀ (n : Nat) (w : List Nat), w.length = n → NZ w → TL.numL (dv w) = w := fun n => by
  induction n with
  | zero => exact fun w hl h => absurd (List.length_eq_zero_iff.mp hl) h.ne
  | succ n ih =>
    intro w hl h
    obtain ⟨v, c, rfl⟩ : ∃ v c, w = v ++ [c] := ⟨w.dropLast, w.getLast h.ne, (List.dropLast_concat_getLast h.ne).symm⟩
    have hc := h.ad c (by simp)
    by_cases hv : v = []
    · subst hv
      rw [dv_snoc]
      have e : dv [] * 10 + (c - 48) = c - 48 := by
        show 0 * 10 + (c - 48) = _
        omega
      rw [e, TL.numL_lt (by omega)]
      show [48 + (c - 48)] = [c]
      congr 1
      omega
    · have hvl : v.length = n := by
        rw [List.length_append] at hl
        exact Nat.succ.inj hl
      have nv : NZ v := ⟨hv, fun d hd => h.ad d (List.mem_append_left _ hd), fun e => by
        have e2 : (v ++ [c]).head? = some 48 := by
          cases v with
          | nil => exact absurd rfl hv
          | cons a r => exact e
        have h3 := h.hd e2
        have h4 : (v ++ [c]).length = v.length + 1 := by rw [List.length_append]; rfl
        have h1 : 0 < v.length := List.length_pos_iff.mpr hv
        omega⟩
      have hp := dv_pos nv (fun e => by
        subst e
        have := h.hd rfl
        simp at this)
      rw [dv_snoc, TL.numL_step (by omega)]
      have e1 : (dv v * 10 + (c - 48)) / 10 = dv v := by omega
      have e2 : 48 + (dv v * 10 + (c - 48)) % 10 = c := by omega
      rw [e1, e2, ih v hvl nv]
theorem numL_head : ∀ (n : Nat), 1 ≤ n → (TL.numL n).head? ≠ some 48 := fun n => by
  induction n using Nat.strongRecOn with
  | _ n ih =>
    intro h
    by_cases h10 : n < 10
    · rw [TL.numL_lt h10]
      intro e
      have : 48 + n = 48 := by simpa using e
      omega
    · rw [TL.numL_step (by omega)]
      have := ih (n / 10) (by omega) (by omega)
      cases e : TL.numL (n / 10) with
      | nil => exact absurd e (TL.numL_ne _)
      | cons a r =>
        rw [e] at this
        exact this
theorem numL_NZ (n : Nat) : NZ (TL.numL n) := ⟨TL.numL_ne n, TL.numL_digits n, fun e => by
  by_cases h : 1 ≤ n
  · exact absurd e (numL_head n h)
  · have : n = 0 := by omega
    subst this
    rw [TL.numL_lt (by decide)]
    rfl⟩
/-- a whole number's signs -/
def numZ (n : Int) : List Nat := if n < 0 then 45 :: TL.numL n.natAbs else TL.numL n.natAbs
theorem numZ_nat (n : Nat) : numZ (n : Int) = TL.numL n := by
  unfold numZ
  rw [if_neg (by omega)]
  rfl
theorem its_eq (n : Int) : its n = SX.S (numZ n) := by
  refine TL.ext_tl ?_
  unfold numZ
  split
  · rename_i h
    obtain ⟨m, rfl⟩ : ∃ m : Nat, n = Int.negSucc m := ⟨n.natAbs - 1, by omega⟩
    have e : toString (Int.negSucc m) = "-" ++ toString ((m + 1 : Nat) : Int) := rfl
    show TL.tl (Str.ofString (toString (Int.negSucc m))) = _
    rw [TL.tl_ofString, e, String.toList_append, List.map_append, ← TL.tl_ofString (toString ((m + 1 : Nat) : Int)), TL.tl_num]
    rfl
  · rename_i h
    obtain ⟨m, rfl⟩ : ∃ m : Nat, n = (m : Int) := ⟨n.natAbs, by omega⟩
    show TL.tl (Str.ofString (toString ((m : Nat) : Int))) = _
    rw [TL.tl_num]
    rfl
theorem numZ_cp (n : Int) : ∀ c ∈ numZ n, c = 45 ∨ (48 ≤ c ∧ c ≤ 57) := fun c hc => by
  unfold numZ at hc
  split at hc
  · rcases List.mem_cons.mp hc with rfl | hc
    · exact .inl rfl
    · exact .inr (TL.numL_digits _ c hc)
  · exact .inr (TL.numL_digits _ c hc)
theorem its_cps (n : Int) : ∀ c ∈ (its n).cps.toList, c < 16 ^ 8 := by
  rw [its_eq]
  intro c hc
  have h : c = 45 ∨ (48 ≤ c ∧ c ≤ 57) := numZ_cp n c (by simpa using hc)
  have e : (16 : Nat) ^ 8 = 4294967296 := rfl
  rw [e]
  omega
def txtL (n d : Int) : List Nat := if d = 1 then numZ n else numZ n ++ (47 :: numZ d)
theorem slash_eq : ("/" : Str) = SX.S [47] := by decide +kernel
theorem txt_eq (n d : Int) : txt n d = SX.S (txtL n d) := by
  unfold txt txtL
  split
  · exact its_eq n
  · rw [its_eq, its_eq, slash_eq, SX.S_cat, SX.S_cat, List.append_assoc]
    rfl
/-- what the program takes for a whole number -/
def isIntL (w : List Nat) : Bool := match w with
  | 45 :: r => decide (r ≠ []) && r.all fun c => decide (48 ≤ c) && decide (c ≤ 57)
  | r => decide (r ≠ []) && r.all fun c => decide (48 ≤ c) && decide (c ≤ 57)
theorem all_dig {r : List Nat} : (r.all fun c => decide (48 ≤ c) && decide (c ≤ 57)) = true ↔ AD r := by
  rw [List.all_eq_true]
  refine ⟨fun h c hc => ?_, fun h c hc => ?_⟩
  · have := h c hc
    rw [Bool.and_eq_true] at this
    exact ⟨of_decide_eq_true this.1, of_decide_eq_true this.2⟩
  · rw [Bool.and_eq_true]
    exact ⟨decide_eq_true (h c hc).1, decide_eq_true (h c hc).2⟩
theorem isIntL_numL (n : Nat) : isIntL (TL.numL n) = true := by
  have h1 := TL.numL_ne n
  have h2 := TL.numL_digits n
  cases e : TL.numL n with
  | nil => exact absurd e h1
  | cons c r =>
    rw [e] at h2
    have hc := h2 c List.mem_cons_self
    unfold isIntL
    split
    · rename_i r' e2
      have : c = 45 := (List.cons.inj e2).1
      omega
    · rename_i r' e2
      rw [all_dig.mpr h2]
      simp
theorem isIntL_numZ (n : Int) : isIntL (numZ n) = true := by
  unfold numZ
  split
  · show (decide (TL.numL n.natAbs ≠ []) && _) = true
    rw [decide_eq_true (TL.numL_ne _), all_dig.mpr (TL.numL_digits _)]
    rfl
  · exact isIntL_numL _
theorem int_numZ {n : Int} (h : (numZ n).length ≤ 4300) : intText? (SX.S (numZ n)) = some n := by
  unfold numZ at h ⊢
  split at h
  · rename_i hn
    rw [if_pos hn]
    have e := PySem.intText_neg (x := SX.S (45 :: TL.numL n.natAbs)) (cs := TL.numL n.natAbs) rfl (TL.numL_digits _) (TL.numL_ne _) (by rw [SX.S_len]; exact h)
    rw [e, TL.numL_val]
    congr 1
    omega
  · rename_i hn
    rw [if_neg hn]
    have e := PySem.intText_digits (x := SX.S (TL.numL n.natAbs)) (TL.numL_digits _) (TL.numL_ne _) (by rw [SX.S_len]; exact h)
    rw [e]
    show some ((dv (TL.numL n.natAbs) : Nat) : Int) = some n
    rw [show dv (TL.numL n.natAbs) = n.natAbs from TL.numL_val _]
    congr 1
    omega
theorem dv_lt : ∀ (w : List Nat) (a : Nat), AD w → w.foldl (fun acc c => acc * 10 + (c - 48)) a < (a + 1) * 10 ^ w.length
  | [], a, _ => by
    show a < (a + 1) * 10 ^ 0
    omega
  | c :: w, a, h => by
    have h1 := dv_lt w (a * 10 + (c - 48)) fun d hd => h d (List.mem_cons_of_mem _ hd)
    have hc := h c List.mem_cons_self
    have e : (10 : Nat) ^ (c :: w).length = 10 ^ w.length * 10 := rfl
    rw [e]
    refine Nat.lt_of_lt_of_le h1 ?_
    have h2 : (a * 10 + (c - 48) + 1) ≤ (a + 1) * 10 := by omega
    have h3 := Nat.mul_le_mul_right (10 ^ w.length) h2
    rw [Nat.mul_assoc, Nat.mul_comm 10] at h3
    exact h3
theorem dv_bound {w : List Nat} (h : AD w) (hl : w.length ≤ 90) : sm 300 (dv w : Int) := by
  have h1 := dv_lt w 0 h
  rw [Nat.zero_add, Nat.one_mul] at h1
  have h2 : (10 : Nat) ^ w.length ≤ 10 ^ 90 := Nat.pow_le_pow_right (by decide) hl
  have h3 : (10 : Nat) ^ 90 < 2 ^ 300 := by decide
  show ((dv w : Nat) : Int).natAbs < 2 ^ 300
  have e : ((dv w : Nat) : Int).natAbs = dv w := rfl
  rw [e]
  exact Nat.lt_trans (Nat.lt_of_lt_of_le h1 h2) h3
theorem int_digits {w : List Nat} (h : AD w) (hn : w ≠ []) (hl : w.length ≤ 90) : intText? (SX.S w) = some ((dv w : Nat) : Int) :=
  PySem.intText_digits (x := SX.S w) h hn (by rw [SX.S_len]; omega)
theorem int_of {w : List Nat} (h : isIntL w = true) (hl : w.length ≤ 90) : ∃ n : Int, intText? (SX.S w) = some n ∧ sm 300 n := by
  unfold isIntL at h
  split at h
  · rename_i r
    rw [Bool.and_eq_true] at h
    have h1 := of_decide_eq_true h.1
    have h2 := all_dig.mp h.2
    have hr : r.length ≤ 90 := by
      rw [List.length_cons] at hl
      omega
    refine ⟨-((dv r : Nat) : Int), PySem.intText_neg (x := SX.S (45 :: r)) (cs := r) rfl h2 h1 (by rw [SX.S_len]; omega), (dv_bound h2 hr).neg⟩
  · rw [Bool.and_eq_true] at h
    have h1 := of_decide_eq_true h.1
    have h2 := all_dig.mp h.2
    exact ⟨_, int_digits h2 h1 hl, dv_bound h2 hl⟩
/-- the written form of a fraction -/
structure Canon (L : List Nat) (n d : Int) : Prop where
  eq : L = txtL n d
  pos : 0 < d
  cop : Nat.gcd n.natAbs d.natAbs = 1
theorem Canon.rat {L : List Nat} {n d : Int} (c : Canon L n d) : ∃ q : Rat, q.num = n ∧ (q.den : Int) = d ∧ Rat.divInt n d = q := by
  have hp := c.pos
  obtain ⟨m, rfl⟩ : ∃ m : Nat, d = (m : Int) := ⟨d.natAbs, by omega⟩
  refine ⟨⟨n, m, by omega, c.cop⟩, rfl, rfl, ?_⟩
  exact Rat.num_divInt_den ⟨n, m, by omega, c.cop⟩
theorem canon_of (q : Rat) : Canon (txtL q.num q.den) q.num q.den := ⟨rfl, by have := q.den_pos; omega, q.reduced⟩
theorem numZ_free (n : Int) : 47 ∉ numZ n := fun h => by
  have := numZ_cp n 47 h
  omega
theorem cut_inj : ∀ {p p' r r' : List Nat}, 47 ∉ p → 47 ∉ p' → p ++ 47 :: r = p' ++ 47 :: r' → p = p' ∧ r = r'
  | [], [], r, r', _, _, h => ⟨rfl, (List.cons.inj h).2⟩
  | [], c :: p', r, r', _, h', h => absurd (by rw [(List.cons.inj h).1]; exact List.mem_cons_self) h'
  | c :: p, [], r, r', h', _, h => absurd (by rw [← (List.cons.inj h).1]; exact List.mem_cons_self) h'
  | c :: p, c' :: p', r, r', h1, h2, h => by
    obtain ⟨e1, e2⟩ := List.cons.inj h
    obtain ⟨e3, e4⟩ := cut_inj (fun z => h1 (List.mem_cons_of_mem _ z)) (fun z => h2 (List.mem_cons_of_mem _ z)) e2
    exact ⟨by rw [e1, e3], e4⟩
/-- the program's cut -/
def Cut (L p r : List Nat) : Prop := (47 ∉ L ∧ p = L ∧ r = [49]) ∨ (L = p ++ 47 :: r ∧ 47 ∉ p)
theorem Canon.cut {L p r : List Nat} {n d : Int} (c : Canon L n d) (h : Cut L p r) : p = numZ n ∧ r = numZ d := by
  have e := c.eq
  unfold txtL at e
  split at e
  · rename_i hd
    subst hd
    rcases h with ⟨h1, h2, h3⟩ | ⟨h1, h2⟩
    · exact ⟨h2.trans e, by rw [h3]; decide +kernel⟩
    · refine absurd ?_ (numZ_free n)
      rw [← e, h1]
      simp
  · rcases h with ⟨h1, h2, h3⟩ | ⟨h1, h2⟩
    · refine absurd ?_ h1
      rw [e]
      simp
    · rw [h1] at e
      exact cut_inj h2 (numZ_free n) e
theorem cut_ex (L : List Nat) : (47 ∉ L) ∨ ∃ p r, L = p ++ 47 :: r ∧ 47 ∉ p := by
  by_cases h : 47 ∈ L
  · obtain ⟨p, r, e, hp⟩ := List.eq_append_cons_of_mem h
    exact .inr ⟨p, r, e, hp⟩
  · exact .inl h
/-! the law's words -/
def bodyL (L : List Nat) : List Nat := if L.take 1 = [45] then L.drop 1 else L
def wordsL (L : List Nat) : List (List Nat) := TL.spl [47] 0 [] (bodyL L)
theorem pre47 (c : Nat) (r : List Nat) : TL.pre [47] (c :: r) = decide (c = 47) := by
  show ([c] == [47]) = _
  by_cases h : c = 47
  · subst h
    rfl
  · rw [decide_eq_false h]
    simp [h]
theorem spl_back : ∀ (l acc : List Nat), TL.spl [47] 0 acc l ≠ [] ∧ TL.joinL [47] (TL.spl [47] 0 acc l) = acc ++ l
  | [], acc => by
    rw [TL.spl_nil]
    exact ⟨by simp, (List.append_nil acc).symm⟩
  | c :: r, acc => by
    by_cases h : c = 47
    · subst h
      rw [TL.spl_hit (pre47 47 r)]
      obtain ⟨h1, h2⟩ := spl_back r []
      refine ⟨by simp, ?_⟩
      show TL.joinL [47] (acc :: TL.spl [47] 0 [] r) = _
      cases e : TL.spl [47] 0 [] r with
      | nil => exact absurd e h1
      | cons a s =>
        rw [e] at h2
        show acc ++ ([47] ++ TL.joinL [47] (a :: s)) = _
        rw [h2]
        rfl
    · rw [TL.spl_miss (by rw [pre47]; exact decide_eq_false h)]
      obtain ⟨h1, h2⟩ := spl_back r (acc ++ [c])
      exact ⟨h1, by rw [h2, List.append_assoc]; rfl⟩
theorem wordsL_ne (L : List Nat) : wordsL L ≠ [] := (spl_back (bodyL L) []).1
theorem wordsL_join (L : List Nat) : TL.joinL [47] (wordsL L) = bodyL L := (spl_back (bodyL L) []).2
theorem numL_free47 (n : Nat) : 47 ∉ TL.numL n := TL.numL_free (.inl (by decide))
theorem take_numZ (n : Int) (r : List Nat) : ((numZ n ++ r).take 1 = [45] ↔ n < 0) ∧ bodyL (numZ n ++ r) = TL.numL n.natAbs ++ r := by
  unfold bodyL
  unfold numZ
  split
  · rename_i h
    exact ⟨⟨fun _ => h, fun _ => rfl⟩, rfl⟩
  · rename_i h
    have h2 : (TL.numL n.natAbs ++ r).take 1 ≠ [45] := fun e => by
      have hne := TL.numL_ne n.natAbs
      have hd := TL.numL_digits n.natAbs
      cases e2 : TL.numL n.natAbs with
      | nil => exact hne e2
      | cons a s =>
        rw [e2] at e hd
        have h3 : a = 45 := (List.cons.inj e).1
        have := hd a List.mem_cons_self
        omega
    exact ⟨⟨fun e => absurd e h2, fun e => absurd e h⟩, if_neg h2⟩
theorem Canon.words {L : List Nat} {n d : Int} (c : Canon L n d) : (L.take 1 = [45] ↔ n < 0) ∧ ((wordsL L = [TL.numL n.natAbs] ∧ d = 1) ∨ (wordsL L = [TL.numL n.natAbs, TL.numL d.natAbs] ∧ 2 ≤ d)) := by
  have e := c.eq
  have hp := c.pos
  unfold txtL at e
  split at e
  · rename_i hd
    subst hd
    have t := take_numZ n []
    rw [List.append_nil] at t
    rw [e]
    refine ⟨t.1, .inl ⟨?_, rfl⟩⟩
    unfold wordsL
    rw [t.2, List.append_nil, TL.spl_last1 (numL_free47 _)]
    rfl
  · rename_i hd
    have t := take_numZ n (47 :: numZ d)
    rw [e]
    refine ⟨t.1, .inr ⟨?_, by omega⟩⟩
    unfold wordsL
    have hz : numZ d = TL.numL d.natAbs := by
      unfold numZ
      rw [if_neg (by omega)]
    rw [t.2, hz]
    have := TL.spl_part1 (s := 47) (S := []) (p := TL.numL n.natAbs) (rest := TL.numL d.natAbs) (acc := []) (numL_free47 _)
    rw [TL.spl_last1 (numL_free47 _)] at this
    exact this
/-- what the law has found -/
theorem canon_words {L : List Nat} {n : Int} (a : List Nat) (h : wordsL L = [a]) (ha : NZ a) (hs : L.take 1 = [45] → dv a ≠ 0) (hn : n = if L.take 1 = [45] then -((dv a : Nat) : Int) else ((dv a : Nat) : Int)) : Canon L n 1 := by
  have j := wordsL_join L
  rw [h] at j
  have j2 : a = bodyL L := j
  refine ⟨?_, by decide, Nat.gcd_one_right _⟩
  have e1 : txtL n 1 = numZ n := if_pos rfl
  rw [e1]
  have nb := num_back _ a rfl ha
  by_cases hm : L.take 1 = [45]
  · rw [if_pos hm] at hn
    have hz := hs hm
    have hb : bodyL L = L.drop 1 := if_pos hm
    have e2 : L = L.take 1 ++ L.drop 1 := (List.take_append_drop 1 L).symm
    unfold numZ
    rw [if_pos (by omega), hn, Int.natAbs_neg, Int.natAbs_natCast, nb, j2, hb, e2, hm]
    rfl
  · rw [if_neg hm] at hn
    have hb : bodyL L = L := if_neg hm
    unfold numZ
    rw [if_neg (by omega), hn, Int.natAbs_natCast, nb, j2, hb]
theorem canon_words2 {L : List Nat} {n : Int} (a b : List Nat) (h : wordsL L = [a, b]) (ha : NZ a) (hb : NZ b) (h2 : 2 ≤ dv b) (hg : Nat.gcd (dv a) (dv b) = 1) (hs : L.take 1 = [45] → dv a ≠ 0) (hn : n = if L.take 1 = [45] then -((dv a : Nat) : Int) else ((dv a : Nat) : Int)) : Canon L n ((dv b : Nat) : Int) := by
  have j := wordsL_join L
  rw [h] at j
  have j2 : a ++ ([47] ++ b) = bodyL L := j
  have na := num_back _ a rfl ha
  have nb := num_back _ b rfl hb
  have e1 : txtL n ((dv b : Nat) : Int) = numZ n ++ (47 :: TL.numL (dv b)) := by
    unfold txtL
    rw [if_neg (by omega), numZ_nat]
  have hna : n.natAbs = dv a := by
    rw [hn]
    split <;> omega
  refine ⟨?_, by omega, by rw [hna]; exact hg⟩
  rw [e1, nb]
  by_cases hm : L.take 1 = [45]
  · rw [if_pos hm] at hn
    have hz := hs hm
    have hb : bodyL L = L.drop 1 := if_pos hm
    have e2 : L = L.take 1 ++ L.drop 1 := (List.take_append_drop 1 L).symm
    unfold numZ
    rw [if_pos (by omega), hna, na]
    rw [hb] at j2
    rw [e2, hm, ← j2]
    rfl
  · rw [if_neg hm] at hn
    have hb : bodyL L = L := if_neg hm
    unfold numZ
    rw [if_neg (by omega), hna, na]
    rw [hb] at j2
    rw [← j2]
    rfl
end K00
namespace K00
open PySem PySem.Spec PyProof.Rows L2 L2.LX
open PySem.W (Frag)
theorem tl_S (w : List Nat) : (SX.S w).cps.toList = w := by simp [SX.S]
theorem minus_eq : ("-" : Str) = SX.S [45] := by decide +kernel
theorem nil_eq : ("" : Str) = SX.S [] := by decide +kernel
theorem starts_minus (w : List Nat) : Txt.startswith (SX.S w) "-" = decide (w.take 1 = [45]) := by
  unfold Txt.startswith
  rw [minus_eq, StrLaws.subAt_eq, tl_S, tl_S, SX.S_len, SX.S_len, List.drop_zero]
  show (decide (0 + 1 ≤ w.length) && (w.take 1 == [45])) = _
  cases w with
  | nil => rfl
  | cons c r =>
    have e1 : decide (0 + 1 ≤ (c :: r).length) = true := decide_eq_true (by rw [List.length_cons]; omega)
    rw [e1, Bool.true_and]
    show ([c] == [45]) = decide ([c] = [45])
    by_cases h : c = 45
    · subst h
      rfl
    · simp [h]
theorem cut_from1 (w : List Nat) : cutS (SX.S w) (some 1) none = SX.S (w.drop 1) := by
  rw [C8.cutS_slice, SX.slice_from (by decide)]
  rfl
theorem cut_to1 (w : List Nat) : cutS (SX.S w) none (some 1) = SX.S (w.take 1) := by
  rw [C8.cutS_slice, SX.slice_to (by decide)]
  rfl
theorem isIntL_eq (w : List Nat) : isIntL w = (decide (bodyL w ≠ []) && (bodyL w).all fun c => decide (c ∈ (SX.S [48, 49, 50, 51, 52, 53, 54, 55, 56, 57]).cps.toList)) := by
  have hd : ∀ c : Nat, (decide (48 ≤ c) && decide (c ≤ 57)) = decide (c ∈ (SX.S [48, 49, 50, 51, 52, 53, 54, 55, 56, 57]).cps.toList) := fun c => by
    rw [tl_S]
    rw [Bool.eq_iff_iff]
    simp only [Bool.and_eq_true, decide_eq_true_eq, List.mem_cons, List.not_mem_nil, or_false]
    omega
  have hf : (fun c : Nat => decide (48 ≤ c) && decide (c ≤ 57)) = fun c => decide (c ∈ (SX.S [48, 49, 50, 51, 52, 53, 54, 55, 56, 57]).cps.toList) := funext hd
  unfold isIntL bodyL
  rw [hf]
  split
  · rename_i r
    rfl
  · rename_i r h
    rw [if_neg]
    intro e
    cases w with
    | nil => cases e
    | cons c s =>
      have : c = 45 := (List.cons.inj e).1
      subst this
      exact h s rfl
section
variable {P : Program} {w : World} {K : Frag} {mg : Str → Option Value} {base : Heap}
def spInt : Sp := fun vs H Q _ => ∃ w : List Nat, vs = [.str (SX.S w)] ∧ w.length ≤ 10000 ∧ ∀ H', Gr H H' → Q (.bl (isIntL w)) H'
theorem ok__is_integer (T : Tx K mg) (G : Pg P) : FnOk P w K mg base (L2N.CX P w) 1 (a__is_integer K) (fdOf K (a__is_integer K)) ["text"] spInt := by
  refine (T.d__is_integer).ok sc__is_integer (fun vs H Q E h => ?_) (fun cdv A outer s H vs Q E hr h => ?_)
  · obtain ⟨t, rfl, _⟩ := h
    rfl
  obtain ⟨t, rfl, ht, R⟩ := h
  refine ⟨_, (pss_cons (ps_set (i := 1) sc__is_integer.nd rfl (Or.inl rfl) (pe_ifExp (pt_val (pe_m1 PySem.F.slot_str_startswith PySem.F.type_str_startswith mt_startswith (pv 0) pe_str)) (pe_slice sl_str (pv 0) (po_some pe_int) po_none) (pv 0)))
    (pss_one (ps_ret (pe_and (pe_cmpR op_ne (pv 1) pe_str (nomark _)) (pe_one (pe_callB (cr_all rfl) (by rfl) (Tx.f_all T) (by decide +kernel) (pa_cons (pe_lc (own := [("character", 2)]) (g := gName 2) (tt := tYes) rfl sc__is_integer.nd (pi_str (pv 1)) (blkOk_by (N := ["text", "digits", "character"]) (sc := defScope s__is_integer) (by decide +kernel)) (fun _ _ _ _ _ => (pg_name (i := 2) sc__is_integer.nd rfl (Or.inl rfl))) (fun _ _ _ _ _ => pts_nil) (fun _ _ _ _ _ => (pe_cmpR op_in_sign (pv 2) (pe_glob (v := (.str "0123456789")) rfl (Tx.k__DIGITS T).choose_spec ⟨_, rfl⟩) rfl))) pa_nil))))))), ?_⟩
  refine seqP (fun σ' H' => H' = H ∧ σ' = ([some (.str (SX.S t)), some (.str (SX.S (bodyL t))), none] : List (Option V))) (fun kk => ?_) ?_
  · have hz : (SX.S t).length ≤ sizeLine := by rw [SX.S_len, sizeLine_eq]; omega
    refine ⟨_, rfl, ⟨_, rfl⟩, _, _, rfl, rfl, _, rfl, ?_⟩
    rw [starts_minus]
    refine iD (fun hm => ?_) fun hm => ?_
    · refine ⟨_, rfl, _, rfl, _, rfl, hz, ?_⟩
      refine kk _ _ ⟨rfl, ?_⟩
      show ([some (.str (SX.S t)), some (.str (cutS (SX.S t) (some 1) none)), none] : List (Option V)) = _
      rw [cut_from1]
      unfold bodyL
      rw [if_pos hm]
    · refine ⟨_, rfl, ?_⟩
      refine kk _ _ ⟨rfl, ?_⟩
      show ([some (.str (SX.S t)), some (.str (SX.S t)), none] : List (Option V)) = _
      unfold bodyL
      rw [if_neg hm]
  · rintro _ H0 ⟨e0, rfl⟩
    subst e0
    have hb : (bodyL t).length ≤ 10000 := by
      unfold bodyL
      split
      · rw [List.length_drop]
        omega
      · exact ht
    rw [isIntL_eq] at R
    refine ⟨_, rfl, rfl, _, rfl, iSn (fun hne => ?_) fun he => ?_⟩
    · have hne2 : bodyL t ≠ [] := fun e => hne (by rw [e]; decide +kernel)
      rw [decide_eq_true hne2, Bool.true_and] at R
      have dg : ("0123456789" : Str) = SX.S [48, 49, 50, 51, 52, 53, 54, 55, 56, 57] := by decide +kernel
      have hsz : (SX.S (bodyL t)).cps.size = (bodyL t).length := by simp [SX.S]
      refine ⟨_, rfl, _, rfl, fun D hD => lc_it walk_str (fun i H2 => H2 D = some (.lst (((bodyL t).take i).map fun c => V.bl (decide (c ∈ (SX.S [48, 49, 50, 51, 52, 53, 54, 55, 56, 57]).cps.toList)))) ∧ Gr H0 H2) ?_ ?_ ?_ ?_⟩
      · exact ⟨upd_same, (Gr.refl _).upd hD⟩
      · exact fun _ _ _ _ => trivial
      · rintro i x H2 H3 hi ⟨h1, h2⟩ ⟨rfl, c, hc, rfl⟩
        have hc2 : (bodyL t)[i]? = some c := by
          rw [← hc]
          simp [SX.S]
        have hi2 : i < (bodyL t).length := by rw [← hsz]; exact hi
        refine ⟨rfl, _, rfl, c, _, rfl, rfl, _, h1, ?_, ?_, ?_⟩
        · rw [List.length_map, List.length_take, sizeLine_eq]
          omega
        · rw [dg, List.take_add_one, hc2, List.map_append]
          exact upd_same
        · intro a o e
          by_cases ea : a = D
          · rw [ea, hD] at e
            cases e
          · rw [upd_ne ea]
            exact h2 a o e
      · rintro H2 ⟨h1, h2⟩
        rw [hsz, List.take_length] at h1
        refine ⟨D, (bodyL t).map fun c => decide (c ∈ (SX.S [48, 49, 50, 51, 52, 53, 54, 55, 56, 57]).cps.toList), rfl, SqL.of ?_, ?_⟩
        · rw [h1, List.map_map]
          rfl
        · have := R H2 h2
          rw [List.all_map]
          exact this
    · have e : bodyL t = [] := SX.S_inj (he.trans nil_eq)
      rw [e] at R
      exact R _ (Gr.refl _)
end
end K00
namespace K00
open PySem PySem.Spec PyProof.Rows L2 L2.LX
open PySem.W (Frag)
theorem sm.mono' {n m : Nat} {i : Int} (h : sm n i) (hm : n ≤ m) : sm m i := h.mono hm
theorem Kp.ra {C b a : Addr} {H H' : Hp} {q : Rat} (k : Kp b H H') (hb : Bx b H) (r : RA C H a q) : RA C H' a q := by
  obtain ⟨c0, c1, c2, c3, l, e, _⟩ := hb
  obtain ⟨dx, h⟩ := r
  exact ⟨dx, k a _ (ne_of h e (by intro z; cases z)) h⟩
/-- the ratios and their dues -/
structure Mds (K : Frag) (b ml dl : Addr) (H : Hp) (as ts : List Addr) (qs : List Rat) : Prop where
  md : H ml = some (.lst (as.map V.ref))
  du : H dl = some (.lst (ts.map V.ref))
  la : as.length = qs.length
  lt : ts.length = qs.length
  mb : ml ≠ b
  db : dl ≠ b
  each : ∀ (i : Nat) (q : Rat), qs[i]? = some q → rsm 133 q ∧ (∀ a, as[i]? = some a → RA (ga K "Ratio") H a q) ∧ ∀ t, ts[i]? = some t → TA H t q.num q.den
theorem Mds.kp {K : Frag} {b ml dl : Addr} {H H' : Hp} {as ts : List Addr} {qs : List Rat} (m : Mds K b ml dl H as ts qs) (k : Kp b H H') (hb : Bx b H) : Mds K b ml dl H' as ts qs :=
  ⟨k _ _ m.mb m.md, k _ _ m.db m.du, m.la, m.lt, m.mb, m.db, fun i q hq => ⟨(m.each i q hq).1, fun a ha => k.ra hb ((m.each i q hq).2.1 a ha), fun t ht => k.ta hb ((m.each i q hq).2.2 t ht)⟩⟩
theorem Mds.gr {K : Frag} {b ml dl : Addr} {H H' : Hp} {as ts : List Addr} {qs : List Rat} (m : Mds K b ml dl H as ts qs) (g : Gr H H') : Mds K b ml dl H' as ts qs :=
  ⟨g _ _ m.md, g _ _ m.du, m.la, m.lt, m.mb, m.db, fun i q hq => ⟨(m.each i q hq).1, fun a ha => ((m.each i q hq).2.1 a ha).gr g, fun t ht => g _ _ ((m.each i q hq).2.2 t ht)⟩⟩
theorem Mds.get {K : Frag} {b ml dl : Addr} {H : Hp} {as ts : List Addr} {qs : List Rat} (m : Mds K b ml dl H as ts qs) {r : Int} (h0 : 0 ≤ r) (h1 : r < as.length) : ∃ (a t : Addr) (q : Rat), atI (as.map V.ref) r = some (.ref a) ∧ atI (ts.map V.ref) r = some (.ref t) ∧ RA (ga K "Ratio") H a q ∧ TA H t q.num q.den ∧ rsm 133 q ∧ as[r.toNat]? = some a ∧ ts[r.toNat]? = some t ∧ qs[r.toNat]? = some q := by
  obtain ⟨i, rfl⟩ : ∃ i : Nat, r = (i : Int) := ⟨r.toNat, by omega⟩
  have hi : i < as.length := by omega
  have hi2 : i < ts.length := by rw [m.lt, ← m.la]; exact hi
  have hi3 : i < qs.length := by rw [← m.la]; exact hi
  have e1 := List.getElem?_eq_getElem hi
  have e2 := List.getElem?_eq_getElem hi2
  have e3 := List.getElem?_eq_getElem hi3
  obtain ⟨k1, k2, k3⟩ := m.each i _ e3
  refine ⟨as[i], ts[i], qs[i], atI_nat ?_, atI_nat ?_, k2 _ e1, k3 _ e2, k1, ?_, ?_, ?_⟩
  · rw [List.getElem?_map, e1]; rfl
  · rw [List.getElem?_map, e2]; rfl
  · exact e1
  · exact e2
  · exact e3
/-- a text that is looked at -/
structure TxtOk (y : Str) : Prop where
  len : y.length ≤ 10000
  cps : ∀ c ∈ y.cps.toList, c < 16 ^ 8
def spRR : Sp := fun vs H Q _ => ∃ y : Str, vs = [.str y] ∧ TxtOk y ∧ ∀ H', Gr H H' → Q (.bl true) H'
theorem txt_ok {n d : Int} (h : sm 1900 n) (h' : sm 1900 d) : TxtOk (txt n d) := by
  have l1 := len_its h
  have l2 := len_its h'
  unfold txt
  split
  · exact ⟨by omega, its_cps n⟩
  · refine ⟨?_, fun c hc => ?_⟩
    · rw [slen, slen]
      have : ("/" : Str).length = 1 := rfl
      omega
    · have e : (its n ++ "/" ++ its d : Str).cps.toList = (its n).cps.toList ++ ("/" : Str).cps.toList ++ (its d).cps.toList := by
        show ((its n).cps ++ ("/" : Str).cps ++ (its d).cps).toList = _
        simp
      rw [e] at hc
      simp only [List.mem_append] at hc
      rcases hc with (hc | hc) | hc
      · exact its_cps n c hc
      · rw [slash_eq, tl_S] at hc
        have : c = 47 := List.mem_singleton.mp hc
        subst this
        decide
      · exact its_cps d c hc
section
variable {P : Program} {w : World} {K : Frag} {mg : Str → Option Value} {base : Heap}
def spRun (K : Frag) : Sp := fun vs H Q _ => ∃ (b ml dl : Addr) (as ts : List Addr) (qs : List Rat), vs = [.ref b, .ref ml, .ref dl] ∧ Bx b H ∧ Mds K b ml dl H as ts qs ∧ 0 < qs.length ∧ qs.length ≤ 5 ∧ ∀ H', Kp b H H' → Bx b H' → Q (.bl true) H'
theorem ok_run0 (T : Tx K mg) (G : Pg P) (ok__law_read_right : ∀ {K mg} (T : Tx K mg) (G : Pg P), FnOk P w K mg base (L2N.CX P w) 13 (a__law_read_right K) (fdOf K (a__law_read_right K)) ["text"] spRR) : FnOk P w K mg base (L2N.CX P w) 14 (a__law_run_right K) (fdOf K (a__law_run_right K)) ["box", "made", "dues"] (spRun K) := by
  refine (T.d__law_run_right).ok sc__law_run_right (fun vs H Q E h => ?_) (fun cdv A outer s H vs Q E hr h => ?_)
  · obtain ⟨b, ml, dl, as, ts, qs, rfl, _⟩ := h
    rfl
  obtain ⟨b, ml, dl, as, ts, qs, rfl, hb, m, hq0, hq5, R⟩ := h
  refine ⟨_, (pss_cons (ps_set (i := 3) sc__law_run_right.nd rfl (Or.inl rfl) (pe_ix ix_list (pv 1) pe_int (fun _ _ => rfl)))
    (pss_cons (ps_set (i := 4) sc__law_run_right.nd rfl (Or.inl rfl) (pe_ix ix_list (pv 2) pe_int (fun _ _ => rfl)))
    (pss_cons (ps_for (passes_of rfl) rfl (pi_range1 rfl (Tx.f_range T) (pa_cons (pe_call (ok__law_take T G) (hr.mono (by decide)) rfl (Tx.g__law_take T) (Tx.d__law_take T).kp (Tx.b__law_take T) .nil passN0 (pa_cons (pv 0) (pa_cons pe_int pa_nil))) pa_nil)) (pg_name (i := 5) sc__law_run_right.nd rfl (Or.inl rfl))
    (pss_cons (ps_set (i := 6) sc__law_run_right.nd rfl (Or.inl rfl) (pe_call (ok__law_take T G) (hr.mono (by decide)) rfl (Tx.g__law_take T) (Tx.d__law_take T).kp (Tx.b__law_take T) .nil passN0 (pa_cons (pv 0) (pa_cons (pe_callB call_len_seq (by rfl) (Tx.f_len T) (by decide +kernel) (pa_cons (pv 1) pa_nil)) pa_nil))))
    (pss_cons (ps_set (i := 7) sc__law_run_right.nd rfl (Or.inl rfl) (pe_call (ok__law_take T G) (hr.mono (by decide)) rfl (Tx.g__law_take T) (Tx.d__law_take T).kp (Tx.b__law_take T) .nil passN0 (pa_cons (pv 0) (pa_cons pe_int pa_nil))))
    (pss_cons (ps_asg (pe_ix ix_list (pv 2) (pv 6) (fun _ _ => rfl)) (pg_tup rfl (pgs_cons (pg_name (i := 8) sc__law_run_right.nd rfl (Or.inl rfl)) (pgs_cons (pg_name (i := 9) sc__law_run_right.nd rfl (Or.inl rfl)) pgs_nil))))
    (pss_cons (ps_if (pt_cmpR op_eq (pv 7) pe_int (nomark _)) (pss_cons (ps_set (i := 3) sc__law_run_right.nd rfl (Or.inl rfl) (pe_op (op_own2 (ok_Ratio___add__ T G) (hr.mono (by decide)) (Tx.b_Ratio___add__ T) passN0 (Tx.sf_Ratio T) (Tx.o_Ratio___add__ T).1) (pv 3) (pe_ix ix_list (pv 1) (pv 6) (fun _ _ => rfl))))
    (pss_one (ps_set (i := 4) sc__law_run_right.nd rfl (Or.inl rfl) (pe_call (ok__law_lowest T G) (hr.mono (by decide)) rfl (Tx.g__law_lowest T) (Tx.d__law_lowest T).kp (Tx.b__law_lowest T) .nil passN0 (pa_cons (pe_op op_add (pe_op op_mulW (pe_ix ix_tup (pv 4) pe_int (fun _ _ => rfl)) (pv 9)) (pe_op op_mulW (pv 8) (pe_ix ix_tup (pv 4) pe_int (fun _ _ => rfl)))) (pa_cons (pe_op op_mulW (pe_ix ix_tup (pv 4) pe_int (fun _ _ => rfl)) (pv 9)) pa_nil))))))
    (pss_one (ps_if (pt_cmpR op_eq (pv 7) pe_int (nomark _)) (pss_cons (ps_set (i := 3) sc__law_run_right.nd rfl (Or.inl rfl) (pe_op (op_own2 (ok_Ratio___sub__ T G) (hr.mono (by decide)) (Tx.b_Ratio___sub__ T) passN0 (Tx.sf_Ratio T) (Tx.o_Ratio___sub__ T).1) (pe_ix ix_list (pv 1) (pv 6) (fun _ _ => rfl)) (pv 3)))
    (pss_one (ps_set (i := 4) sc__law_run_right.nd rfl (Or.inl rfl) (pe_call (ok__law_lowest T G) (hr.mono (by decide)) rfl (Tx.g__law_lowest T) (Tx.d__law_lowest T).kp (Tx.b__law_lowest T) .nil passN0 (pa_cons (pe_op op_sub (pe_op op_mulW (pv 8) (pe_ix ix_tup (pv 4) pe_int (fun _ _ => rfl))) (pe_op op_mulW (pe_ix ix_tup (pv 4) pe_int (fun _ _ => rfl)) (pv 9))) (pa_cons (pe_op op_mulW (pe_ix ix_tup (pv 4) pe_int (fun _ _ => rfl)) (pv 9)) pa_nil))))))
    (pss_one (ps_if (pt_cmpR op_eq (pv 7) pe_int (nomark _)) (pss_cons (ps_set (i := 3) sc__law_run_right.nd rfl (Or.inl rfl) (pe_op (op_own2 (ok_Ratio___mul__ T G) (hr.mono (by decide)) (Tx.b_Ratio___mul__ T) passN0 (Tx.sf_Ratio T) (Tx.o_Ratio___mul__ T).1) (pv 3) (pe_ix ix_list (pv 1) (pv 6) (fun _ _ => rfl))))
    (pss_one (ps_set (i := 4) sc__law_run_right.nd rfl (Or.inl rfl) (pe_call (ok__law_lowest T G) (hr.mono (by decide)) rfl (Tx.g__law_lowest T) (Tx.d__law_lowest T).kp (Tx.b__law_lowest T) .nil passN0 (pa_cons (pe_op op_mulW (pe_ix ix_tup (pv 4) pe_int (fun _ _ => rfl)) (pv 8)) (pa_cons (pe_op op_mulW (pe_ix ix_tup (pv 4) pe_int (fun _ _ => rfl)) (pv 9)) pa_nil))))))
    (pss_one (ps_if (pt_cmpR op_eq (pv 7) pe_int (nomark _)) (pss_cons (ps_set (i := 3) sc__law_run_right.nd rfl (Or.inl rfl) (pe_un (un_ownNeg (ok_Ratio___neg__ T G) (hr.mono (by decide)) (Tx.b_Ratio___neg__ T) passN0 (Tx.o_Ratio___neg__ T).1) (pv 3)))
    (pss_one (ps_set (i := 4) sc__law_run_right.nd rfl (Or.inl rfl) (pe_tup (pa_cons (pe_un un_neg (pe_ix ix_tup (pv 4) pe_int (fun _ _ => rfl))) (pa_cons (pe_ix ix_tup (pv 4) pe_int (fun _ _ => rfl)) pa_nil))))))
    (pss_one (ps_if (pt_cmpR op_eq (pv 7) pe_int (nomark _)) (pss_cons (ps_set (i := 3) sc__law_run_right.nd rfl (Or.inl rfl) (pe_callB (call_ownAbs (ok_Ratio___abs__ T G) (hr.mono (by decide)) (Tx.b_Ratio___abs__ T) passN0 (Tx.o_Ratio___abs__ T).1) (by rfl) (Tx.f_abs T) (by decide +kernel) (pa_cons (pv 3) pa_nil)))
    (pss_one (ps_set (i := 4) sc__law_run_right.nd rfl (Or.inl rfl) (pe_tup (pa_cons (pe_callB call_abs (by rfl) (Tx.f_abs T) (by decide +kernel) (pa_cons (pe_ix ix_tup (pv 4) pe_int (fun _ _ => rfl)) pa_nil)) (pa_cons (pe_ix ix_tup (pv 4) pe_int (fun _ _ => rfl)) pa_nil))))))
    (pss_one (ps_if (pt_cmpR op_ne (pv 8) pe_int (nomark _)) (pss_cons (ps_set (i := 3) sc__law_run_right.nd rfl (Or.inl rfl) (pe_meth (pv 3) (Tx.c_Ratio T) (Tx.o_Ratio_over T).2 (ok_Ratio_over T G) (hr.mono (by decide)) (Tx.b_Ratio_over T) .nil passN0 (pa_cons (pe_ix ix_list (pv 1) (pv 6) (fun _ _ => rfl)) pa_nil)))
    (pss_one (ps_set (i := 4) sc__law_run_right.nd rfl (Or.inl rfl) (pe_call (ok__law_lowest T G) (hr.mono (by decide)) rfl (Tx.g__law_lowest T) (Tx.d__law_lowest T).kp (Tx.b__law_lowest T) .nil passN0 (pa_cons (pe_op op_mulW (pe_ix ix_tup (pv 4) pe_int (fun _ _ => rfl)) (pv 9)) (pa_cons (pe_op op_mulW (pe_ix ix_tup (pv 4) pe_int (fun _ _ => rfl)) (pv 8)) pa_nil))))))
    pss_nil)))))))))))
    (pss_one (ps_if (pt_not (pt_val (pe_call (ok__law_is T G) (hr.mono (by decide)) rfl (Tx.g__law_is T) (Tx.d__law_is T).kp (Tx.b__law_is T) .nil passN0 (pa_cons (pv 3) (pa_cons (pv 4) pa_nil))))) (pss_one (ps_ret pe_bl))
    pss_nil)))))))
    (pss_one (ps_ret (pe_and (pe_call (ok__law_one_right T G) (hr.mono (by decide)) rfl (Tx.g__law_one_right T) (Tx.d__law_one_right T).kp (Tx.b__law_one_right T) .nil passN0 (pa_cons (pv 3) (pa_cons (pv 4) pa_nil))) (pe_one (pe_call (ok__law_read_right T G) (hr.mono (by decide)) rfl (Tx.g__law_read_right T) (Tx.d__law_read_right T).kp (Tx.b__law_read_right T) .nil passN0 (pa_cons (pe_call (ok__law_text T G) (hr.mono (by decide)) rfl (Tx.g__law_text T) (Tx.d__law_text T).kp (Tx.b__law_text T) .nil passN0 (pa_cons (pv 4) pa_nil)) pa_nil))))))))), ?_⟩
  obtain ⟨a0, t0, q0, ea, et, ra, ta, s0, _⟩ := m.get (r := 0) (by decide) (by rw [m.la]; omega)
  refine ⟨_, rfl, _, _, _, _, rfl, rfl, SqL.of m.md, ea, _, rfl, _, _, _, _, rfl, rfl, SqL.of m.du, et, ?_⟩
  refine ⟨_, rfl, b, _, rfl, hb, by decide, by decide, fun j H1 k1 b1 j0 j1 => ⟨j, rfl, by omega, by omega, ?_⟩⟩
  refine for_range (n := j.toNat) (fun i σ' H' => ∃ (a t : Addr) (q : Rat) (s5 s6 s7 s8 s9 : Option V), σ' = ([some (.ref b), some (.ref ml), some (.ref dl), some (.ref a), some (.ref t), s5, s6, s7, s8, s9] : List (Option V)) ∧ Kp b H H' ∧ Bx b H' ∧ RA (ga K "Ratio") H' a q ∧ TA H' t q.num q.den ∧ rsm (134 * (i + 1)) q) ?_ ?_ ?_
  · exact ⟨a0, t0, q0, none, none, none, none, none, rfl, k1, b1, k1.ra hb ra, k1.ta hb ta, s0.mono⟩
  · rintro i _ H2 hi ⟨a, t, q, s5, s6, s7, s8, s9, rfl, k2, b2, r2, t2, sq⟩
    have i7 : i < 7 := by omega
    have m2 := m.kp k2 hb
    have hl : (as.map V.ref).length = qs.length := by rw [List.length_map, m.la]
    refine ⟨_, rfl, _, rfl, _, _, rfl, .inl (SqL.of m2.md), b, _, rfl, b2, by rw [hl]; omega, by rw [hl]; omega, fun r H3 k3 b3 r0 r1 => ?_⟩
    rw [hl] at r1
    refine ⟨_, rfl, b, _, rfl, b3, by decide, by decide, fun wy H4 k4 b4 _ _ => ?_⟩
    have k34 := k3.trans k4
    have m4 := m2.kp k34 b2
    have r4 := k34.ra b2 r2
    have t4 := k34.ta b2 t2
    have k24 := k2.trans k34
    obtain ⟨a', t', q', ea, et, ra', ta', s', _⟩ := m4.get (r := r) r0 (by rw [m.la]; exact r1)
    refine ⟨_, rfl, _, rfl, _, _, _, _, rfl, rfl, SqL.of m4.du, et, _, _, rfl, SqT.of ta', rfl, _, _, rfl, _, _, rfl, rfl, ?_⟩
    dsimp only [gName]
    refine seqP (fun σ' H' => ∃ (a t : Addr) (q : Rat), σ' = ([some (.ref b), some (.ref ml), some (.ref dl), some (.ref a), some (.ref t), some (.int (0 + (i : Int))), some (.int r), some (.int wy), some (.int q'.num), some (.int (q'.den : Int))] : List (Option V)) ∧ Kp b H H' ∧ Bx b H' ∧ RA (ga K "Ratio") H' a q ∧ TA H' t q.num q.den ∧ rsm (134 * (i + 2)) q) (fun kk => ?_) ?_
    · have sb : rsm 1500 q := ⟨sq.num.mono' (by omega), sq.den.mono' (by omega)⟩
      have sc : rsm 1500 q' := s'.mono
      obtain ⟨dx, ha⟩ := id r4
      obtain ⟨dx', ha'⟩ := id ra'
      have dd : (q.den : Int) * q'.den ≠ 0 := Int.mul_ne_zero (den0 q) (den0 q')
      have sdd : sm (134 * (i + 2)) ((q.den : Int) * q'.den) := (sq.den.mul s'.den).mono' (by omega)
      have fin : ∀ (n d : Int) (x : Addr) (H' H'' : Hp) (v : Addr), d ≠ 0 → sm (134 * (i + 2)) n → sm (134 * (i + 2)) d → Gr H4 H' → RA (ga K "Ratio") H' x (Rat.divInt n d) → Gr H' H'' → TA H'' v (Rat.divInt n d).num (Rat.divInt n d).den → _ := fun n d x H' H'' v d0 sn sd g1 rx g2 tv =>
        kk ([some (.ref b), some (.ref ml), some (.ref dl), some (.ref x), some (.ref v), some (.int (0 + (i : Int))), some (.int r), some (.int wy), some (.int q'.num), some (.int (q'.den : Int))] : List (Option V)) H'' ⟨x, v, _, rfl, k24.trans (g1.trans g2).kp, b4.gr (g1.trans g2), rx.gr g2, tv, rsm.divInt sn sd d0⟩
      refine ⟨_, rfl, rfl, _, rfl, iI (fun _ => ?_) fun _ => ?_⟩
      · refine ⟨_, rfl, _, rfl, _, rfl, _, _, _, _, rfl, rfl, SqL.of m4.md, ea, a, a', _, _, _, _, rfl, rfl, ha, ha', a, a', q, q', rfl, r4, ra', sb.mono, sc.mono, fun x H5 g5 _ rx => ?_⟩
        have t5 := g5 _ _ t4
        refine ⟨_, rfl, _, _, _, _, rfl, rfl, SqT.of t5, ix0, _, rfl, _, _, rfl, rfl, sb.num.mulOk sc.den, _, rfl, _, rfl, _, _, _, _, rfl, rfl, SqT.of t5, ix1, _, _, rfl, rfl, sc.num.mulOk sb.den, _, _, rfl, rfl, _, rfl, _, _, _, _, rfl, rfl, SqT.of t5, ix1, _, rfl, _, _, rfl, rfl, sb.den.mulOk sc.den, _, _, rfl, dd, (sb.den.mul sc.den).mono (by decide), fun v H6 g6 _ v6 => ?_⟩
        exact fin _ _ x H5 H6 v dd (((sq.num.mul s'.den).add ((s'.num.mul sq.den).mono' (by omega))).mono' (by omega)) sdd g5 rx g6 v6
      refine ⟨_, rfl, rfl, _, rfl, iI (fun _ => ?_) fun _ => ?_⟩
      · refine ⟨_, rfl, _, rfl, _, _, _, _, rfl, rfl, SqL.of m4.md, ea, _, rfl, a', a, _, _, _, _, rfl, rfl, ha', ha, a', a, q', q, rfl, ra', r4, sc.mono, sb.mono, fun x H5 g5 _ rx => ?_⟩
        have t5 := g5 _ _ t4
        have rx2 : RA (ga K "Ratio") H5 x (Rat.divInt (q'.num * q.den - q.num * q'.den) (q.den * q'.den)) := by rw [Int.mul_comm (q.den : Int)]; exact rx
        refine ⟨_, rfl, _, rfl, _, _, _, _, rfl, rfl, SqT.of t5, ix1, _, _, rfl, rfl, sc.num.mulOk sb.den, _, rfl, _, _, _, _, rfl, rfl, SqT.of t5, ix0, _, rfl, _, _, rfl, rfl, sb.num.mulOk sc.den, _, _, rfl, rfl, _, rfl, _, _, _, _, rfl, rfl, SqT.of t5, ix1, _, rfl, _, _, rfl, rfl, sb.den.mulOk sc.den, _, _, rfl, dd, (sb.den.mul sc.den).mono (by decide), fun v H6 g6 _ v6 => ?_⟩
        exact fin _ _ x H5 H6 v dd ((((s'.num.mul sq.den).mono' (by omega)).sub (sq.num.mul s'.den)).mono' (by omega)) sdd g5 rx2 g6 v6
      refine ⟨_, rfl, rfl, _, rfl, iI (fun _ => ?_) fun _ => ?_⟩
      · refine ⟨_, rfl, _, rfl, _, rfl, _, _, _, _, rfl, rfl, SqL.of m4.md, ea, a, a', _, _, _, _, rfl, rfl, ha, ha', a, a', q, q', rfl, r4, ra', sb.mono, sc.mono, fun x H5 g5 _ rx => ?_⟩
        have t5 := g5 _ _ t4
        refine ⟨_, rfl, _, _, _, _, rfl, rfl, SqT.of t5, ix0, _, rfl, _, _, rfl, rfl, sb.num.mulOk sc.num, _, rfl, _, _, _, _, rfl, rfl, SqT.of t5, ix1, _, rfl, _, _, rfl, rfl, sb.den.mulOk sc.den, _, _, rfl, dd, (sb.den.mul sc.den).mono (by decide), fun v H6 g6 _ v6 => ?_⟩
        exact fin _ _ x H5 H6 v dd ((sq.num.mul s'.num).mono' (by omega)) sdd g5 rx g6 v6
      refine ⟨_, rfl, rfl, _, rfl, iI (fun _ => ?_) fun _ => ?_⟩
      · refine ⟨_, rfl, a, dx, _, rfl, ha, a, q, rfl, r4, sb.mono, fun x H5 g5 _ rx => ?_⟩
        have t5 := g5 _ _ t4
        refine ⟨_, rfl, _, _, _, _, rfl, rfl, SqT.of t5, ix0, _, rfl, _, rfl, _, _, _, _, rfl, rfl, SqT.of t5, ix1, sz2, fun v hv => ?_⟩
        have g6 := (Gr.refl H5).upd (o := .tup [.int (-q.num), .int (q.den : Int)]) hv
        exact kk _ _ ⟨x, v, -q, rfl, k24.trans (g5.trans g6).kp, b4.gr (g5.trans g6), rx.gr g6, by rw [Rat.neg_num, Rat.neg_den]; exact upd_same, ⟨by rw [Rat.neg_num]; exact sq.num.neg.mono' (by omega), by rw [Rat.neg_den]; exact sq.den.mono' (by omega)⟩⟩
      refine ⟨_, rfl, rfl, _, rfl, iI (fun _ => ?_) fun _ => ?_⟩
      · refine ⟨_, rfl, a, dx, _, rfl, ha, a, q, rfl, r4, sb.mono, fun x H5 g5 _ rx => ?_⟩
        have t5 := g5 _ _ t4
        refine ⟨_, rfl, _, _, _, _, rfl, rfl, SqT.of t5, ix0, _, rfl, _, rfl, _, _, _, _, rfl, rfl, SqT.of t5, ix1, sz2, fun v hv => ?_⟩
        have g6 := (Gr.refl H5).upd (o := .tup [.int (if q.num < 0 then -q.num else q.num), .int (q.den : Int)]) hv
        exact kk _ _ ⟨x, v, absR q, rfl, k24.trans (g5.trans g6).kp, b4.gr (g5.trans g6), rx.gr g6, by rw [absR_num, absR_den]; exact upd_same, ⟨by rw [absR_num]; exact sq.num.abs.mono' (by omega), by rw [absR_den]; exact sq.den.mono' (by omega)⟩⟩
      refine ⟨_, rfl, rfl, _, rfl, iIn (fun h0 => ?_) fun _ => nxt (kk _ _ ⟨a, t, q, rfl, k24, b4, r4, t4, ⟨sq.num.mono' (by omega), sq.den.mono' (by omega)⟩⟩)⟩
      refine ⟨_, rfl, a, dx, _, rfl, ha, rfl, _, rfl, _, rfl, _, _, _, _, rfl, rfl, SqL.of m4.md, ea, a, a', q, q', rfl, r4, ra', sb.mono, sc.mono, fun _ x H5 g5 _ rx => ?_, fun e => absurd e h0⟩
      have t5 := g5 _ _ t4
      have d0 := Int.mul_ne_zero (den0 q) h0
      refine ⟨_, rfl, _, _, _, _, rfl, rfl, SqT.of t5, ix0, _, rfl, _, _, rfl, rfl, sb.num.mulOk sc.den, _, rfl, _, _, _, _, rfl, rfl, SqT.of t5, ix1, _, rfl, _, _, rfl, rfl, sb.den.mulOk sc.num, _, _, rfl, d0, (sb.den.mul sc.num).mono (by decide), fun v H6 g6 _ v6 => ?_⟩
      exact fin _ _ x H5 H6 v d0 ((sq.num.mul s'.den).mono' (by omega)) ((sq.den.mul s'.num).mono' (by omega)) g5 rx g6 v6
    · rintro _ H5 ⟨a, t, q, rfl, k5, b5, r5, t5, sq⟩
      refine ⟨_, rfl, _, rfl, a, t, q, _, _, rfl, r5, t5, rfl, rfl, fun H6 g6 => ⟨_, rfl, iF rfl (nxt ?_)⟩⟩
      exact ⟨a, t, q, _, _, _, _, _, rfl, k5.trans g6.kp, b5.gr g6, r5.gr g6, g6 _ _ t5, sq⟩
  · rintro _ H2 ⟨a, t, q, s5, s6, s7, s8, s9, rfl, k2, b2, r2, t2, sq⟩
    have sq9 : rsm 1900 q := ⟨sq.num.mono' (by omega), sq.den.mono' (by omega)⟩
    refine ⟨_, rfl, _, rfl, a, t, q, rfl, r2, t2, sq9, fun H3 g3 => ⟨_, rfl, iT rfl ?_⟩⟩
    refine ⟨_, rfl, t, _, _, rfl, g3 _ _ t2, sq9.num, sq9.den, _, rfl, txt_ok sq9.num sq9.den, fun H4 g4 => R H4 (k2.trans (g3.trans g4).kp) (b2.gr (g3.trans g4))⟩
end
end K00
namespace K00
open PySem PySem.Spec PyProof.Rows L2 L2.LX
open PySem.W (Frag)
section
variable {P : Program} {w : World} {K : Frag} {mg : Str → Option Value} {base : Heap}
def spNum : Sp := fun vs H Q _ => ∃ w : List Nat, vs = [.str (SX.S w)] ∧ w.length ≤ 10000 ∧ ∀ b : Bool, (b = true ↔ NZ w) → Q (.bl b) H
theorem dg10 : ("0123456789" : Str) = SX.S [48, 49, 50, 51, 52, 53, 54, 55, 56, 57] := by decide +kernel
theorem dg_mem {c : Nat} : c ∈ ("0123456789" : Str).cps.toList ↔ (48 ≤ c ∧ c ≤ 57) := by
  rw [dg10, tl_S]
  simp only [List.mem_cons, List.not_mem_nil, or_false]
  omega
theorem ok__law_is_number (T : Tx K mg) (G : Pg P) : FnOk P w K mg base (L2N.CX P w) 1 (a__law_is_number K) (fdOf K (a__law_is_number K)) ["word"] spNum := by
  refine (T.d__law_is_number).ok sc__law_is_number (fun vs H Q E h => ?_) (fun cdv A outer s H vs Q E hr h => ?_)
  · obtain ⟨t, rfl, _⟩ := h
    rfl
  obtain ⟨t, rfl, ht, R⟩ := h
  refine ⟨_, (pss_cons (ps_if (PW.pt (pw_or (pt_cmpR op_eq (pv 0) pe_str (nomark _)) (pw_or1 (PW.pt (pw_and (pt_cmpR op_eq (pe_ix ix_str (pv 0) pe_int (fun _ _ => rfl)) pe_str (nomark _)) (pw_and1 (pt_cmpR op_gt (pe_callB call_len_str (by rfl) (Tx.f_len T) (by decide +kernel) (pa_cons (pv 0) pa_nil)) pe_int (nomark _)))))))) (pss_one (ps_ret pe_bl))
    pss_nil)
    (pss_cons (ps_for (passes_of rfl) rfl (pi_str (pv 0)) (pg_name (i := 1) sc__law_is_number.nd rfl (Or.inl rfl))
    (pss_one (ps_if (pt_cmpR op_notIn_sign (pv 1) pe_str rfl) (pss_one (ps_ret pe_bl))
    pss_nil)))
    (pss_one (ps_ret pe_bl)))), ?_⟩
  have hz : (SX.S t).length ≤ sizeLine := by rw [SX.S_len, sizeLine_eq]; omega
  have no : ¬ NZ t → Q (.bl false) H := fun h => R false ⟨(fun e => Bool.noConfusion e), fun n => absurd n h⟩
  refine seqP (fun σ' H' => H' = H ∧ σ' = ([some (.str (SX.S t)), none] : List (Option V)) ∧ t ≠ [] ∧ (t.head? = some 48 → t.length = 1)) (fun kk => ?_) ?_
  · refine ⟨_, rfl, rfl, _, rfl, iS (fun he => iT rfl ?_) fun hne => ?_⟩
    · exact no fun n => n.ne (SX.S_inj (he.trans nil_eq))
    have hne2 : t ≠ [] := fun e => hne (by rw [e]; decide +kernel)
    obtain ⟨c, r, rfl⟩ : ∃ c r, t = c :: r := by
      cases t with
      | nil => exact absurd rfl hne2
      | cons c r => exact ⟨c, r, rfl⟩
    refine ⟨_, rfl, _, _, c, rfl, rfl, hz, atI_nat (j := 0) rfl, rfl, _, rfl, iS (fun h48 => ?_) fun h48 => iF rfl (nxt (kk _ _ ⟨rfl, rfl, hne2, fun e => absurd (Option.some.inj e) fun e2 => h48 (by rw [e2]; decide +kernel)⟩))⟩
    have hc : c = 48 := by
      have e : SX.S [c] = SX.S [48] := by
        have : ("0" : Str) = SX.S [48] := by decide +kernel
        rw [← this]
        exact h48
      exact (List.cons.inj (SX.S_inj e)).1
    subst hc
    refine ⟨_, rfl, _, rfl, hz, _, _, rfl, rfl, _, rfl, ?_⟩
    rw [SX.S_len]
    refine iD (fun hl => ?_) fun hl => nxt (kk _ _ ⟨rfl, rfl, hne2, fun _ => ?_⟩)
    · refine no fun n => ?_
      have := n.hd rfl
      omega
    · rw [List.length_cons] at hl ⊢
      omega
  · rintro _ H0 ⟨e0, rfl, hne, hhd⟩
    subst e0
    have hsz : (SX.S t).cps.size = t.length := by simp [SX.S]
    refine ⟨_, rfl, _, rfl, for_it walk_str (fun i σ' H' => H' = H0 ∧ ∃ r : Option V, σ' = ([some (.str (SX.S t)), r] : List (Option V)) ∧ AD (t.take i)) ?_ ?_ ?_ ?_⟩
    · exact ⟨rfl, none, rfl, fun c hc => by simp at hc⟩
    · exact fun _ _ _ _ _ => trivial
    · rintro i x _ H' H'' hi ⟨rfl, r, rfl, had⟩ ⟨rfl, c, hc, rfl⟩
      have hc2 : t[i]? = some c := by
        rw [← hc]
        simp [SX.S]
      refine ⟨_, rfl, c, _, rfl, rfl, _, rfl, iN (fun hm => ?_) fun hm => nxt ⟨rfl, _, rfl, ?_⟩⟩
      · refine no fun n => hm (dg_mem.mpr (n.ad c (List.mem_of_getElem? hc2)))
      · rw [List.take_add_one, hc2]
        intro d hd
        rcases List.mem_append.mp hd with h | h
        · exact had d h
        · have : d = c := by simpa using h
          subst this
          exact dg_mem.mp hm
    · rintro _ H' ⟨rfl, r, rfl, had⟩
      rw [hsz, List.take_length] at had
      exact R true ⟨fun _ => ⟨hne, had, hhd⟩, fun _ => rfl⟩
def Good (w : List Nat) : Prop := w.length ≤ 90 ∧ ∃ n d, Canon w n d
def spRead (K : Frag) : Sp := fun vs H Q E => ∃ w : List Nat, vs = [.str (SX.S w)] ∧ TxtOk (SX.S w) ∧ (w.length ≤ 90 → ∀ q : Rat, Canon w q.num q.den → ∀ x H', Gr H H' → RA (ga K "Ratio") H' x q → rsm 1900 q → Q (.ref x) H') ∧
  (¬ Good w → ∀ H1 e, Gr H H1 → H1 e = none → E (.ref (ga K "InvalidText")) (some e) (upd H1 e (.xd [("text", .str (SX.S w))])))
theorem ok_Ratio_read (T : Tx K mg) (G : Pg P) : FnOk P w K mg base (L2N.CX P w) 12 (a_Ratio_read K) (fdOf K (a_Ratio_read K)) ["text"] (spRead K) := by
  refine (T.d_Ratio_read).ok sc_Ratio_read (fun vs H Q E h => ?_) (fun cdv A outer s H vs Q E hr h => ?_)
  · obtain ⟨t, rfl, _⟩ := h
    rfl
  obtain ⟨t, rfl, ht, R, Rx⟩ := h
  refine ⟨_, (pss_cons (ps_if (pt_cmpR op_gt (pe_callB call_len_str (by rfl) (Tx.f_len T) (by decide +kernel) (pa_cons (pv 0) pa_nil)) (pe_glob (v := (.int 90)) rfl (Tx.k__LONGEST_TEXT T).choose_spec ⟨_, rfl⟩) (nomark _)) (pss_one (L2N.ps_raise rfl (L2N.takes_of rfl rfl rfl rfl) (pmkN (Tx.e_InvalidText T).2.sup.oex (Tx.e_InvalidText T).2.init (Tx.e_InvalidText T).2.fn (ok_InvalidText T G.1 G.2) (hr.mono (by decide)) (Tx.b_InvalidText___init__ T) .nil pass0 rfl (Tx.e_InvalidText T).1 (pa_cons (pv 0) pa_nil))))
    pss_nil)
    (pss_cons (ps_asg (pe_partition (pv 0) pe_str) (pg_tup rfl (pgs_cons (pg_name (i := 1) sc_Ratio_read.nd rfl (Or.inl rfl)) (pgs_cons (pg_name (i := 2) sc_Ratio_read.nd rfl (Or.inl rfl)) (pgs_cons (pg_name (i := 3) sc_Ratio_read.nd rfl (Or.inl rfl)) pgs_nil)))))
    (pss_cons (ps_if (pt_cmpR op_eq (pv 2) pe_str (nomark _)) (pss_one (ps_set (i := 3) sc_Ratio_read.nd rfl (Or.inl rfl) pe_str))
    pss_nil)
    (pss_cons (ps_if (PW.pt (pw_or (pt_not (pt_val (pe_call (ok__is_integer T G) (hr.mono (by decide)) rfl (Tx.g__is_integer T) (Tx.d__is_integer T).kp (Tx.b__is_integer T) .nil passN0 (pa_cons (pv 1) pa_nil)))) (pw_or1 (pt_not (pt_val (pe_call (ok__is_integer T G) (hr.mono (by decide)) rfl (Tx.g__is_integer T) (Tx.d__is_integer T).kp (Tx.b__is_integer T) .nil passN0 (pa_cons (pv 3) pa_nil))))))) (pss_one (L2N.ps_raise rfl (L2N.takes_of rfl rfl rfl rfl) (pmkN (Tx.e_InvalidText T).2.sup.oex (Tx.e_InvalidText T).2.init (Tx.e_InvalidText T).2.fn (ok_InvalidText T G.1 G.2) (hr.mono (by decide)) (Tx.b_InvalidText___init__ T) .nil pass0 rfl (Tx.e_InvalidText T).1 (pa_cons (pv 0) pa_nil))))
    pss_nil)
    (pss_cons (ps_par (i := 4) (j := 5) (by rfl) sc_Ratio_read.nd rfl rfl (by decide) rfl rfl (pa_cons (pe_callTy call_int_str (by rfl) (Tx.f_int T) (by decide +kernel) (pa_cons (pv 1) pa_nil)) (pa_cons (pe_callTy call_int_str (by rfl) (Tx.f_int T) (by decide +kernel) (pa_cons (pv 3) pa_nil)) pa_nil)) (by rfl))
    (pss_cons (ps_if (pt_cmpR op_eq (pv 5) pe_int (nomark _)) (pss_one (L2N.ps_raise rfl (L2N.takes_of rfl rfl rfl rfl) (pmkN (Tx.e_InvalidText T).2.sup.oex (Tx.e_InvalidText T).2.init (Tx.e_InvalidText T).2.fn (ok_InvalidText T G.1 G.2) (hr.mono (by decide)) (Tx.b_InvalidText___init__ T) .nil pass0 rfl (Tx.e_InvalidText T).1 (pa_cons (pv 0) pa_nil))))
    pss_nil)
    (pss_cons (ps_set (i := 6) sc_Ratio_read.nd rfl (Or.inl rfl) (pe_make (Tx.m_Ratio T) (ok_Ratio___init__ T G) (hr.mono (by decide)) rfl (Tx.g_Ratio T) (bd_Ratio___init___2 T).2 .nil passN0 (pa_cons (pv 4) (pa_cons (pv 5) pa_nil))))
    (pss_cons (ps_if (pt_cmpR op_ne (pe_callTy (call_ownStr (ok_Ratio___str__ T G) (hr.mono (by decide)) (Tx.b_Ratio___str__ T) passN0 (Tx.o_Ratio___str__ T).1) (by rfl) (Tx.f_str T) (by decide +kernel) (pa_cons (pv 6) pa_nil)) (pv 0) (nomark _)) (pss_one (L2N.ps_raise rfl (L2N.takes_of rfl rfl rfl rfl) (pmkN (Tx.e_InvalidText T).2.sup.oex (Tx.e_InvalidText T).2.init (Tx.e_InvalidText T).2.fn (ok_InvalidText T G.1 G.2) (hr.mono (by decide)) (Tx.b_InvalidText___init__ T) .nil pass0 rfl (Tx.e_InvalidText T).1 (pa_cons (pv 0) pa_nil))))
    pss_nil)
    (pss_one (ps_ret (pv 6))))))))))), ?_⟩
  have hlen : t.length ≤ 10000 := by rw [← SX.S_len t]; exact ht.len
  have hz : (SX.S t).length ≤ sizeLine := by rw [SX.S_len, sizeLine_eq]; omega
  have okt : okTxt (.str (SX.S t)) := .inl ⟨_, rfl, Nat.le_trans ht.len (by decide), ht.cps⟩
  refine ⟨_, rfl, _, rfl, hz, _, _, rfl, rfl, _, rfl, ?_⟩
  rw [SX.S_len]
  refine iD (fun h90 => ?_) fun h90 => nxt ?_
  · refine ⟨_, rfl, ?_⟩
    exact mk1 (ok := okTxt) okt fun e he => Rx (fun g => by have := g.1; omega) H e (Gr.refl H) he
  have h90' : t.length ≤ 90 := by omega
  dsimp only
  refine ⟨_, rfl, ⟨_, rfl⟩, _, _, rfl, rfl, (by decide +kernel), hz, fun pp hpp => ?_⟩
  refine ⟨_, _, rfl, SqT.of upd_same, rfl, _, _, rfl, _, _, rfl, _, _, rfl, rfl, ?_⟩
  have g0 := (Gr.refl H).upd (o := .tup [.str (Txt.partition (SX.S t) "/").1, .str (Txt.partition (SX.S t) "/").2.1, .str (Txt.partition (SX.S t) "/").2.2]) hpp
  dsimp only [gName]
  refine seqP (fun σ' H' => ∃ (p r : List Nat) (sl : V), σ' = ([some (.str (SX.S t)), some (.str (SX.S p)), some sl, some (.str (SX.S r)), none, none, none] : List (Option V)) ∧ Cut t p r ∧ Gr H H') (fun kk => ?_) ?_
  · have ey : TL.tl ("/" : Str) = [47] := by rw [slash_eq] <;> rfl
    have e01 : ¬ ("/" : Str) = ("" : Str) := by decide +kernel
    have e00 : Str.empty = ("" : Str) := by decide +kernel
    rcases cut_ex t with h | ⟨p, r, e, hp⟩
    · have ep : Txt.partition (SX.S t) "/" = (SX.S t, Str.empty, Str.empty) := TL.partition_none ey (by rw [show TL.tl (SX.S t) = t from tl_S t]; exact h)
      refine ⟨_, rfl, rfl, _, rfl, iS (fun _ => ?_) fun hn => absurd (by rw [ep]; exact e00) hn⟩
      refine kk _ _ ⟨t, [49], .str Str.empty, ?_, .inl ⟨h, rfl, rfl⟩, g0⟩
      show ([some (.str (SX.S t)), some (.str (Txt.partition (SX.S t) "/").1), some (.str (Txt.partition (SX.S t) "/").2.1), some (.str "1"), none, none, none] : List (Option V)) = _
      rw [ep]
      have e1 : ("1" : Str) = SX.S [49] := by decide +kernel
      rw [e1]
    · have et : SX.S t = SX.S p ++ "/" ++ SX.S r := by rw [slash_eq, SX.S_cat, SX.S_cat, List.append_assoc, e]; rfl
      have ep : Txt.partition (SX.S t) "/" = (SX.S p, ("/" : Str), SX.S r) := by
        rw [et]
        exact TL.partition_app ey (by rw [show TL.tl (SX.S p) = p from tl_S p]; exact hp)
      refine ⟨_, rfl, rfl, _, rfl, iS (fun hn => absurd hn (by rw [ep]; exact e01)) fun _ => nxt ?_⟩
      refine kk _ _ ⟨p, r, .str "/", ?_, .inr ⟨e, hp⟩, g0⟩
      show ([some (.str (SX.S t)), some (.str (Txt.partition (SX.S t) "/").1), some (.str (Txt.partition (SX.S t) "/").2.1), some (.str (Txt.partition (SX.S t) "/").2.2), none, none, none] : List (Option V)) = _
      rw [ep]
  rintro _ H1 ⟨p, r, sl, rfl, hcut, g1⟩
  have lp : p.length ≤ 90 ∧ r.length ≤ 90 := by
    rcases hcut with ⟨_, h2, h3⟩ | ⟨h2, _⟩
    · rw [h2, h3]
      exact ⟨h90', by decide⟩
    · have := congrArg List.length h2
      rw [List.length_append, List.length_cons] at this
      omega
  have hcan : Good t → ∃ n d, Canon t n d ∧ p = numZ n ∧ r = numZ d := fun ⟨_, n, d, c⟩ => ⟨n, d, c, c.cut hcut⟩
  have rse : ¬ Good t → ∀ H', Gr H H' → _ := fun ng H' g' => mk1 (C := ga K "InvalidText") (fld := "text") (ok := okTxt) (v := .str (SX.S t)) (H := H') (Q := fun cls d H => E cls d H) okt fun e he => Rx ng H' e g' he
  refine ⟨_, rfl, p, rfl, by omega, fun H2 g2 => ⟨_, rfl, iB (fun hb => ⟨_, rfl, ?_⟩) fun hb => ?_⟩⟩
  · refine rse (fun g => ?_) H2 (g1.trans g2)
    obtain ⟨n, d, _, e1, _⟩ := hcan g
    rw [e1, isIntL_numZ] at hb
    cases hb
  refine ⟨_, rfl, r, rfl, by omega, fun H3 g3 => ⟨_, rfl, iB (fun hb2 => ⟨_, rfl, ?_⟩) fun hb2 => nxt ?_⟩⟩
  · refine rse (fun g => ?_) H3 ((g1.trans g2).trans g3)
    obtain ⟨n, d, _, _, e1⟩ := hcan g
    rw [e1, isIntL_numZ] at hb2
    cases hb2
  have g13 := (g1.trans g2).trans g3
  obtain ⟨n, hn, sn⟩ := int_of (w := p) (by simpa using hb) lp.1
  obtain ⟨d, hd, sd⟩ := int_of (w := r) (by simpa using hb2) lp.2
  have hcan2 : Good t → Canon t n d := fun g => by
    obtain ⟨n', d', c, e1, e2⟩ := hcan g
    rw [e1, int_numZ (by rw [← e1]; omega)] at hn
    rw [e2, int_numZ (by rw [← e2]; omega)] at hd
    cases hn
    cases hd
    exact c
  refine ⟨_, rfl, _, n, rfl, hn, by rw [SX.S_len]; omega, _, rfl, _, d, rfl, hd, by rw [SX.S_len]; omega, _, _, rfl, ?_⟩
  refine ⟨_, rfl, rfl, _, rfl, iI (fun h0 => ⟨_, rfl, ?_⟩) fun h0 => nxt ?_⟩
  · refine rse (fun g => ?_) H3 g13
    have := (hcan2 g).pos
    omega
  refine ⟨_, rfl, _, rfl, ?_⟩
  intro x dx hx hdx hne
  refine ⟨x, dx, n, d, rfl, upd_same, sn.mono (by decide), sd.mono (by decide), fun _ => ⟨rfl, ?_⟩, fun h => absurd h h0⟩
  have g4 := gr_make (o := .own x) (o1 := .ins (ga K "Ratio") dx []) (o2 := .ins (ga K "Ratio") dx (rf (Rat.divInt n d))) hx hdx
  have rx : RA (ga K "Ratio") (upd (upd (upd H3 dx (.own x)) x (.ins (ga K "Ratio") dx [])) x (.ins (ga K "Ratio") dx (rf (Rat.divInt n d)))) x (Rat.divInt n d) := ⟨dx, upd_same⟩
  have sq : rsm 1900 (Rat.divInt n d) := (rsm.divInt sn sd h0).mono (by decide)
  obtain ⟨dx2, hx2⟩ := id rx
  refine ⟨_, rfl, x, dx2, _, rfl, hx2, x, _, rfl, rx, sq, _, rfl, _, rfl, rfl, _, rfl, iSn (fun hne => ⟨_, rfl, ?_⟩) fun he => nxt ⟨_, rfl, ?_⟩⟩
  · refine rse (fun g => hne ?_) _ (g13.trans g4)
    obtain ⟨q, e1, e2, e3⟩ := (hcan2 g).rat
    rw [e3, e1, e2, txt_eq, ← (hcan2 g).eq]
  · refine R h90' _ ?_ x _ (g13.trans g4) rx sq
    rw [txt_eq] at he
    have := canon_of (Rat.divInt n d)
    rw [SX.S_inj he] at this
    have e2 := SX.S_inj he
    exact ⟨e2.symm, this.pos, this.cop⟩
end
end K00
namespace K00
open PySem PySem.Spec PyProof.Rows L2 L2.LX
open PySem.W (Frag)
section
variable {P : Program} {w : World} {K : Frag} {mg : Str → Option Value} {base : Heap}
def spLRead : Sp := fun vs H Q _ => ∃ w : List Nat, vs = [.str (SX.S w)] ∧ w.length ≤ 10000 ∧ (w.length ≤ 90 → ∀ n d, Canon w n d → ∀ t H', Gr H H' → TA H' t n d → Q (.ref t) H') ∧ (¬ Good w → ∀ H', Gr H H' → Q .non H')
theorem split_slash (b : List Nat) : Txt.split (SX.S b) "/" = (TL.spl [47] 0 [] b).map SX.S := by
  rw [slash_eq]
  exact SX.split_S (by simp) (by decide)
theorem one_eq (t : List Nat) : decide (V.str (cutS (SX.S t) none (some 1)) = V.str "-") = decide (t.take 1 = [45]) := by
  rw [cut_to1, minus_eq, decide_eq_decide]
  exact ⟨fun e => SX.S_inj (V.str.inj e), fun e => by rw [e]⟩
theorem ok__law_read (T : Tx K mg) (G : Pg P) : FnOk P w K mg base (L2N.CX P w) 2 (a__law_read K) (fdOf K (a__law_read K)) ["text"] spLRead := by
  refine (T.d__law_read).ok sc__law_read (fun vs H Q E h => ?_) (fun cdv A outer s H vs Q E hr h => ?_)
  · obtain ⟨t, rfl, _⟩ := h
    rfl
  obtain ⟨t, rfl, ht, R, no⟩ := h
  refine ⟨_, (pss_cons (ps_if (pt_cmpR op_gt (pe_callB call_len_str (by rfl) (Tx.f_len T) (by decide +kernel) (pa_cons (pv 0) pa_nil)) pe_int (nomark _)) (pss_one (ps_ret pe_non))
    pss_nil)
    (pss_cons (ps_set (i := 1) sc__law_read.nd rfl (Or.inl rfl) (pv 0))
    (pss_cons (ps_if (pt_cmpR op_eq (pe_slice sl_str (pv 0) po_none (po_some pe_int)) pe_str (nomark _)) (pss_one (ps_set (i := 1) sc__law_read.nd rfl (Or.inl rfl) (pe_slice sl_str (pv 0) (po_some pe_int) po_none)))
    pss_nil)
    (pss_cons (ps_set (i := 2) sc__law_read.nd rfl (Or.inl rfl) (pe_split (pv 1) pe_str))
    (pss_cons (ps_if (PW.pt (pw_or (pt_cmpR op_gt (pe_callB call_len_seq (by rfl) (Tx.f_len T) (by decide +kernel) (pa_cons (pv 2) pa_nil)) pe_int (nomark _)) (pw_or (pt_not (pt_val (pe_call (ok__law_is_number T G) (hr.mono (by decide)) rfl (Tx.g__law_is_number T) (Tx.d__law_is_number T).kp (Tx.b__law_is_number T) .nil passN0 (pa_cons (pe_ix ix_list (pv 2) pe_int (fun _ _ => rfl)) pa_nil)))) (pw_or1 (pt_not (pt_val (pe_call (ok__law_is_number T G) (hr.mono (by decide)) rfl (Tx.g__law_is_number T) (Tx.d__law_is_number T).kp (Tx.b__law_is_number T) .nil passN0 (pa_cons (pe_ix ix_list (pv 2) (pe_op op_sub (pe_callB call_len_seq (by rfl) (Tx.f_len T) (by decide +kernel) (pa_cons (pv 2) pa_nil)) pe_int) (fun _ _ => rfl)) pa_nil)))))))) (pss_one (ps_ret pe_non))
    pss_nil)
    (pss_cons (ps_set (i := 3) sc__law_read.nd rfl (Or.inl rfl) (pe_callTy call_int_str (by rfl) (Tx.f_int T) (by decide +kernel) (pa_cons (pe_ix ix_list (pv 2) pe_int (fun _ _ => rfl)) pa_nil)))
    (pss_cons (ps_set (i := 4) sc__law_read.nd rfl (Or.inl rfl) pe_int)
    (pss_cons (ps_if (pt_cmpR op_eq (pe_callB call_len_seq (by rfl) (Tx.f_len T) (by decide +kernel) (pa_cons (pv 2) pa_nil)) pe_int (nomark _)) (pss_cons (ps_set (i := 4) sc__law_read.nd rfl (Or.inl rfl) (pe_callTy call_int_str (by rfl) (Tx.f_int T) (by decide +kernel) (pa_cons (pe_ix ix_list (pv 2) pe_int (fun _ _ => rfl)) pa_nil)))
    (pss_one (ps_if (PW.pt (pw_or (pt_cmpR op_lt (pv 4) pe_int (nomark _)) (pw_or1 (pt_cmpR op_ne (pe_call (ok__law_gcd T G) (hr.mono (by decide)) rfl (Tx.g__law_gcd T) (Tx.d__law_gcd T).kp (Tx.b__law_gcd T) .nil passN0 (pa_cons (pv 3) (pa_cons (pv 4) pa_nil))) pe_int (nomark _))))) (pss_one (ps_ret pe_non))
    pss_nil)))
    pss_nil)
    (pss_cons (ps_if (pt_cmpR op_eq (pe_slice sl_str (pv 0) po_none (po_some pe_int)) pe_str (nomark _)) (pss_cons (ps_if (pt_cmpR op_eq (pv 3) pe_int (nomark _)) (pss_one (ps_ret pe_non))
    pss_nil)
    (pss_one (ps_set (i := 3) sc__law_read.nd rfl (Or.inl rfl) (pe_un un_neg (pv 3)))))
    pss_nil)
    (pss_one (ps_ret (pe_tup (pa_cons (pv 3) (pa_cons (pv 4) pa_nil)))))))))))))), ?_⟩
  have hz : (SX.S t).length ≤ sizeLine := by rw [SX.S_len, sizeLine_eq]; omega
  refine ⟨_, rfl, _, rfl, hz, _, _, rfl, rfl, _, rfl, ?_⟩
  rw [SX.S_len]
  refine iD (fun h90 => ?_) fun h90 => nxt ?_
  · exact no (fun g => by have := g.1; omega) H (Gr.refl H)
  have h90' : t.length ≤ 90 := by omega
  have hbl : (bodyL t).length ≤ 90 := by
    unfold bodyL
    split
    · rw [List.length_drop]
      omega
    · exact h90'
  dsimp only
  refine ⟨_, rfl, ?_⟩
  dsimp only [gName]
  refine seqP (fun σ' H' => H' = H ∧ σ' = ([some (.str (SX.S t)), some (.str (SX.S (bodyL t))), none, none, none] : List (Option V))) (fun kk => ?_) ?_
  · refine ⟨_, rfl, _, rfl, _, rfl, hz, rfl, _, rfl, ?_⟩
    rw [one_eq]
    refine iD (fun hm => ?_) fun hm => nxt (kk _ _ ⟨rfl, ?_⟩)
    · refine ⟨_, rfl, _, rfl, _, rfl, hz, kk _ _ ⟨rfl, ?_⟩⟩
      show ([some (.str (SX.S t)), some (.str (cutS (SX.S t) (some 1) none)), none, none, none] : List (Option V)) = _
      rw [cut_from1]
      unfold bodyL
      rw [if_pos hm]
    · show ([some (.str (SX.S t)), some (.str (SX.S t)), none, none, none] : List (Option V)) = _
      unfold bodyL
      rw [if_neg hm]
  rintro _ H0 ⟨e0, rfl⟩
  subst e0
  refine ⟨_, rfl, ⟨_, rfl⟩, _, _, rfl, rfl, (by decide +kernel), (by rw [SX.S_len, sizeLine_eq]; omega), fun l hl => ?_⟩
  dsimp only [gName]
  rw [split_slash]
  have g1 := (Gr.refl H0).upd (o := .lst (((wordsL t).map SX.S).map V.str)) hl
  have cw : ∀ n d, Canon t n d → _ := fun n d c => c.words
  have jn := wordsL_join t
  have hne := wordsL_ne t
  refine seqP (fun σ' H' => σ' = ([some (.str (SX.S t)), some (.str (SX.S (bodyL t))), some (.ref l), none, none] : List (Option V)) ∧ Gr H0 H' ∧ H' l = some (.lst (((wordsL t).map SX.S).map V.str)) ∧ ((∃ a, wordsL t = [a] ∧ NZ a) ∨ ∃ a b, wordsL t = [a, b] ∧ NZ a ∧ NZ b)) (fun kk => ?_) ?_
  · show tIfS _ _ _ _ _ (upd H0 l (.lst (((wordsL t).map SX.S).map V.str)))
    refine ⟨_, rfl, _, _, rfl, .inl (SqL.of upd_same), _, _, rfl, rfl, _, rfl, iD (fun h => ?_) fun h => ?_⟩
    · refine no (fun ⟨_, n, d, c⟩ => ?_) _ g1
      rw [List.length_map, List.length_map] at h
      rcases (cw n d c).2 with ⟨e, _⟩ | ⟨e, _⟩ <;> rw [e] at h <;> simp at h
    rw [List.length_map, List.length_map] at h
    rcases hW : wordsL t with _ | ⟨a, _ | ⟨b, _ | ⟨c, r⟩⟩⟩
    · exact absurd hW hne
    · -- one word
      have ja : a = bodyL t := by rw [← jn, hW]; rfl
      have la : a.length ≤ 90 := by rw [ja]; exact hbl
      refine ⟨_, rfl, _, _, _, _, rfl, rfl, SqL.of upd_same, ix0, a, rfl, by omega, fun k1 i1 => ⟨_, rfl, ?_⟩⟩
      refine iB (fun hk => iT rfl ?_) fun hk => ?_
      · refine no (fun ⟨_, n, d, c⟩ => ?_) _ (by rw [hW] at g1; exact g1)
        rcases (cw n d c).2 with ⟨e, _⟩ | ⟨e, _⟩
        · rw [hW] at e
          have := (List.cons.inj e).1
          subst this
          rw [i1.mpr (numL_NZ _)] at hk
          cases hk
        · rw [hW] at e
          cases e
      have na : NZ a := i1.mp (by simpa using hk)
      refine ⟨_, rfl, _, rfl, _, _, rfl, .inl (SqL.of upd_same), _, _, rfl, rfl, _, _, _, _, rfl, rfl, SqL.of upd_same, (atI_nat (j := 0) rfl), a, rfl, by omega, fun k2 i2 => ⟨_, rfl, ?_⟩⟩
      rw [i2.mpr na]
      refine iF rfl (nxt (kk _ _ ⟨rfl, by rw [hW] at g1; exact g1, ?_, .inl ⟨a, hW, na⟩⟩))
      rw [hW]
      exact upd_same
    · -- two words
      have ja : a ++ ([47] ++ b) = bodyL t := by rw [← jn, hW]; rfl
      have lab : a.length ≤ 90 ∧ b.length ≤ 90 := by
        have := congrArg List.length ja
        rw [List.length_append, List.length_append] at this
        omega
      refine ⟨_, rfl, _, _, _, _, rfl, rfl, SqL.of upd_same, ix0, a, rfl, by omega, fun k1 i1 => ⟨_, rfl, ?_⟩⟩
      refine iB (fun hk => iT rfl ?_) fun hk => ?_
      · refine no (fun ⟨_, n, d, c⟩ => ?_) _ (by rw [hW] at g1; exact g1)
        rcases (cw n d c).2 with ⟨e, _⟩ | ⟨e, _⟩
        · rw [hW] at e
          cases e
        · rw [hW] at e
          have := (List.cons.inj e).1
          subst this
          rw [i1.mpr (numL_NZ _)] at hk
          cases hk
      have na : NZ a := i1.mp (by simpa using hk)
      refine ⟨_, rfl, _, rfl, _, _, rfl, .inl (SqL.of upd_same), _, _, rfl, rfl, _, _, _, _, rfl, rfl, SqL.of upd_same, (atI_nat (j := 1) rfl), b, rfl, by omega, fun k2 i2 => ⟨_, rfl, ?_⟩⟩
      refine iB (fun hk2 => ?_) fun hk2 => ?_
      · refine no (fun ⟨_, n, d, c⟩ => ?_) _ (by rw [hW] at g1; exact g1)
        rcases (cw n d c).2 with ⟨e, _⟩ | ⟨e, _⟩
        · rw [hW] at e
          cases e
        · rw [hW] at e
          have := (List.cons.inj (List.cons.inj e).2).1
          subst this
          rw [i2.mpr (numL_NZ _)] at hk2
          cases hk2
      have nb : NZ b := i2.mp (by simpa using hk2)
      refine nxt (kk _ _ ⟨rfl, by rw [hW] at g1; exact g1, ?_, .inr ⟨a, b, hW, na, nb⟩⟩)
      rw [hW]
      exact upd_same
    · rw [hW] at h
      simp at h
      omega
  · rintro _ H1 ⟨rfl, g2, hl1, hw⟩
    obtain ⟨a, rest, hW, na, hr2⟩ : ∃ a rest, wordsL t = a :: rest ∧ NZ a ∧ (rest = [] ∨ ∃ b, rest = [b] ∧ NZ b) := by
      rcases hw with ⟨a, hW, na⟩ | ⟨a, b, hW, na, nb⟩
      · exact ⟨a, [], hW, na, .inl rfl⟩
      · exact ⟨a, [b], hW, na, .inr ⟨b, rfl, nb⟩⟩
    have lab : a.length ≤ 90 ∧ ∀ b, rest = [b] → b.length ≤ 90 := by
      rcases hr2 with e | ⟨b, e, _⟩
      · have ja : a = bodyL t := by rw [← jn, hW, e]; rfl
        exact ⟨by rw [ja]; exact hbl, fun b eb => by rw [e] at eb; cases eb⟩
      · have ja : a ++ ([47] ++ b) = bodyL t := by rw [← jn, hW, e]; rfl
        have := congrArg List.length ja
        rw [List.length_append, List.length_append] at this
        refine ⟨by omega, fun b' eb => ?_⟩
        rw [e] at eb
        cases eb
        omega
    have cdv : Good t → t.take 1 = [45] → dv a ≠ 0 := fun ⟨_, n, d, c⟩ hm => by
      obtain ⟨h1, h2⟩ := cw n d c
      have hn := h1.mp hm
      have ea : a = TL.numL n.natAbs := by
        rcases h2 with ⟨e, _⟩ | ⟨e, _⟩ <;> rw [hW] at e <;> exact (List.cons.inj e).1
      rw [ea]
      show NumText.digitsVal _ ≠ 0
      rw [TL.numL_val]
      omega
    rw [hW] at hl1
    refine ⟨_, rfl, _, _, _, _, rfl, rfl, SqL.of hl1, ix0, _, _, rfl, int_digits na.ad na.ne lab.1, by rw [SX.S_len]; omega, ?_⟩
    dsimp only [gName]
    refine stepC ?_
    refine seqP (fun σ' H' => ∃ bt : Int, σ' = ([some (.str (SX.S t)), some (.str (SX.S (bodyL t))), some (.ref l), some (.int ((dv a : Nat) : Int)), some (.int bt)] : List (Option V)) ∧ Gr H0 H' ∧
      (∀ n : Int, (t.take 1 = [45] → dv a ≠ 0) → n = (if t.take 1 = [45] then -((dv a : Nat) : Int) else ((dv a : Nat) : Int)) → Canon t n bt)) (fun kk => ?_) ?_
    · refine ⟨_, rfl, _, _, rfl, .inl (SqL.of hl1), rfl, _, rfl, ?_⟩
      rw [List.length_map, List.length_map]
      rcases hr2 with e | ⟨b, e, nb⟩
      · subst e
        refine iI (fun h => absurd h (show ¬ ((1 : Nat) : Int) = 2 by decide)) fun _ => nxt (kk _ _ ⟨1, rfl, g2, fun n h1 h2 => canon_words a hW na h1 h2⟩)
      · subst e
        refine iI (fun _ => ?_) fun h => absurd rfl h
        have lb := lab.2 b rfl
        refine ⟨_, rfl, _, _, _, _, rfl, rfl, SqL.of hl1, ix1, _, _, rfl, int_digits nb.ad nb.ne lb, by rw [SX.S_len]; omega, ?_⟩
        refine ⟨_, rfl, _, _, rfl, rfl, _, rfl, iD (fun h2 => iT rfl ?_) fun h2 => ?_⟩
        · refine no (fun ⟨_, n, d, c⟩ => ?_) _ g2
          rcases (cw n d c).2 with ⟨e, _⟩ | ⟨e, hd⟩
          · rw [hW] at e
            cases e
          · rw [hW] at e
            have eb := (List.cons.inj (List.cons.inj e).2).1
            rw [eb] at h2
            have : ((NumText.digitsVal (TL.numL d.natAbs) : Nat) : Int) < 2 := h2
            rw [TL.numL_val] at this
            omega
        refine ⟨_, rfl, _, rfl, _, _, rfl, rfl, _, rfl, iIn (fun hg => ?_) fun hg => nxt (kk _ _ ⟨_, rfl, g2, fun n h1 h3 => canon_words2 a b hW na nb (by omega) ?_ h1 h3⟩)⟩
        · refine no (fun ⟨_, n, d, c⟩ => ?_) _ g2
          rcases (cw n d c).2 with ⟨e, _⟩ | ⟨e, hd⟩
          · rw [hW] at e
            cases e
          · rw [hW] at e
            have ea := (List.cons.inj e).1
            have eb := (List.cons.inj (List.cons.inj e).2).1
            refine hg ?_
            rw [ea, eb, Int.natAbs_natCast, Int.natAbs_natCast]
            show ((Nat.gcd (NumText.digitsVal (TL.numL n.natAbs)) (NumText.digitsVal (TL.numL d.natAbs)) : Nat) : Int) = 1
            rw [TL.numL_val, TL.numL_val, c.cop]
            rfl
        · rw [Int.natAbs_natCast, Int.natAbs_natCast] at hg
          omega
    · rintro _ H2 ⟨bt, rfl, g3, hcan⟩
      refine seqP (fun σ' H' => ∃ n : Int, σ' = ([some (.str (SX.S t)), some (.str (SX.S (bodyL t))), some (.ref l), some (.int n), some (.int bt)] : List (Option V)) ∧ Gr H0 H' ∧ Canon t n bt) (fun kk => ?_) ?_
      · refine ⟨_, rfl, _, rfl, _, rfl, hz, rfl, _, rfl, ?_⟩
        rw [one_eq]
        refine iD (fun hm => ?_) fun hm => nxt (kk _ _ ⟨_, rfl, g3, hcan _ (fun h => absurd h hm) (by rw [if_neg hm])⟩)
        refine ⟨_, rfl, rfl, _, rfl, iI (fun h0 => ?_) fun h0 => nxt ?_⟩
        · exact no (fun g => cdv g hm (by omega)) _ g3
        · refine ⟨_, rfl, _, rfl, ?_⟩
          exact kk _ _ ⟨_, rfl, g3, hcan _ (fun _ => by omega) (by rw [if_pos hm])⟩
      · rintro _ H3 ⟨n, rfl, g4, c⟩
        refine ⟨_, rfl, _, rfl, sz2, fun u hu => ?_⟩
        exact R h90' n bt c u _ (g4.trans ((Gr.refl _).upd hu)) upd_same
theorem numZ_inj {n n' : Int} (h : numZ n = numZ n') (hl : (numZ n).length ≤ 90) : n = n' := by
  have e1 := int_numZ (n := n) (by omega)
  have e2 := int_numZ (n := n') (by rw [← h]; omega)
  rw [h, e2] at e1
  exact (Option.some.inj e1).symm
theorem Canon.uniq {t : List Nat} {n d n' d' : Int} (h : t.length ≤ 90) (c : Canon t n d) (c' : Canon t n' d') : n = n' ∧ d = d' := by
  have go : ∀ p r, Cut t p r → p.length ≤ 90 → r.length ≤ 90 → n = n' ∧ d = d' := fun p r hc lp lr => by
    obtain ⟨h1, h2⟩ := c.cut hc
    obtain ⟨h3, h4⟩ := c'.cut hc
    exact ⟨numZ_inj (h1.symm.trans h3) (by rw [← h1]; exact lp), numZ_inj (h2.symm.trans h4) (by rw [← h2]; exact lr)⟩
  rcases cut_ex t with e | ⟨p, r, e, hp⟩
  · exact go t [49] (.inl ⟨e, rfl, rfl⟩) h (by decide)
  · have := congrArg List.length e
    rw [List.length_append, List.length_cons] at this
    exact go p r (.inr ⟨e, hp⟩) (by omega) (by omega)
theorem ok__law_read_right (T : Tx K mg) (G : Pg P) : FnOk P w K mg base (L2N.CX P w) 13 (a__law_read_right K) (fdOf K (a__law_read_right K)) ["text"] spRR := by
  refine (T.d__law_read_right).ok sc__law_read_right (fun vs H Q E h => ?_) (fun cdv A outer s H vs Q E hr h => ?_)
  · obtain ⟨t, rfl, _⟩ := h
    rfl
  obtain ⟨y, rfl, hy, R⟩ := h
  obtain ⟨t, rfl⟩ : ∃ t : List Nat, y = SX.S t := ⟨y.cps.toList, (SX.S_tl y).symm⟩
  refine ⟨_, (pss_cons (ps_set (i := 1) sc__law_read_right.nd rfl (Or.inl rfl) (pe_call (ok__law_read T G) (hr.mono (by decide)) rfl (Tx.g__law_read T) (Tx.d__law_read T).kp (Tx.b__law_read T) .nil passN0 (pa_cons (pv 0) pa_nil)))
    (pss_cons (L2N.ps_try_as (i := 3) rfl rfl sc__law_read_right.nd rfl rfl ⟨rfl, by decide, .inl (Tx.e_InvalidText T).1⟩ (L2N.takes_of rfl rfl rfl rfl) (fun W pn xe tk _ => (pss_one (ps_set (i := 2) sc__law_read_right.nd rfl (Or.inl rfl) (pe_sta (pe_glob (v := .ref _) rfl (Tx.g_Ratio T) rfl) (Tx.st_Ratio_read T) (ok_Ratio_read T G) (hr.mono (by decide)) (Tx.b_Ratio_read T) (fun σ => L2N.passAt tk σ) (pa_cons (pv 0) pa_nil))))) (fun a oe cls d pn hz hf => (pss_one (ps_ret (pe_and (pe_cmpR op_isN (pv 1) pe_non (nomark _)) (pe_and (pe_callB (call_isiS (K := K) rfl) (by rfl) (Tx.f_isinstance T) (by decide +kernel) (pa_cons (pe_xf (Tx.e_InvalidText T).2.xf (Tx.n_InvalidText T) hz.zc hf (pv 3)) (pa_cons (pe_bltn (v := .ty "str") (by rfl) (Tx.f_str T) (by decide +kernel) rfl) pa_nil))) (pe_one (pe_cmpR op_eq (pe_xf (Tx.e_InvalidText T).2.xf (Tx.n_InvalidText T) hz.zc hf (pv 3)) (pv 0) (nomark _)))))))))
    (pss_cons (ps_if (pt_cmpR op_isN (pv 1) pe_non (nomark _)) (pss_one (ps_ret pe_bl))
    pss_nil)
    (pss_one (ps_ret (pe_and (pe_call (ok__law_is T G) (hr.mono (by decide)) rfl (Tx.g__law_is T) (Tx.d__law_is T).kp (Tx.b__law_is T) .nil passN0 (pa_cons (pv 2) (pa_cons (pv 1) pa_nil))) (pe_one (pe_cmpR op_eq (pe_callTy (call_ownStr (ok_Ratio___str__ T G) (hr.mono (by decide)) (Tx.b_Ratio___str__ T) passN0 (Tx.o_Ratio___str__ T).1) (by rfl) (Tx.f_str T) (by decide +kernel) (pa_cons (pv 2) pa_nil)) (pv 0) (nomark _))))))))), ?_⟩
  have hlen : t.length ≤ 10000 := by rw [← SX.S_len t]; exact hy.len
  by_cases hg : Good t
  · obtain ⟨h90, n, d, c⟩ := id hg
    refine ⟨_, rfl, t, rfl, hlen, fun _ n' d' c' tu H1 g1 t1 => ?_, fun h => absurd hg h⟩
    dsimp only [gName]
    refine ⟨rfl, _, rfl, t, rfl, hy, fun _ q cq x H2 g2 rx sq => ?_, fun h => absurd hg h⟩
    obtain ⟨en, ed⟩ := Canon.uniq h90 cq c'
    refine ⟨_, rfl, rfl, _, rfl, iD (fun e => nomatch e) fun _ => nxt ?_⟩
    refine ⟨_, rfl, _, rfl, x, tu, q, n', d', rfl, rx, g2 _ _ t1, en, ed, fun H3 g3 => ⟨_, rfl, iT rfl ?_⟩⟩
    have rx3 := rx.gr g3
    obtain ⟨dx, hx⟩ := id rx3
    refine ⟨_, rfl, x, dx, _, rfl, hx, x, q, rfl, rx3, sq, _, rfl, _, rfl, rfl, ?_⟩
    have e : decide (V.str (txt q.num q.den) = V.str (SX.S t)) = true := by
      rw [txt_eq, ← cq.eq]
      exact decide_eq_true rfl
    rw [e]
    exact R H3 ((g1.trans g2).trans g3)
  · refine ⟨_, rfl, t, rfl, hlen, fun h n d c => absurd ⟨h, n, d, c⟩ hg, fun _ H1 g1 => ?_⟩
    dsimp only [gName]
    refine ⟨rfl, _, rfl, t, rfl, hy, fun h q c => absurd ⟨h, _, _, c⟩ hg, fun _ H2 e g2 he => ?_⟩
    refine ⟨true, (Tx.e_InvalidText T).2.exm, fun _ a hea => ?_, fun h => nomatch h⟩
    refine ⟨_, rfl, rfl, _, rfl, iT rfl ?_⟩
    refine ⟨_, rfl, rfl, rfl, e, _, _, rfl, upd_same, rfl, _, _, _, _, _, rfl, .ty _, (Bt.str _).ty, kit_ty (a := "str") (b := "str") (r := true) (by decide +kernel), _, rfl, iT rfl ?_⟩
    refine ⟨_, rfl, rfl, rfl, e, _, _, rfl, upd_same, rfl, _, rfl, rfl, ?_⟩
    rw [decide_eq_true rfl]
    exact R _ ((g1.trans g2).upd he)
end
end K00
namespace L2.LX
open PySem PySem.Spec PyProof.Rows L2
/-- a text, n times -/
def rMulS : R2 := fun x y H Q => ∃ (z : Str) (n : Int), x = .str z ∧ y = .int n ∧ 0 ≤ n ∧ n ≤ 1000000 ∧ z.length * n.toNat ≤ 1000000 ∧ ∀ r : Str, r.length ≤ z.length * n.toNat → (∀ c ∈ r.cps.toList, c ∈ z.cps.toList) → Q (.str r) H
theorem rep_fold (a : Array Nat) : ∀ (k : Nat) (acc : Array Nat), ((List.replicate k a).foldl (· ++ ·) acc).size = acc.size + a.size * k ∧ ∀ c ∈ ((List.replicate k a).foldl (· ++ ·) acc).toList, c ∈ acc.toList ∨ c ∈ a.toList
  | 0, acc => ⟨by simp, fun c h => .inl h⟩
  | k + 1, acc => by
    rw [List.replicate_succ, List.foldl_cons]
    obtain ⟨h1, h2⟩ := rep_fold a k (acc ++ a)
    refine ⟨?_, fun c hc => ?_⟩
    · rw [h1, Array.size_append, Nat.mul_succ]
      omega
    · rcases h2 c hc with h | h
      · rw [Array.toList_append] at h
        exact List.mem_append.mp h
      · exact .inr h
theorem op_mulS {X : Cx} : OpR X (binaryOp .Mult) rMulS := by
  intro pins s σ H x y v u Q I rx ry h
  obtain ⟨z, n, rfl, rfl, h0, h1, hz, q⟩ := h
  obtain ⟨t, rfl⟩ := rx
  obtain ⟨t', rfl⟩ := ry
  refine PySem.P.mul_str (by
    rw [decide_eq_false (by omega), decide_eq_false (by omega)]
    rfl) (fun g1 g2 => ?_) (fun _ _ => ?_) ?_
  · have hl : z.length ≤ 1000000 := by
      have : z.length * 1 ≤ z.length * n.toNat := Nat.mul_le_mul_left _ (by omega)
      omega
    have hq : (2 ^ 63 - 1) / n ≥ 1000000 := by
      refine (Int.le_ediv_iff_mul_le (by omega)).mpr ?_
      have := Int.mul_le_mul_of_nonneg_left h1 (show (0 : Int) ≤ 1000000 by decide)
      omega
    omega
  · show decide (z.length * n.toNat > sizeLine) = false
    rw [sizeLine_eq]
    exact decide_eq_false (by omega)
  · by_cases g : n < 1
    · rw [if_pos g]
      exact ⟨by decide, .str Str.empty, H, I.tok _, ⟨_, rfl⟩, q _ (Nat.zero_le _) (fun c hc => by cases hc)⟩
    · rw [if_neg g]
      by_cases g2 : (n == 1 || z.length == 0) = true
      · rw [if_pos g2]
        refine ⟨.str z, H, I.tok _, ⟨_, rfl⟩, q _ ?_ fun c hc => hc⟩
        have : z.length * 1 ≤ z.length * n.toNat := Nat.mul_le_mul_left _ (by omega)
        omega
      · rw [if_neg g2]
        obtain ⟨r1, r2⟩ := rep_fold z.cps n.toNat #[]
        have hlen : (⟨(List.replicate n.toNat z.cps).foldl (· ++ ·) #[]⟩ : Str).length ≤ z.length * n.toNat := by
          show ((List.replicate n.toNat z.cps).foldl (· ++ ·) #[]).size ≤ _
          rw [r1]
          show 0 + z.cps.size * n.toNat ≤ z.cps.size * n.toNat
          omega
        exact ⟨by rw [sizeLine_eq]; omega, .str _, H, I.tok _, ⟨_, rfl⟩, q _ hlen fun c hc => (r2 c hc).elim (fun e => by cases e) id⟩
end L2.LX
namespace K00
open PySem PySem.Spec PyProof.Rows L2 L2.LX
open PySem.W (Frag)
/-- signs that may be told -/
abbrev CP (y : Str) : Prop := ∀ c ∈ y.cps.toList, c < 16 ^ 8
theorem CP.app {a b : Str} (h : CP a) (h' : CP b) : CP (a ++ b) := fun c hc => by
  have e : (a ++ b : Str).cps.toList = a.cps.toList ++ b.cps.toList := by
    show (a.cps ++ b.cps).toList = _
    simp
  rw [e] at hc
  rcases List.mem_append.mp hc with h1 | h1
  · exact h c h1
  · exact h' c h1
theorem CP.cut {a : Str} (h : CP a) (lo hi : Option Int) : CP (cutS a lo hi) := fun c hc => by
  refine h c ?_
  have hc2 : c ∈ (a.cps.toList.drop (HT.sIx a.length 0 lo)).take (HT.sIx a.length a.length hi - HT.sIx a.length 0 lo) := by
    simpa [cutS] using hc
  exact List.mem_of_mem_drop (List.mem_of_mem_take hc2)
theorem its_len {n : Int} {k : Nat} (h0 : 0 ≤ n) (h1 : n < 10 ^ k) (hk : 0 < k) : (its n).length ≤ k := by
  obtain ⟨m, rfl⟩ : ∃ m : Nat, n = (m : Int) := ⟨n.toNat, by omega⟩
  rw [its_eq, numZ_nat, SX.S_len]
  refine TL.numL_len hk ?_
  have e : ((10 : Int) ^ k) = ((10 ^ k : Nat) : Int) := by simp
  rw [e] at h1
  omega
theorem cp_lit {s : String} (h : ((Str.ofString s).cps.toList.all fun c => decide (c < 4294967296)) = true) : CP (Str.ofString s) := fun c hc => by
  have e : (16 : Nat) ^ 8 = 4294967296 := rfl
  rw [e]
  exact of_decide_eq_true (List.all_eq_true.mp h c hc)
theorem szT {a : Nat} (h : a ≤ 1000000) : a ≤ sizeLine := by
  rw [sizeLine_eq]
  omega
theorem cp_one {y : Str} {c : Nat} (h : CP y) (hc : c ∈ y.cps.toList) : CP ⟨#[c]⟩ := fun d hd => by
  have : d = c := by simpa using hd
  rw [this]
  exact h c hc
theorem atI_str {y : Str} {r : Int} (h0 : 0 ≤ r) (h1 : r < y.length) : ∃ c, atI y.cps.toList r = some c ∧ c ∈ y.cps.toList := by
  obtain ⟨i, rfl⟩ : ∃ i : Nat, r = (i : Int) := ⟨r.toNat, by omega⟩
  have hi : i < y.cps.toList.length := by
    show i < y.cps.toList.length
    have : y.cps.toList.length = y.length := by simp [Str.length]
    omega
  exact ⟨y.cps.toList[i], atI_nat (List.getElem?_eq_getElem hi), List.getElem_mem hi⟩
theorem atI_mem {xs : List V} {r : Int} (h0 : 0 ≤ r) (h1 : r < xs.length) : ∃ v, atI xs r = some v ∧ v ∈ xs := by
  obtain ⟨i, rfl⟩ : ∃ i : Nat, r = (i : Int) := ⟨r.toNat, by omega⟩
  have hi : i < xs.length := by omega
  exact ⟨xs[i], atI_nat (List.getElem?_eq_getElem hi), List.getElem_mem hi⟩
/-- texts of a list of texts -/
structure TL5 (n : Nat) (xs : List V) : Prop where
  all : ∀ v ∈ xs, ∃ z : Str, v = .str z ∧ z.length ≤ n ∧ CP z
theorem TL5.at_ {n : Nat} {xs : List V} (t : TL5 n xs) {r : Int} (h0 : 0 ≤ r) (h1 : r < xs.length) : ∃ z : Str, atI xs r = some (.str z) ∧ z.length ≤ n ∧ CP z := by
  obtain ⟨v, h, hm⟩ := atI_mem h0 h1
  obtain ⟨z, rfl, h2, h3⟩ := t.all v hm
  exact ⟨z, h, h2, h3⟩
theorem TL5.nil {n : Nat} : TL5 n [] := ⟨fun v hv => by cases hv⟩
theorem TL5.cons {n : Nat} {z : Str} {xs : List V} (h : z.length ≤ n) (h' : CP z) (t : TL5 n xs) : TL5 n (.str z :: xs) := ⟨fun v hv => by
  rcases List.mem_cons.mp hv with rfl | hv
  · exact ⟨z, rfl, h, h'⟩
  · exact t.all v hv⟩
theorem TL5.app {n : Nat} {xs ys : List V} (t : TL5 n xs) (t' : TL5 n ys) : TL5 n (xs ++ ys) := ⟨fun v hv => by
  rcases List.mem_append.mp hv with h | h
  · exact t.all v h
  · exact t'.all v h⟩
theorem TL5.mono {n m : Nat} {xs : List V} (t : TL5 n xs) (h : n ≤ m) : TL5 m xs := ⟨fun v hv => by
  obtain ⟨z, e, h1, h2⟩ := t.all v hv
  exact ⟨z, e, Nat.le_trans h1 h, h2⟩⟩
theorem cut_hi (z : Str) {k : Int} (h : 0 ≤ k) : (cutS z none (some k)).length ≤ k.toNat := by
  show (((z.cps.toList.drop (HT.sIx z.length 0 none)).take (HT.sIx z.length z.length (some k) - HT.sIx z.length 0 none)).toArray).size ≤ _
  have e : HT.sIx z.length z.length (some k) = min k.toNat z.length := if_neg (by omega)
  rw [e, HT.sIx_none, List.size_toArray, List.length_take]
  omega
theorem cut_lo (z : Str) {k : Int} (h : 0 ≤ k) : (cutS z (some k) none).length ≤ z.length - k.toNat := by
  show (((z.cps.toList.drop (HT.sIx z.length 0 (some k))).take (HT.sIx z.length z.length none - HT.sIx z.length 0 (some k))).toArray).size ≤ _
  have e : HT.sIx z.length 0 (some k) = min k.toNat z.length := if_neg (by omega)
  rw [e, HT.sIx_none, List.size_toArray, List.length_take]
  omega
theorem cutS_le (z : Str) (lo hi : Option Int) : (cutS z lo hi).length ≤ z.length := cutS_length z lo hi
section
variable {P : Program} {w : World} {K : Frag} {mg : Str → Option Value} {base : Heap}
/-- a text, bent -/
def spBent : Sp := fun vs H Q _ => ∃ (b : Addr) (y : Str), vs = [.ref b, .str y] ∧ Bx b H ∧ y.length ≤ 100000 ∧ CP y ∧ ∀ H' z, Kp b H H' → Bx b H' → z.length ≤ y.length + 2 → CP z → Q (.str z) H'
theorem cp_signs : CP ("0123456789-/+ ._e\nxa,;'" : Str) := cp_lit (by decide +kernel)
theorem ok__law_bent (T : Tx K mg) (G : Pg P) : FnOk P w K mg base (L2N.CX P w) 2 (a__law_bent K) (fdOf K (a__law_bent K)) ["box", "text"] spBent := by
  refine (T.d__law_bent).ok sc__law_bent (fun vs H Q E h => ?_) (fun cdv A outer s H vs Q E hr h => ?_)
  · obtain ⟨b, y, rfl, _⟩ := h
    rfl
  obtain ⟨b, y, rfl, hb, hy, cy, R⟩ := h
  refine ⟨_, (pss_cons (ps_set (i := 2) sc__law_bent.nd rfl (Or.inl rfl) pe_str)
    (pss_cons (ps_set (i := 3) sc__law_bent.nd rfl (Or.inl rfl) (pe_call (ok__law_take T G) (hr.mono (by decide)) rfl (Tx.g__law_take T) (Tx.d__law_take T).kp (Tx.b__law_take T) .nil passN0 (pa_cons (pv 0) (pa_cons pe_int pa_nil))))
    (pss_cons (ps_set (i := 4) sc__law_bent.nd rfl (Or.inl rfl) (pe_call (ok__law_take T G) (hr.mono (by decide)) rfl (Tx.g__law_take T) (Tx.d__law_take T).kp (Tx.b__law_take T) .nil passN0 (pa_cons (pv 0) (pa_cons (pe_op op_add (pe_callB call_len_str (by rfl) (Tx.f_len T) (by decide +kernel) (pa_cons (pv 1) pa_nil)) pe_int) pa_nil))))
    (pss_cons (ps_set (i := 5) sc__law_bent.nd rfl (Or.inl rfl) (pe_ix ix_str (pv 2) (pe_call (ok__law_take T G) (hr.mono (by decide)) rfl (Tx.g__law_take T) (Tx.d__law_take T).kp (Tx.b__law_take T) .nil passN0 (pa_cons (pv 0) (pa_cons (pe_callB call_len_str (by rfl) (Tx.f_len T) (by decide +kernel) (pa_cons (pv 2) pa_nil)) pa_nil))) (fun _ _ => rfl)))
    (pss_cons (ps_set (i := 6) sc__law_bent.nd rfl (Or.inl rfl) (pe_call (ok__law_take T G) (hr.mono (by decide)) rfl (Tx.g__law_take T) (Tx.d__law_take T).kp (Tx.b__law_take T) .nil passN0 (pa_cons (pv 0) (pa_cons pe_int pa_nil))))
    (pss_cons (ps_if (pt_cmpR op_lt (pv 3) pe_int (nomark _)) (pss_one (ps_ret (pe_op op_add_str (pe_op op_add_str (pe_slice sl_str (pv 1) po_none (po_some (pv 4))) (pv 5)) (pe_slice sl_str (pv 1) (po_some (pv 4)) po_none))))
    pss_nil)
    (pss_cons (ps_if (pt_cmpR op_eq (pv 3) pe_int (nomark _)) (pss_one (ps_ret (pe_op op_add_str (pe_slice sl_str (pv 1) po_none (po_some (pv 4))) (pe_slice sl_str (pv 1) (po_some (pe_op op_add (pv 4) pe_int)) po_none))))
    pss_nil)
    (pss_cons (ps_if (pt_cmpR op_eq (pv 3) pe_int (nomark _)) (pss_one (ps_ret (pe_op op_add_str (pe_op op_add_str (pe_slice sl_str (pv 1) po_none (po_some (pv 4))) (pv 5)) (pe_slice sl_str (pv 1) (po_some (pe_op op_add (pv 4) pe_int)) po_none))))
    pss_nil)
    (pss_cons (ps_if (pt_cmpR op_eq (pv 3) pe_int (nomark _)) (pss_one (ps_ret (pe_op op_add_str (pv 1) (pe_ix ix_list (pe_lst (pa_cons pe_str (pa_cons pe_str (pa_cons pe_str (pa_cons pe_str pa_nil))))) (pv 6) (fun _ _ => rfl)))))
    pss_nil)
    (pss_cons (ps_if (pt_cmpR op_eq (pv 3) pe_int (nomark _)) (pss_one (ps_ret (pe_op op_add_str (pe_ix ix_list (pe_lst (pa_cons pe_str (pa_cons pe_str (pa_cons pe_str (pa_cons pe_str pa_nil))))) (pv 6) (fun _ _ => rfl)) (pv 1))))
    pss_nil)
    (pss_one (ps_ret (pe_op op_add_str (pe_op op_add_str (pe_slice sl_str (pv 1) po_none (po_some (pv 4))) pe_str) (pe_slice sl_str (pv 1) (po_some (pv 4)) po_none)))))))))))))), ?_⟩
  refine ⟨_, rfl, b, _, rfl, hb, by decide, by decide, fun wy H1 k1 b1 w0 w1 => ?_⟩
  refine ⟨_, rfl, _, rfl, _, rfl, szT (by omega), _, _, rfl, rfl, b, _, rfl, b1, by omega, by omega, fun at0 H2 k2 b2 a0 a1 => ?_⟩
  refine ⟨_, rfl, _, rfl, _, rfl, _, rfl, szT (by decide +kernel), b, _, rfl, b2, by decide +kernel, by decide +kernel, fun r H3 k3 b3 r0 r1 => ?_⟩
  obtain ⟨c, ec, mc⟩ := atI_str r0 r1
  refine ⟨_, _, c, rfl, rfl, szT (by decide +kernel), ec, ?_⟩
  refine ⟨_, rfl, b, _, rfl, b3, by decide, by decide, fun en H4 k4 b4 e0 e1 => ?_⟩
  have k14 := ((k1.trans k2).trans k3).trans k4
  have cc : CP ⟨#[c]⟩ := cp_one cp_signs mc
  have lc : (⟨#[c]⟩ : Str).length = 1 := rfl
  have hz := szT (a := y.length) (by omega)
  have l1 := fun lo hi => cutS_le y lo hi
  have add : ∀ (u v : Str) (n m : Nat), u.length ≤ n → v.length ≤ m → n + m ≤ 1000000 → u.length + v.length ≤ sizeLine := fun u v n m h1 h2 h3 => szT (by omega)
  have three : ∀ (lo hi : Option Int) (m : Str), (cutS y none lo).length + (cutS y hi none).length ≤ y.length → CP m → m.length ≤ 2 → (cutS y none lo).length + m.length ≤ sizeLine ∧ (cutS y none lo ++ m).length + (cutS y hi none).length ≤ sizeLine ∧ (cutS y none lo ++ m ++ cutS y hi none).length ≤ y.length + 2 ∧ CP (cutS y none lo ++ m ++ cutS y hi none) := fun lo hi m h12 cm lm => by
    have a1 := l1 none lo
    have a2 := l1 hi none
    refine ⟨szT (by omega), szT (by rw [slen]; omega), by rw [slen, slen]; omega, ((cy.cut _ _).app cm).app (cy.cut _ _)⟩
  have c1 := cut_hi y a0
  have c2 := cut_lo y a0
  have c3 := cut_lo y (k := at0 + 1) (by omega)
  have s1 : (cutS y none (some at0)).length + (cutS y (some at0) none).length ≤ y.length := by omega
  have s2 : (cutS y none (some at0)).length + (cutS y (some (at0 + 1)) none).length ≤ y.length := by omega
  refine ⟨_, rfl, _, _, rfl, rfl, _, rfl, iD (fun _ => ?_) fun _ => nxt ⟨_, rfl, rfl, _, rfl, iI (fun _ => ?_) fun _ => nxt ⟨_, rfl, rfl, _, rfl, iI (fun _ => ?_) fun _ => nxt ⟨_, rfl, rfl, _, rfl, iI (fun _ => ?_) fun _ => nxt ⟨_, rfl, rfl, _, rfl, iI (fun _ => ?_) fun _ => nxt ?_⟩⟩⟩⟩⟩
  · obtain ⟨t1, t2, t3, t4⟩ := three (some at0) (some at0) ⟨#[c]⟩ s1 cc (by rw [lc]; decide)
    exact ⟨_, rfl, _, rfl, _, rfl, _, rfl, hz, _, rfl, _, _, rfl, rfl, t1, _, rfl, _, rfl, _, rfl, _, rfl, hz, _, _, rfl, rfl, t2, R _ _ k14 b4 t3 t4⟩
  · have a1 := l1 none (some at0)
    have a2 := l1 (some (at0 + 1)) none
    exact ⟨_, rfl, _, rfl, _, rfl, _, rfl, hz, _, rfl, _, rfl, _, _, rfl, rfl, _, rfl, _, rfl, hz, _, _, rfl, rfl, szT (by omega), R _ _ k14 b4 (by rw [slen]; omega) ((cy.cut _ _).app (cy.cut _ _))⟩
  · obtain ⟨t1, t2, t3, t4⟩ := three (some at0) (some (at0 + 1)) ⟨#[c]⟩ s2 cc (by rw [lc]; decide)
    exact ⟨_, rfl, _, rfl, _, rfl, _, rfl, hz, _, rfl, _, _, rfl, rfl, t1, _, rfl, _, rfl, _, _, rfl, rfl, _, rfl, _, rfl, hz, _, _, rfl, rfl, t2, R _ _ k14 b4 t3 t4⟩
  · have tl : TL5 2 [.str "/1", .str "\n", .str " ", .str "/0"] := .cons (by decide +kernel) (cp_lit (by decide +kernel)) (.cons (by decide +kernel) (cp_lit (by decide +kernel)) (.cons (by decide +kernel) (cp_lit (by decide +kernel)) (.cons (by decide +kernel) (cp_lit (by decide +kernel)) .nil)))
    obtain ⟨z, ez, lz, cz⟩ := tl.at_ e0 e1
    refine ⟨_, rfl, szn (by decide), fun l hl => ⟨_, rfl, _, _, _, _, rfl, rfl, SqL.of upd_same, ez, _, _, rfl, rfl, szT (by omega), ?_⟩⟩
    exact R _ _ (k14.trans ((Gr.refl _).upd hl).kp) (b4.gr ((Gr.refl _).upd hl)) (by rw [slen]; omega) (cy.app cz)
  · have tl : TL5 2 [.str "+", .str " ", .str "0", .str "-"] := .cons (by decide +kernel) (cp_lit (by decide +kernel)) (.cons (by decide +kernel) (cp_lit (by decide +kernel)) (.cons (by decide +kernel) (cp_lit (by decide +kernel)) (.cons (by decide +kernel) (cp_lit (by decide +kernel)) .nil)))
    obtain ⟨z, ez, lz, cz⟩ := tl.at_ e0 e1
    refine ⟨szn (by decide), fun l hl => ⟨_, rfl, _, _, _, _, rfl, rfl, SqL.of upd_same, ez, _, rfl, _, _, rfl, rfl, szT (by omega), ?_⟩⟩
    exact R _ _ (k14.trans ((Gr.refl _).upd hl).kp) (b4.gr ((Gr.refl _).upd hl)) (by rw [slen]; omega) (cz.app cy)
  · obtain ⟨t1, t2, t3, t4⟩ := three (some at0) (some at0) "0" s1 (cp_lit (by decide +kernel)) (by decide +kernel)
    exact ⟨_, rfl, _, rfl, _, rfl, _, rfl, hz, _, _, rfl, rfl, t1, _, rfl, _, rfl, _, rfl, _, rfl, hz, _, _, rfl, rfl, t2, R _ _ k14 b4 t3 t4⟩
end
end K00
namespace K00
open PySem PySem.Spec PyProof.Rows L2 L2.LX
open PySem.W (Frag)
theorem Kp.updN {b D : Addr} {H H1 : Hp} {o : HO} (k : Kp b H H1) (n : H D = none) : Kp b H (upd H1 D o) := fun a x hn e => by
  rw [upd_ne (ne_of_none e n)]
  exact k a x hn e
theorem Bx.ne {b D : Addr} {H : Hp} {o : HO} (h : Bx b H) (n : D ≠ b) : Bx b (upd H D o) := by
  obtain ⟨c0, c1, c2, c3, r, e, z⟩ := h
  exact ⟨c0, c1, c2, c3, r, by rw [upd_ne (Ne.symm n)]; exact e, z⟩
theorem Bx.some {b D : Addr} {H : Hp} (h : Bx b H) (n : H D = none) : D ≠ b := fun e => by
  obtain ⟨_, _, _, _, _, e1, _⟩ := h
  rw [e, e1] at n
  cases n
theorem join_ok {n : Nat} : ∀ ys : List Str, (∀ y ∈ ys, y.length ≤ n ∧ CP y) → (Str.join ("" : Str) ys).length ≤ n * ys.length ∧ CP (Str.join ("" : Str) ys)
  | [], _ => ⟨Nat.zero_le _, fun c hc => by cases hc⟩
  | [x], h => by
    have := h x List.mem_cons_self
    refine ⟨?_, this.2⟩
    show x.length ≤ n * 1
    omega
  | x :: z :: r, h => by
    have h1 := h x List.mem_cons_self
    have h2 := join_ok (z :: r) fun y hy => h y (List.mem_cons_of_mem _ hy)
    have e : Str.join ("" : Str) (x :: z :: r) = x ++ "" ++ Str.join ("" : Str) (z :: r) := rfl
    rw [e]
    refine ⟨?_, (h1.2.app (cp_lit (by decide +kernel))).app h2.2⟩
    rw [slen, slen]
    have l0 : ("" : Str).length = 0 := by decide +kernel
    have l1 : n * (x :: z :: r).length = n * (z :: r).length + n := Nat.mul_succ n _
    have := h2.1
    have := h1.1
    omega
section
variable {P : Program} {w : World} {K : Frag} {mg : Str → Option Value} {base : Heap}
def spLong : Sp := fun vs H Q _ => ∃ b : Addr, vs = [.ref b] ∧ Bx b H ∧ ∀ H' z, Kp b H H' → Bx b H' → z.length ≤ 400 → CP z → Q (.str z) H'
theorem its19 {r : Int} (h0 : 0 ≤ r) (h1 : r < 9) : (its (1 + r)).length ≤ 2 := its_len (by omega) (by omega) (by decide)
theorem sum_len {n : Nat} : ∀ ys : List Str, (∀ y ∈ ys, y.length ≤ n ∧ CP y) → (ys.map (·.length)).sum ≤ n * ys.length
  | [], _ => Nat.zero_le _
  | x :: r, h => by
    have h1 := h x List.mem_cons_self
    have h2 := sum_len r fun y hy => h y (List.mem_cons_of_mem _ hy)
    rw [List.map_cons, List.sum_cons, List.length_cons, Nat.mul_succ]
    have := h1.1
    omega
theorem ok__law_long (T : Tx K mg) (G : Pg P) : FnOk P w K mg base (L2N.CX P w) 2 (a__law_long K) (fdOf K (a__law_long K)) ["box"] spLong := by
  refine (T.d__law_long).ok sc__law_long (fun vs H Q E h => ?_) (fun cdv A outer s H vs Q E hr h => ?_)
  · obtain ⟨b, rfl, _⟩ := h
    rfl
  obtain ⟨b, rfl, hb, R⟩ := h
  refine ⟨_, (pss_cons (ps_set (i := 1) sc__law_long.nd rfl (Or.inl rfl) (pe_join pe_str (pe_lc (own := [("part", 2)]) (g := gName 2) (tt := tYes) rfl sc__law_long.nd (pi_range1 rfl (Tx.f_range T) (pa_cons pe_int pa_nil)) (blkOk_by (N := ["box", "digits", "part", "length", "minus", "cut", "text"]) (sc := defScope s__law_long) (by decide +kernel)) (fun _ _ _ _ _ => (pg_name (i := 2) sc__law_long.nd rfl (Or.inl rfl))) (fun _ _ _ _ _ => pts_nil) (fun _ _ _ _ _ => (pe_slice sl_str (pe_callTy call_str_int (by rfl) (Tx.f_str T) (by decide +kernel) (pa_cons (pe_op op_add (pe_op op_pow pe_int pe_int) (pe_call (ok__law_take T G) (hr.mono (by decide)) rfl (Tx.g__law_take T) (Tx.d__law_take T).kp (Tx.b__law_take T) .nil passN0 (pa_cons (pv 0) (pa_cons (pe_op op_pow pe_int pe_int) pa_nil)))) pa_nil)) (po_some pe_int) po_none)))))
    (pss_cons (ps_set (i := 3) sc__law_long.nd rfl (Or.inl rfl) (pe_op op_add pe_int (pe_call (ok__law_take T G) (hr.mono (by decide)) rfl (Tx.g__law_take T) (Tx.d__law_take T).kp (Tx.b__law_take T) .nil passN0 (pa_cons (pv 0) (pa_cons pe_int pa_nil)))))
    (pss_cons (ps_if (pt_cmpR op_eq (pe_call (ok__law_take T G) (hr.mono (by decide)) rfl (Tx.g__law_take T) (Tx.d__law_take T).kp (Tx.b__law_take T) .nil passN0 (pa_cons (pv 0) (pa_cons pe_int pa_nil))) pe_int (nomark _)) (pss_one (ps_set (i := 3) sc__law_long.nd rfl (Or.inl rfl) (pe_op op_add pe_int (pe_call (ok__law_take T G) (hr.mono (by decide)) rfl (Tx.g__law_take T) (Tx.d__law_take T).kp (Tx.b__law_take T) .nil passN0 (pa_cons (pv 0) (pa_cons pe_int pa_nil))))))
    pss_nil)
    (pss_cons (ps_set (i := 4) sc__law_long.nd rfl (Or.inl rfl) (pe_call (ok__law_take T G) (hr.mono (by decide)) rfl (Tx.g__law_take T) (Tx.d__law_take T).kp (Tx.b__law_take T) .nil passN0 (pa_cons (pv 0) (pa_cons pe_int pa_nil))))
    (pss_cons (ps_set (i := 3) sc__law_long.nd rfl (Or.inl rfl) (pe_op op_sub (pv 3) (pv 4)))
    (pss_cons (ps_set (i := 5) sc__law_long.nd rfl (Or.inl rfl) (pe_call (ok__law_take T G) (hr.mono (by decide)) rfl (Tx.g__law_take T) (Tx.d__law_take T).kp (Tx.b__law_take T) .nil passN0 (pa_cons (pv 0) (pa_cons (pe_op op_sub (pv 3) pe_int) pa_nil))))
    (pss_cons (ps_set (i := 6) sc__law_long.nd rfl (Or.inl rfl) (pe_op op_add_str (pe_callTy call_str_int (by rfl) (Tx.f_str T) (by decide +kernel) (pa_cons (pe_op op_add pe_int (pe_call (ok__law_take T G) (hr.mono (by decide)) rfl (Tx.g__law_take T) (Tx.d__law_take T).kp (Tx.b__law_take T) .nil passN0 (pa_cons (pv 0) (pa_cons pe_int pa_nil)))) pa_nil)) (pe_slice sl_str (pv 1) (po_some pe_int) (po_some (pv 3)))))
    (pss_cons (ps_if (PW.pt (pw_and (pt_cmpR op_gt (pv 5) pe_int (nomark _)) (pw_and1 (pt_cmpR op_gt (pe_call (ok__law_take T G) (hr.mono (by decide)) rfl (Tx.g__law_take T) (Tx.d__law_take T).kp (Tx.b__law_take T) .nil passN0 (pa_cons (pv 0) (pa_cons pe_int pa_nil))) pe_int (nomark _))))) (pss_one (ps_set (i := 6) sc__law_long.nd rfl (Or.inl rfl) (pe_op op_add_str (pe_op op_add_str (pe_op op_add_str (pe_slice sl_str (pv 6) po_none (po_some (pv 5))) pe_str) (pe_callTy call_str_int (by rfl) (Tx.f_str T) (by decide +kernel) (pa_cons (pe_op op_add pe_int (pe_call (ok__law_take T G) (hr.mono (by decide)) rfl (Tx.g__law_take T) (Tx.d__law_take T).kp (Tx.b__law_take T) .nil passN0 (pa_cons (pv 0) (pa_cons pe_int pa_nil)))) pa_nil))) (pe_slice sl_str (pv 6) (po_some (pe_op op_add (pv 5) pe_int)) po_none))))
    pss_nil)
    (pss_one (ps_ret (pe_op op_add_str (pe_op op_mulS pe_str (pv 4)) (pv 6)))))))))))), ?_⟩
  refine ⟨⟨_, rfl⟩, 12, rfl, by decide, by decide, fun D hD => lc_it walk_range (fun i H' => ∃ ys : List Str, ys.length = i ∧ H' D = some (.lst (ys.map V.str)) ∧ (∀ y ∈ ys, y.length ≤ 9 ∧ CP y) ∧ Kp b H H' ∧ Bx b H') ?_ ?_ ?_ ?_⟩
  · exact ⟨[], rfl, upd_same, (fun y hy => by cases hy), ((Gr.refl _).upd hD).kp, hb.gr ((Gr.refl _).upd hD)⟩
  · exact fun _ _ _ _ => trivial
  · rintro i x H1 H2 hi ⟨ys, h1, h2, h3, k1, b1⟩ ⟨rfl, rfl⟩
    have hDb := hb.some hD
    have i12 : i < 12 := hi
    refine ⟨rfl, _, _, rfl, rfl, ⟨by decide, by decide, by decide⟩, _, rfl, _, _, rfl, rfl, ⟨by decide, by decide, by decide⟩, b, _, rfl, b1, by decide, by decide, fun r H3 k3 b3 r0 r1 => ?_⟩
    have r2 : r < 100000000 := r1
    have hs : sm 1900 (10 ^ (8 : Nat) + r) := sm.mono (n := 64) (by unfold sm; omega) (by decide)
    have l9 : (its (10 ^ (8 : Nat) + r)).length ≤ 9 := its_len (by omega) (by omega) (by decide)
    refine ⟨_, _, rfl, rfl, _, rfl, Nat.lt_trans hs.log (by decide), _, rfl, _, rfl, szT (Nat.le_trans l9 (by decide)), ys.map V.str, k3 _ _ hDb h2, ?_, ys ++ [cutS (its (10 ^ (8 : Nat) + r)) (some 1) none], ?_, ?_, ?_, (k1.trans k3).updN hD, b3.ne hDb⟩
    · rw [List.length_map, sizeLine_eq]
      omega
    · rw [List.length_append, h1]
      rfl
    · rw [List.map_append]
      exact upd_same
    · intro y hy
      rcases List.mem_append.mp hy with h | h
      · exact h3 y h
      · rw [List.mem_singleton.mp h]
        exact ⟨Nat.le_trans (cutS_le _ _ _) l9, CP.cut (its_cps _) _ _⟩
  · rintro H1 ⟨ys, h1, h2, h3, k1, b1⟩
    have s1 := sum_len ys h3
    have j1 := join_ok ys h3
    rw [h1] at s1 j1
    have ej : Txt.join "" ys = Str.join ("" : Str) ys := TL.join_eq "" ys
    refine ⟨_, _, ys, rfl, rfl, .inl (SqL.of h2), ?_, ?_⟩
    · have l0 : ("" : Str).length = 0 := by decide +kernel
      rw [l0]
      omega
    rw [ej]
    generalize Str.join ("" : Str) ys = dg at j1 ⊢
    obtain ⟨dl, dc⟩ := j1
    refine ⟨_, rfl, b, _, rfl, b1, by decide, by decide, fun r1 H2 k2 b2 x0 x1 => ⟨_, _, rfl, rfl, ?_⟩⟩
    dsimp only [gName]
    refine seqP (fun σ' H' => ∃ ln : Int, σ' = ([some (.ref b), some (.str dg), none, some (.int ln), none, none, none] : List (Option V)) ∧ Kp b H H' ∧ Bx b H' ∧ 84 ≤ ln ∧ ln ≤ 95) (fun kk => ?_) ?_
    · refine ⟨_, rfl, b, _, rfl, b2, by decide, by decide, fun r2 H3 k3 b3 _ _ => ⟨rfl, _, rfl, iI (fun _ => ?_) fun _ => nxt (kk _ _ ⟨90 + r1, rfl, (k1.trans k2).trans k3, b3, by omega, by omega⟩)⟩⟩
      refine ⟨_, rfl, b, _, rfl, b3, by decide, by decide, fun r3 H4 k4 b4 y0 y1 => ⟨_, _, rfl, rfl, ?_⟩⟩
      exact kk _ _ ⟨84 + r3, rfl, ((k1.trans k2).trans k3).trans k4, b4, by omega, by omega⟩
    rintro _ H3 ⟨ln, rfl, k3, b3, n0, n1⟩
    refine ⟨_, rfl, b, _, rfl, b3, by decide, by decide, fun mi H4 k4 b4 m0 m1 => ?_⟩
    refine ⟨_, rfl, _, rfl, _, _, rfl, rfl, ?_⟩
    refine ⟨_, rfl, _, rfl, _, _, rfl, rfl, b, _, rfl, b4, (by show 0 < ln - mi - 1; omega), (by show ln - mi - 1 < 1073741824; omega), fun cu H5 k5 b5 c0 c1 => ?_⟩
    refine ⟨_, rfl, b, _, rfl, b5, by decide, by decide, fun r6 H6 k6 b6 y0 y1 => ?_⟩
    have l6 := its19 y0 y1
    have hs6 : sm 1900 (1 + r6) := sm.mono (n := 64) (by unfold sm; omega) (by decide)
    have ld := cutS_le dg (some 1) (some (ln - mi))
    refine ⟨_, _, rfl, rfl, _, rfl, Nat.lt_trans hs6.log (by decide), _, rfl, _, rfl, _, rfl, _, rfl, _, rfl, szT (by omega), _, _, rfl, rfl, szT (Nat.le_trans (Nat.add_le_add l6 ld) (by omega)), ?_⟩
    have k36 := ((k3.trans k4).trans k5).trans k6
    dsimp only [gName]
    refine seqP (fun σ' H' => ∃ tx : Str, σ' = ([some (.ref b), some (.str dg), none, some (.int (ln - mi)), some (.int mi), some (.int cu), some (.str tx)] : List (Option V)) ∧ Kp b H H' ∧ Bx b H' ∧ tx.length ≤ 300 ∧ CP tx) (fun kk => ?_) ?_
    · have lt : (its (1 + r6) ++ cutS dg (some 1) (some (ln - mi))).length ≤ 120 := by rw [slen]; omega
      have ct : CP (its (1 + r6) ++ cutS dg (some 1) (some (ln - mi))) := CP.app (its_cps _) (dc.cut _ _)
      have no := fun (H' : Hp) (k' : Kp b H H') (b' : Bx b H') => kk ([some (.ref b), some (.str dg), none, some (.int (ln - mi)), some (.int mi), some (.int cu), some (.str (its (1 + r6) ++ cutS dg (some 1) (some (ln - mi))))] : List (Option V)) H' ⟨_, rfl, k', b', by omega, ct⟩
      refine ⟨_, rfl, _, _, rfl, rfl, _, rfl, iD (fun _ => ?_) fun _ => iF rfl (nxt (no H6 k36 b6))⟩
      refine ⟨_, rfl, b, _, rfl, b6, by decide, by decide, fun r7 H7 k7 b7 _ _ => ⟨_, _, rfl, rfl, _, rfl, iD (fun _ => ?_) fun _ => nxt (no H7 (k36.trans k7) b7)⟩⟩
      have q1 := cutS_le (its (1 + r6) ++ cutS dg (some 1) (some (ln - mi))) none (some cu)
      have q2 := cutS_le (its (1 + r6) ++ cutS dg (some 1) (some (ln - mi))) (some (cu + 2)) none
      have ls : ("/" : Str).length = 1 := by decide +kernel
      have q3 : (cutS (its (1 + r6) ++ cutS dg (some 1) (some (ln - mi))) none (some cu) ++ ("/" : Str)).length ≤ 121 := by rw [slen]; omega
      refine ⟨_, rfl, _, rfl, _, rfl, _, rfl, szT (Nat.le_trans lt (by decide)), _, _, rfl, rfl, szT (Nat.le_trans (Nat.add_le_add (Nat.le_trans q1 lt) (Nat.le_of_eq ls)) (by decide)), _, rfl, b, _, rfl, b7, by decide, by decide, fun r8 H8 k8 b8 z0 z1 => ?_⟩
      have l8 := its19 z0 z1
      have hs8 : sm 1900 (1 + r8) := sm.mono (n := 64) (by unfold sm; omega) (by decide)
      refine ⟨_, _, rfl, rfl, _, rfl, Nat.lt_trans hs8.log (by decide), _, _, rfl, rfl, szT (Nat.le_trans (Nat.add_le_add q3 l8) (by decide)), ?_⟩
      have q4 : (cutS (its (1 + r6) ++ cutS dg (some 1) (some (ln - mi))) none (some cu) ++ ("/" : Str) ++ its (1 + r8)).length ≤ 123 := by rw [slen]; omega
      refine ⟨_, rfl, _, rfl, _, _, rfl, rfl, _, rfl, _, rfl, szT (Nat.le_trans lt (by decide)), _, _, rfl, rfl, szT (Nat.le_trans (Nat.add_le_add q4 (Nat.le_trans q2 lt)) (by decide)), ?_⟩
      refine kk _ _ ⟨_, rfl, (k36.trans k7).trans k8, b8, ?_, ?_⟩
      · rw [slen]
        exact Nat.le_trans (Nat.add_le_add q4 (Nat.le_trans q2 lt)) (by decide)
      · exact (((ct.cut _ _).app (cp_lit (by decide +kernel))).app (its_cps _)).app (ct.cut _ _)
    · rintro _ H7 ⟨tx, rfl, k7, b7, tl, tc⟩
      have lm : ("-" : Str).length = 1 := by decide +kernel
      refine ⟨_, rfl, _, _, rfl, rfl, m0, by omega, by rw [lm]; omega, fun r hr hc => ?_⟩
      rw [lm] at hr
      refine ⟨_, rfl, _, _, rfl, rfl, szT (by omega), ?_⟩
      exact R _ _ k7 b7 (by rw [slen]; omega) (CP.app (fun c h => cp_lit (s := "-") (by decide +kernel) c (hc c h)) tc)
end
end K00
namespace K00
open PySem PySem.Spec PyProof.Rows L2 L2.LX
open PySem.W (Frag)
theorem Kp.none {b p : Addr} {H H' : Hp} (k : Kp b H H') (hp : p ≠ b) (n : H' p = none) : H p = none := by
  cases e : H p with
  | none => rfl
  | some o =>
    have := k p o hp e
    rw [n] at this
    cases this
theorem TL5.of_all {n : Nat} {l : List Str} (h : (l.all fun s => decide (s.length ≤ n) && s.cps.toList.all fun c => decide (c < 4294967296)) = true) : TL5 n (l.map V.str) := ⟨fun v hv => by
  obtain ⟨s, hs, rfl⟩ := List.mem_map.mp hv
  have := List.all_eq_true.mp h s hs
  rw [Bool.and_eq_true] at this
  refine ⟨s, rfl, of_decide_eq_true this.1, fun c hc => ?_⟩
  have e : (16 : Nat) ^ 8 = 4294967296 := rfl
  rw [e]
  exact of_decide_eq_true (List.all_eq_true.mp this.2 c hc)⟩
theorem TL5.snoc {n : Nat} {xs : List V} {z : Str} (t : TL5 n xs) (h : z.length ≤ n) (h' : CP z) : TL5 n (xs ++ [.str z]) := t.app (.cons h h' .nil)
section
variable {P : Program} {w : World} {K : Frag} {mg : Str → Option Value} {base : Heap}
def spTexts : Sp := fun vs H Q _ => ∃ (b dl : Addr) (ts : List Addr) (ps : List (Int × Int)), vs = [.ref b, .ref dl] ∧ Bx b H ∧ Dues b dl H ts ps ∧ dl ≠ b ∧ 0 < ps.length ∧ ps.length ≤ 5 ∧ (∀ p ∈ ps, sm 133 p.1 ∧ sm 133 p.2) ∧
  ∀ l xs H', Kp b H H' → Bx b H' → H' l = some (.lst xs) → TL5 5000 xs → Q (.ref l) H'
theorem ok__law_texts (T : Tx K mg) (G : Pg P) : FnOk P w K mg base (L2N.CX P w) 3 (a__law_texts K) (fdOf K (a__law_texts K)) ["box", "dues"] spTexts := by
  refine (T.d__law_texts).ok sc__law_texts (fun vs H Q E h => ?_) (fun cdv A outer s H vs Q E hr h => ?_)
  · obtain ⟨b, dl, ts, ps, rfl, _⟩ := h
    rfl
  obtain ⟨b, dl, ts, ps, rfl, hb, hd, hdb, hp0, hp5, hps, R⟩ := h
  refine ⟨_, (pss_cons (ps_set (i := 2) sc__law_texts.nd rfl (Or.inl rfl) (pe_op op_cat (pe_lc (own := [("due", 3)]) (g := gName 3) (tt := tYes) rfl sc__law_texts.nd (pi_list (pv 1)) (blkOk_by (N := ["box", "dues", "texts", "due", "plain", "k", "text", "turn", "factor", "odd", "digit"]) (sc := defScope s__law_texts) (by decide +kernel)) (fun _ _ _ _ _ => (pg_name (i := 3) sc__law_texts.nd rfl (Or.inl rfl))) (fun _ _ _ _ _ => pts_nil) (fun _ _ _ _ _ => (pe_call (ok__law_text T G) (hr.mono (by decide)) rfl (Tx.g__law_text T) (Tx.d__law_text T).kp (Tx.b__law_text T) .nil passN0 (pa_cons (pv 3) pa_nil)))) (pe_lst (pa_cons (pe_call (ok__law_long T G) (hr.mono (by decide)) rfl (Tx.g__law_long T) (Tx.d__law_long T).kp (Tx.b__law_long T) .nil passN0 (pa_cons (pv 0) pa_nil)) pa_nil))))
    (pss_cons (ps_set (i := 4) sc__law_texts.nd rfl (Or.inl rfl) (pe_callB call_len_seq (by rfl) (Tx.f_len T) (by decide +kernel) (pa_cons (pv 2) pa_nil)))
    (pss_cons (ps_for (passes_of rfl) rfl (pi_range1 rfl (Tx.f_range T) (pa_cons (pe_op op_add pe_int (pe_call (ok__law_take T G) (hr.mono (by decide)) rfl (Tx.g__law_take T) (Tx.d__law_take T).kp (Tx.b__law_take T) .nil passN0 (pa_cons (pv 0) (pa_cons pe_int pa_nil)))) pa_nil)) (pg_name (i := 5) sc__law_texts.nd rfl (Or.inl rfl))
    (pss_cons (ps_set (i := 6) sc__law_texts.nd rfl (Or.inl rfl) (pe_ix ix_list (pv 2) (pe_call (ok__law_take T G) (hr.mono (by decide)) rfl (Tx.g__law_take T) (Tx.d__law_take T).kp (Tx.b__law_take T) .nil passN0 (pa_cons (pv 0) (pa_cons (pv 4) pa_nil))) (fun _ _ => rfl)))
    (pss_cons (ps_for (passes_of rfl) rfl (pi_range1 rfl (Tx.f_range T) (pa_cons (pe_op op_add pe_int (pe_call (ok__law_take T G) (hr.mono (by decide)) rfl (Tx.g__law_take T) (Tx.d__law_take T).kp (Tx.b__law_take T) .nil passN0 (pa_cons (pv 0) (pa_cons pe_int pa_nil)))) pa_nil)) (pg_name (i := 7) sc__law_texts.nd rfl (Or.inl rfl))
    (pss_one (ps_set (i := 6) sc__law_texts.nd rfl (Or.inl rfl) (pe_call (ok__law_bent T G) (hr.mono (by decide)) rfl (Tx.g__law_bent T) (Tx.d__law_bent T).kp (Tx.b__law_bent T) .nil passN0 (pa_cons (pv 0) (pa_cons (pv 6) pa_nil))))))
    (pss_one (ps_expr (pe_bm PySem.F.plainAttrs_list PySem.F.slot_list_append PySem.F.type_list_append mt_append (pv 2) (pa_cons (pv 6) pa_nil)))))))
    (pss_cons (ps_set (i := 3) sc__law_texts.nd rfl (Or.inl rfl) (pe_ix ix_list (pv 1) (pe_call (ok__law_take T G) (hr.mono (by decide)) rfl (Tx.g__law_take T) (Tx.d__law_take T).kp (Tx.b__law_take T) .nil passN0 (pa_cons (pv 0) (pa_cons (pe_callB call_len_seq (by rfl) (Tx.f_len T) (by decide +kernel) (pa_cons (pv 1) pa_nil)) pa_nil))) (fun _ _ => rfl)))
    (pss_cons (ps_set (i := 8) sc__law_texts.nd rfl (Or.inl rfl) (pe_op op_add pe_int (pe_call (ok__law_take T G) (hr.mono (by decide)) rfl (Tx.g__law_take T) (Tx.d__law_take T).kp (Tx.b__law_take T) .nil passN0 (pa_cons (pv 0) (pa_cons pe_int pa_nil)))))
    (pss_cons (ps_expr (pe_bm PySem.F.plainAttrs_list PySem.F.slot_list_append PySem.F.type_list_append mt_append (pv 2) (pa_cons (pe_op op_add_str (pe_op op_add_str (pe_callTy call_str_int (by rfl) (Tx.f_str T) (by decide +kernel) (pa_cons (pe_op op_mul (pe_ix ix_tup (pv 3) pe_int (fun _ _ => rfl)) (pv 8)) pa_nil)) pe_str) (pe_callTy call_str_int (by rfl) (Tx.f_str T) (by decide +kernel) (pa_cons (pe_op op_mul (pe_ix ix_tup (pv 3) pe_int (fun _ _ => rfl)) (pv 8)) pa_nil))) pa_nil)))
    (pss_cons (ps_set (i := 9) sc__law_texts.nd rfl (Or.inl rfl) (pe_lst (pa_cons pe_str (pa_cons pe_str (pa_cons pe_str (pa_cons pe_str (pa_cons pe_str (pa_cons pe_str (pa_cons pe_str (pa_cons pe_str (pa_cons pe_str (pa_cons pe_str (pa_cons pe_str (pa_cons pe_str (pa_cons pe_str (pa_cons pe_str (pa_cons pe_str (pa_cons pe_str pa_nil))))))))))))))))))
    (pss_cons (ps_set (i := 9) sc__law_texts.nd rfl (Or.inl rfl) (pe_op op_cat (pv 9) (pe_lst (pa_cons pe_str (pa_cons pe_str (pa_cons pe_str (pa_cons pe_str (pa_cons pe_str (pa_cons pe_str (pa_cons pe_str (pa_cons pe_str (pa_cons pe_str (pa_cons pe_str pa_nil)))))))))))))
    (pss_cons (ps_expr (pe_bm PySem.F.plainAttrs_list PySem.F.slot_list_append PySem.F.type_list_append mt_append (pv 2) (pa_cons (pe_ix ix_list (pv 9) (pe_call (ok__law_take T G) (hr.mono (by decide)) rfl (Tx.g__law_take T) (Tx.d__law_take T).kp (Tx.b__law_take T) .nil passN0 (pa_cons (pv 0) (pa_cons (pe_callB call_len_seq (by rfl) (Tx.f_len T) (by decide +kernel) (pa_cons (pv 9) pa_nil)) pa_nil))) (fun _ _ => rfl)) pa_nil)))
    (pss_cons (ps_set (i := 10) sc__law_texts.nd rfl (Or.inl rfl) (pe_callTy call_str_int (by rfl) (Tx.f_str T) (by decide +kernel) (pa_cons (pe_op op_add pe_int (pe_call (ok__law_take T G) (hr.mono (by decide)) rfl (Tx.g__law_take T) (Tx.d__law_take T).kp (Tx.b__law_take T) .nil passN0 (pa_cons (pv 0) (pa_cons pe_int pa_nil)))) pa_nil)))
    (pss_cons (ps_expr (pe_bm PySem.F.plainAttrs_list PySem.F.slot_list_append PySem.F.type_list_append mt_append (pv 2) (pa_cons (pe_ix ix_list (pe_lst (pa_cons (pe_op op_mulS (pv 10) pe_int) (pa_cons (pe_op op_add_str pe_str (pe_op op_mulS (pv 10) pe_int)) (pa_cons (pe_op op_mulS (pv 10) pe_int) (pa_cons (pe_op op_mulS (pv 10) pe_int) (pa_cons (pe_op op_add_str pe_str (pe_op op_mulS (pv 10) pe_int)) pa_nil)))))) (pe_call (ok__law_take T G) (hr.mono (by decide)) rfl (Tx.g__law_take T) (Tx.d__law_take T).kp (Tx.b__law_take T) .nil passN0 (pa_cons (pv 0) (pa_cons pe_int pa_nil))) (fun _ _ => rfl)) pa_nil)))
    (pss_one (ps_ret (pv 2)))))))))))))), ?_⟩
  have tlen : (ts.map V.ref).length = ps.length := by rw [List.length_map, hd.len]
  refine ⟨_, rfl, dl, rfl, ⟨_, SqL.of hd.at_⟩, fun D hD => lc_list (xs := ts.map V.ref) (fun i H' => ∃ xs : List V, xs.length = i ∧ H' D = some (.lst xs) ∧ TL5 4000 xs ∧ Kp b H H' ∧ Bx b H') ?_ ?_ ?_ ?_⟩
  · exact ⟨[], rfl, upd_same, .nil, (Kp.refl b H).updN hD, hb.ne (hb.some hD)⟩
  · rintro i H1 _ ⟨xs, h1, h2, h3, k1, b1⟩
    exact SqL.of (k1 _ _ hdb hd.at_)
  · rintro i x H1 hx ⟨xs, h1, h2, h3, k1, b1⟩
    rw [List.getElem?_map] at hx
    obtain ⟨t, ht, rfl⟩ := Option.map_eq_some_iff.mp hx
    have hi : i < ts.length := (List.getElem?_eq_some_iff.mp ht).1
    have hi2 : i < ps.length := by rw [← hd.len]; exact hi
    have e2 := List.getElem?_eq_getElem hi2
    have hp := hps _ (List.getElem_mem hi2)
    have d1 := (hd.kp k1 hb hdb).each i t _ ht e2
    have sn : sm 1900 ps[i].1 := hp.1.mono (by decide)
    have sd : sm 1900 ps[i].2 := hp.2.mono (by decide)
    have tk := txt_ok sn sd
    have tl : (txt ps[i].1 ps[i].2).length ≤ 4000 := by
      have l1 := len_its sn
      have l2 := len_its sd
      unfold txt
      split
      · omega
      · have ls : ("/" : Str).length = 1 := by decide +kernel
        rw [slen, slen]
        omega
    refine ⟨rfl, _, rfl, t, _, _, rfl, d1.1, sn, sd, xs, h2, ?_, xs ++ [_], ?_, upd_same, h3.snoc tl tk.cps, k1.updN hD, b1.ne (hb.some hD)⟩
    · rw [sizeLine_eq]
      omega
    · rw [List.length_append, h1]
      rfl
  · rintro H1 ⟨xs, h1, h2, h3, k1, b1⟩
    rw [List.length_map] at h1
    refine ⟨_, rfl, b, rfl, b1, fun H2 z k2 b2 lz cz => ⟨szn (by show 1 ≤ 1000; decide), fun l2 hl2 => ?_⟩⟩
    have hDb := hb.some hD
    have g3 := (Gr.refl H2).upd (o := .lst [.str z]) hl2
    refine ⟨D, l2, xs, [.str z], rfl, rfl, g3 _ _ (k2 _ _ hDb h2), upd_same, szn (by show xs.length + 1 ≤ 1000; rw [hd.len] at h1; omega), fun p hp => ?_⟩
    have g4 := g3.trans ((Gr.refl _).upd (o := .lst (xs ++ [.str z])) hp)
    have k4 := (k1.trans k2).trans g4.kp
    have b4 := b2.gr g4
    have hpb := (b2.gr g3).some hp
    have hpn : H p = none := ((k1.trans k2).trans g3.kp).none hpb hp
    have n0 : (xs ++ [V.str z]).length = ps.length + 1 := by
      rw [List.length_append, h1, hd.len]
      rfl
    have h5 : TL5 4000 (xs ++ [.str z]) := h3.snoc (by omega) cz
    have e4 : upd (upd H2 l2 (.lst [.str z])) p (.lst (xs ++ [.str z])) p = some (.lst (xs ++ [.str z])) := upd_same
    generalize upd (upd H2 l2 (.lst [.str z])) p (.lst (xs ++ [.str z])) = H4 at k4 b4 e4 ⊢
    generalize xs ++ [V.str z] = xs0 at n0 h5 e4 ⊢
    refine ⟨_, rfl, p, _, rfl, .inl (SqL.of e4), ?_⟩
    refine ⟨_, rfl, b, _, rfl, b4, by decide, by decide, fun r1 H5 k5 b5 r0 r1' => ⟨_, _, rfl, rfl, 2 + r1, rfl, by omega, by omega, ?_⟩⟩
    have k05 := k4.trans k5
    refine for_range (n := (2 + r1).toNat) (fun i σ' H' => ∃ (xs : List V) (s5 s6 s7 : Option V), σ' = ([some (.ref b), some (.ref dl), some (.ref p), none, some (.int (xs0.length : Int)), s5, s6, s7, none, none, none] : List (Option V)) ∧ H' p = some (.lst xs) ∧ xs0.length ≤ xs.length ∧ xs.length ≤ xs0.length + i ∧ TL5 (4000 + 4 * i) xs ∧ Kp b H H' ∧ Bx b H') ?_ ?_ ?_
    · exact ⟨xs0, none, none, none, rfl, k5 _ _ hpb e4, Nat.le_refl _, Nat.le_refl _, h5.mono (by omega), k05, b5⟩
    · rintro i _ H6 hi ⟨xs, s5, s6, s7, rfl, hx, hx1, hx2, htl, k6, b6⟩
      have hi5 : i < 5 := by omega
      refine ⟨_, rfl, _, rfl, _, rfl, b, _, rfl, b6, by omega, by omega, fun r H7 k7 b7 y0 y1 => ?_⟩
      obtain ⟨y, ey, ly, cy⟩ := htl.at_ (r := r) y0 (by omega)
      refine ⟨_, _, _, _, rfl, rfl, SqL.of (k7 _ _ hpb hx), ey, ?_⟩
      refine ⟨_, rfl, b, _, rfl, b7, by decide, by decide, fun r2 H8 k8 b8 z0 z1 => ⟨_, _, rfl, rfl, 1 + r2, rfl, by omega, by omega, ?_⟩⟩
      have k08 := (k6.trans k7).trans k8
      have x8 := k8 _ _ hpb (k7 _ _ hpb hx)
      refine for_range (n := (1 + r2).toNat) (fun j σ' H' => ∃ (y : Str) (s7 : Option V), σ' = ([some (.ref b), some (.ref dl), some (.ref p), none, some (.int (xs0.length : Int)), some (.int (0 + (i : Int))), some (.str y), s7, none, none, none] : List (Option V)) ∧ H' p = some (.lst xs) ∧ y.length ≤ 4000 + 4 * i + 2 * j ∧ CP y ∧ Kp b H H' ∧ Bx b H') ?_ ?_ ?_
      · exact ⟨y, s7, rfl, x8, by omega, cy, k08, b8⟩
      · rintro j _ H9 hj ⟨y, s7, rfl, x9, ly, cy, k9, b9⟩
        refine ⟨_, rfl, _, rfl, b, y, rfl, b9, by omega, cy, fun H10 z' k10 b10 lz' cz' => ?_⟩
        exact ⟨z', _, rfl, k10 _ _ hpb x9, by omega, cz', k9.trans k10, b10⟩
      · rintro _ H9 ⟨y, s7, rfl, x9, ly, cy, k9, b9⟩
        refine ⟨_, rfl, .inl ⟨rfl, _, SqL.of x9⟩, _, rfl, p, _, _, rfl, rfl, x9, ?_, ?_⟩
        · rw [sizeLine_eq]
          omega
        refine ⟨xs ++ [.str y], _, _, _, rfl, upd_same, ?_, ?_, (htl.mono (by omega)).snoc (by omega) cy, k9.updN hpn, b9.ne hpb⟩
        · rw [List.length_append]
          omega
        · rw [List.length_append]
          show xs.length + 1 ≤ _
          omega
    · rintro _ H6 ⟨xs, s5, s6, s7, rfl, hx, hx1, hx2, htl, k6, b6⟩
      have hx3 : xs.length ≤ 20 := by omega
      have d6 := hd.kp k6 hb hdb
      have ht5 : TL5 5000 xs := htl.mono (by omega)
      refine ⟨_, rfl, _, rfl, _, rfl, dl, _, rfl, .inl (SqL.of d6.at_), b, _, rfl, b6, by rw [tlen]; omega, by rw [tlen]; omega, fun r H7 k7 b7 y0 y1 => ?_⟩
      rw [tlen, ← hd.len] at y1
      have d7 := d6.kp k7 b6 hdb
      obtain ⟨i, t, ⟨n, d⟩, hi, ea, e1, e2, ht, hpos⟩ := d7.get y0 y1
      have hsm := hps _ (List.mem_of_getElem? e2)
      refine ⟨_, _, _, _, rfl, rfl, SqL.of d7.at_, ea, ?_⟩
      refine ⟨_, rfl, b, _, rfl, b7, by decide, by decide, fun f H8 k8 b8 f0 f1 => ⟨_, _, rfl, rfl, ?_⟩⟩
      have t8 := k8.ta b7 ht
      have x8 := k8 _ _ hpb (k7 _ _ hpb hx)
      have k08 := (k6.trans k7).trans k8
      have hf : sm 4 (2 + f) := by unfold sm; omega
      have s1 : sm 1900 (n * (2 + f)) := (hsm.1.mul hf).mono (by decide)
      have s2 : sm 1900 (d * (2 + f)) := (hsm.2.mul hf).mono (by decide)
      have cm : ∀ x, CMul x (2 + f) := fun x => .inr (by omega)
      have l1 := len_its s1
      have l2 := len_its s2
      have ls : ("/" : Str).length = 1 := by decide +kernel
      have lq : (its (n * (2 + f)) ++ ("/" : Str)).length ≤ 1922 := by rw [slen]; omega
      refine ⟨_, rfl, .inl ⟨rfl, _, SqL.of x8⟩, _, rfl, _, _, _, _, rfl, rfl, SqT.of t8, ix0, _, rfl, _, _, rfl, rfl, cm _, _, rfl, Nat.lt_trans s1.log (by decide), _, _, rfl, rfl, szT (Nat.le_trans (Nat.add_le_add l1 (Nat.le_of_eq ls)) (by decide)), ?_⟩
      refine ⟨_, rfl, _, _, _, _, rfl, rfl, SqT.of t8, ix1, _, rfl, _, _, rfl, rfl, cm _, _, rfl, Nat.lt_trans s2.log (by decide), _, _, rfl, rfl, szT (Nat.le_trans (Nat.add_le_add lq l2) (by decide)), p, _, _, rfl, rfl, x8, szT (by omega), ?_⟩
      have t9 : TL5 5000 (xs ++ [.str (its (n * (2 + f)) ++ ("/" : Str) ++ its (d * (2 + f)))]) := ht5.snoc (by rw [slen]; omega) (((show CP _ from its_cps _).app (cp_lit (by decide +kernel))).app (its_cps _))
      have k9 : Kp b H (upd H8 p (.lst (xs ++ [.str (its (n * (2 + f)) ++ ("/" : Str) ++ its (d * (2 + f)))]))) := k08.updN hpn
      have b9 : Bx b (upd H8 p (.lst (xs ++ [.str (its (n * (2 + f)) ++ ("/" : Str) ++ its (d * (2 + f)))]))) := b8.ne hpb
      have x9 : (upd H8 p (.lst (xs ++ [.str (its (n * (2 + f)) ++ ("/" : Str) ++ its (d * (2 + f)))]))) p = _ := upd_same
      have n9 : (xs ++ [V.str (its (n * (2 + f)) ++ ("/" : Str) ++ its (d * (2 + f)))]).length ≤ 21 := by
        rw [List.length_append]
        show xs.length + 1 ≤ 21
        omega
      dsimp only
      show tSeq _ _ _ _ (upd H8 p (.lst (xs ++ [V.str (its (n * (2 + f)) ++ ("/" : Str) ++ its (d * (2 + f)))])))
      generalize upd H8 p (.lst (xs ++ [V.str (its (n * (2 + f)) ++ ("/" : Str) ++ its (d * (2 + f)))])) = H9 at k9 b9 x9 ⊢
      generalize xs ++ [V.str (its (n * (2 + f)) ++ ("/" : Str) ++ its (d * (2 + f)))] = xs1 at t9 x9 n9
      have o1 : TL5 5000 (([ "", "-", "/", "-0", "0/1", "0/5", "1/0", "1/1", "3/1", "--1", "1/-2", "-1/-2", "1//2", "/2", "2/", "007"] : List Str).map V.str) := .of_all (by decide +kernel)
      have o2 : TL5 5000 ((["1/2/3", "1 /2", "+1", "0", "-7", "-3/4", "1/02", "-0/3", "1_0", "2/4"] : List Str).map V.str) := .of_all (by decide +kernel)
      refine ⟨szn (by show 16 ≤ 1000; decide), fun l hl => ?_⟩
      have ga := (Gr.refl H9).upd (o := .lst (([ "", "-", "/", "-0", "0/1", "0/5", "1/0", "1/1", "3/1", "--1", "1/-2", "-1/-2", "1//2", "/2", "2/", "007"] : List Str).map V.str)) hl
      refine ⟨_, rfl, szn (by show 10 ≤ 1000; decide), fun l2 hl2 => ?_⟩
      have gb := ga.trans ((Gr.refl _).upd (o := .lst ((["1/2/3", "1 /2", "+1", "0", "-7", "-3/4", "1/02", "-0/3", "1_0", "2/4"] : List Str).map V.str)) hl2)
      refine ⟨l, l2, _, _, rfl, rfl, by rw [upd_ne (ne_of_none upd_same hl2)]; exact upd_same, upd_same, szn (by show 16 + 10 ≤ 1000; decide), fun p2 hp2 => ?_⟩
      have o3 := o1.app o2
      have n3 : ((([ "", "-", "/", "-0", "0/1", "0/5", "1/0", "1/1", "3/1", "--1", "1/-2", "-1/-2", "1//2", "/2", "2/", "007"] : List Str).map V.str) ++ ((["1/2/3", "1 /2", "+1", "0", "-7", "-3/4", "1/02", "-0/3", "1_0", "2/4"] : List Str).map V.str)).length = 26 := rfl
      have hp2b := (b9.gr gb).some hp2
      have gc := gb.trans ((Gr.refl _).upd (o := .lst ((([ "", "-", "/", "-0", "0/1", "0/5", "1/0", "1/1", "3/1", "--1", "1/-2", "-1/-2", "1//2", "/2", "2/", "007"] : List Str).map V.str) ++ ((["1/2/3", "1 /2", "+1", "0", "-7", "-3/4", "1/02", "-0/3", "1_0", "2/4"] : List Str).map V.str))) hp2)
      refine ⟨_, rfl, .inl ⟨rfl, _, SqL.of (gc _ _ x9)⟩, _, rfl, _, rfl, _, rfl, _, _, rfl, .inl (SqL.of upd_same), b, _, rfl, b9.gr gc, (show (0 : Int) < ((26 : Nat) : Int) by decide), (show ((26 : Nat) : Int) < 1073741824 by decide), fun ro Hd kd bd q0 q1 => ?_⟩
      obtain ⟨zo, eo, lo, co⟩ := o3.at_ q0 q1
      refine ⟨_, _, _, _, rfl, rfl, SqL.of (kd _ _ hp2b upd_same), eo, p, _, _, rfl, rfl, kd _ _ hpb (gc _ _ x9), szT (by omega), ?_⟩
      have t10 := t9.snoc lo co
      have k10 : Kp b H (upd Hd p (.lst (xs1 ++ [.str zo]))) := ((k9.trans gc.kp).trans kd).updN hpn
      have b10 : Bx b (upd Hd p (.lst (xs1 ++ [.str zo]))) := bd.ne hpb
      have x10 : upd Hd p (.lst (xs1 ++ [.str zo])) p = some (.lst (xs1 ++ [.str zo])) := upd_same
      have n10 : (xs1 ++ [V.str zo]).length ≤ 22 := by
        rw [List.length_append]
        show xs1.length + 1 ≤ 22
        omega
      dsimp only
      show tSeq _ _ _ _ (upd Hd p (.lst (xs1 ++ [.str zo])))
      generalize upd Hd p (.lst (xs1 ++ [.str zo])) = He at k10 b10 x10 ⊢
      generalize xs1 ++ [V.str zo] = xs2 at t10 x10 n10
      refine ⟨_, rfl, b, _, rfl, b10, by decide, by decide, fun r9 Hf kf bf z0 z1 => ?_⟩
      have hs9 : sm 1900 (1 + r9) := sm.mono (n := 64) (by unfold sm; omega) (by decide)
      have l9 : (its (1 + r9)).length ≤ 1 := its_len (by omega) (by omega) (by decide)
      have c9 : CP (its (1 + r9)) := its_cps _
      refine ⟨_, _, rfl, rfl, _, rfl, Nat.lt_trans hs9.log (by decide), ?_⟩
      have m : ∀ k : Nat, k ≤ 4400 → (its (1 + r9)).length * k ≤ k := fun k _ => by
        have := Nat.mul_le_mul_right k l9
        omega
      have ml := fun (k : Nat) (h : k ≤ 4400) => Nat.le_trans (m k h) (Nat.le_trans h (by decide : 4400 ≤ 1000000))
      have cpx : ∀ r : Str, (∀ c ∈ r.cps.toList, c ∈ (its (1 + r9)).cps.toList) → CP r := fun r h c hc => c9 c (h c hc)
      have l1s : ("1/" : Str).length = 2 := by decide +kernel
      have lms : ("-" : Str).length = 1 := by decide +kernel
      refine ⟨_, rfl, .inl ⟨rfl, _, SqL.of (kf _ _ hpb x10)⟩, _, rfl, _, 4400, rfl, rfl, by decide, by decide, ml 4400 (by decide), fun w1 hw1 hc1 => ?_⟩
      have u1 : w1.length ≤ 4400 := Nat.le_trans hw1 (m 4400 (by decide))
      refine ⟨_, rfl, _, 4400, rfl, rfl, by decide, by decide, ml 4400 (by decide), fun w2 hw2 hc2 => ?_⟩
      have u2 : w2.length ≤ 4400 := Nat.le_trans hw2 (m 4400 (by decide))
      refine ⟨_, _, rfl, rfl, szT (Nat.le_trans (Nat.add_le_add (Nat.le_of_eq l1s) u2) (by decide)), ?_⟩
      refine ⟨_, rfl, _, 90, rfl, rfl, by decide, by decide, ml 90 (by decide), fun w3 hw3 hc3 => ?_⟩
      have u3 : w3.length ≤ 90 := Nat.le_trans hw3 (m 90 (by decide))
      refine ⟨_, rfl, _, 91, rfl, rfl, by decide, by decide, ml 91 (by decide), fun w4 hw4 hc4 => ?_⟩
      have u4 : w4.length ≤ 91 := Nat.le_trans hw4 (m 91 (by decide))
      refine ⟨_, rfl, _, 90, rfl, rfl, by decide, by decide, ml 90 (by decide), fun w5 hw5 hc5 => ?_⟩
      have u5 : w5.length ≤ 90 := Nat.le_trans hw5 (m 90 (by decide))
      refine ⟨_, _, rfl, rfl, szT (Nat.le_trans (Nat.add_le_add (Nat.le_of_eq lms) u5) (by decide)), szn (by show 5 ≤ 1000; decide), fun lz hlz => ?_⟩
      have tz : TL5 5000 [.str w1, .str (("1/" : Str) ++ w2), .str w3, .str w4, .str (("-" : Str) ++ w5)] :=
        .cons (by omega) (cpx _ hc1) (.cons (by rw [slen]; omega) (CP.app (cp_lit (s := "1/") (by decide +kernel)) (cpx _ hc2)) (.cons (by omega) (cpx _ hc3) (.cons (by omega) (cpx _ hc4) (.cons (by rw [slen]; omega) (CP.app (cp_lit (s := "-") (by decide +kernel)) (cpx _ hc5)) .nil))))
      have gz := (Gr.refl Hf).upd (o := .lst [.str w1, .str (("1/" : Str) ++ w2), .str w3, .str w4, .str (("-" : Str) ++ w5)]) hlz
      have hlzb := bf.some hlz
      refine ⟨_, rfl, b, _, rfl, bf.gr gz, by decide, by decide, fun rz Hg kg bg z2 z3 => ?_⟩
      obtain ⟨zz, ez, lz5, cz5⟩ := tz.at_ z2 z3
      refine ⟨_, _, _, _, rfl, rfl, SqL.of (kg _ _ hlzb upd_same), ez, p, _, _, rfl, rfl, kg _ _ hpb (gz _ _ (kf _ _ hpb x10)), szT (by omega), ?_⟩
      exact ⟨_, rfl, R p _ _ ((((k10.trans kf).trans gz.kp).trans kg).updN hpn) (bg.ne hpb) upd_same (t10.snoc lz5 cz5)⟩
end
end K00
namespace L2.LX
open PySem PySem.Spec PyProof.Rows L2
/-- a tuple against itself -/
def rEqSame (K : PySem.W.Frag) : R2 := fun x y H Q => ∃ a xs, x = .ref a ∧ y = .ref a ∧ SqT K H a xs ∧ Q (.bl true) H
theorem op_eqSame {X : Cx} (hu : X.A.units + 64 < cLine) : OpR X (compareOp .Eq) (rEqSame X.K) := by
  intro pins s σ H x y v u Q I rx ry h
  obtain ⟨a, xs, rfl, rfl, ha, q⟩ := h
  cases (show v = Value.ref a from rx)
  cases (show u = Value.ref a from ry)
  obtain ⟨us, r1, p1, _⟩ := I.tuple ha
  refine SeqAt.eq_tupleAt (e := fun _ => true) p1 p1 (by omega) (fun j h1 h2 => SeqAt.EqAt.same _) ?_
  have e : ((List.range (min us.toArray.size us.toArray.size)).all (fun _ => true) && us.toArray.size == us.toArray.size) = true := by simp
  rw [e]
  exact ⟨.bl true, H, I, rfl, q⟩
end L2.LX
namespace K00
open PySem PySem.Spec PyProof.Rows L2 L2.LX
open PySem.W (Frag)
/-- the errors as the law lists them -/
abbrev ESL : List Str := ["InvalidRatio", "InvalidText", "InvalidTable", "InvalidGraph", "InvalidModel", "UnknownName", "InvalidFact", "InvalidQuestion", "InvalidPaper", "TooLarge", "Untold", "Misfit", "InvalidDeed", "DeedRefused", "InvalidJournal", "ZeroChance"]
theorem esl_sub : ∀ y ∈ ESL, y ∈ (["InvalidRatio", "InvalidText", "InvalidTable", "InvalidGraph", "InvalidModel", "UnknownName", "InvalidFact", "InvalidQuestion", "InvalidPaper", "TooLarge", "ZeroChance", "Untold", "Misfit", "InvalidDeed", "DeedRefused", "InvalidJournal"] : List Str) := by decide +kernel
/-- an error of class x stands at a -/
def EX (K : Frag) (H : Hp) (a : Addr) (x : Str) : Prop := ∃ d, H a = some (exo a (ga K x) d) ∧ ∀ dx, d = some dx → ∃ fs, H dx = some (exd dx fs)
theorem EX.gr {K : Frag} {H H' : Hp} {a : Addr} {x : Str} (h : EX K H a x) (g : Gr H H') : EX K H' a x := by
  obtain ⟨d, h1, h2⟩ := h
  exact ⟨d, g _ _ h1, fun dx e => by
    obtain ⟨fs, h3⟩ := h2 dx e
    exact ⟨fs, g _ _ h3⟩⟩
theorem mkV1 {C : Addr} {fld : Str} {ok : V → Prop} {v : V} {H : Hp} {Q : VK} (h : ok v) (q : ∀ a dx H', Gr H H' → H' a = some (exo a C (some dx)) → H' dx = some (exd dx [(fld, v)]) → Q (.ref a) H') :
    ([v] : List V).length ≤ 1000 ∧ ∀ a, H a = none → spErr C fld ok (.ref a :: ([v] ++ [])) (upd H a (exo a C none)) (fun v H2 => v = .non ∧ Q (.ref a) H2) (fun _ _ _ => False) := by
  refine ⟨Nat.le_of_ble_eq_true rfl, fun a ha => ⟨a, v, rfl, upd_same, h, fun dx hd hne => ⟨rfl, q a dx _ (fun b o e => ?_) upd_same ?_⟩⟩⟩
  · rw [upd_ne hne] at hd
    have h1 := ne_of_none e ha
    have h2 := ne_of_none e hd
    rw [upd_ne h1, upd_ne h2, upd_ne h1]
    exact e
  · rw [upd_ne hne]
    exact upd_same
theorem mkV0 {C : Addr} {H : Hp} {Q : VK} (q : ∀ a H', Gr H H' → H' a = some (exo a C none) → Q (.ref a) H') :
    ([] : List V).length ≤ 1000 ∧ ∀ a, H a = none → spErr0 C (.ref a :: ([] ++ [])) (upd H a (exo a C none)) (fun v H2 => v = .non ∧ Q (.ref a) H2) (fun _ _ _ => False) :=
  ⟨by decide, fun a ha => ⟨a, rfl, upd_same, rfl, q a _ ((Gr.refl H).upd ha) upd_same⟩⟩
theorem gr_row {H H1 : Hp} {r : Addr} {o : HO} (g : Gr H H1) (n : H r = none) : Gr H (upd H1 r o) := fun a x e => by
  rw [upd_ne (ne_of_none e n)]
  exact g a x e
def oneHot (i : Nat) : List Bool := (List.range 16).map fun k => decide (k = i)
theorem hot_row : ∀ i, i < 16 → ∀ x, ESL[i]? = some x → ESL.map (fun y => decide (x = y)) = oneHot i := by
  intro i hi x hx
  have h : ∀ j : Fin 16, (ESL.map fun y => decide (ESL[j.1]? = some y)) = oneHot j.1 := by decide +kernel
  have h2 := h ⟨i, hi⟩
  rw [← h2, hx]
  refine List.map_congr_left fun y _ => ?_
  rw [decide_eq_decide]
  exact ⟨fun e => by rw [e], fun e => Option.some.inj e⟩
theorem hot_data : ∀ j : Fin 16, SeqAt.shaped (.list ((oneHot j.1).map PyData.bool)) = true ∧ PyData.eqv (.list ((oneHot j.1).map PyData.bool)) (.list ((oneHot j.1).map PyData.bool)) = true := by decide +kernel
theorem dpBools {K : Frag} {H : Hp} : ∀ bs : List Bool, DpAll K H (bs.map V.bl) (bs.map PyData.bool)
  | [] => .nil
  | b :: bs => .cons (.bl b) (dpBools bs)
section
variable {P : Program} {w : World} {K : Frag} {mg : Str → Option Value} {base : Heap}
theorem excAll (T : Tx K mg) {x : Str} (h : x ∈ ESL) : ExcC K (ga K x) := by
  simp only [ESL, List.mem_cons, List.not_mem_nil, or_false] at h
  rcases h with rfl | rfl | rfl | rfl | rfl | rfl | rfl | rfl | rfl | rfl | rfl | rfl | rfl | rfl | rfl | rfl
  · exact (Tx.e_InvalidRatio T).2.is_
  · exact (Tx.e_InvalidText T).2.is_
  · exact (Tx.e_InvalidTable T).2.is_
  · exact (Tx.e_InvalidGraph T).2.is_
  · exact (Tx.e_InvalidModel T).2.is_
  · exact (Tx.e_UnknownName T).2.is_
  · exact (Tx.e_InvalidFact T).2.is_
  · exact (Tx.e_InvalidQuestion T).2.is_
  · exact (Tx.e_InvalidPaper T).2.is_
  · exact (Tx.e_TooLarge T).2.is_
  · exact (Tx.e_Untold T).2.is_
  · exact (Tx.e_Misfit T).2.is_
  · exact (Tx.e_InvalidDeed T).2.is_
  · exact (Tx.e_DeedRefused T).2.is_
  · exact (Tx.e_InvalidJournal T).2.is_
  · exact (Tx.e_ZeroChance T).2.is_
def spKinds (K : Frag) : Sp := fun vs H Q _ => ∃ (a : Addr) (x : Str), vs = [.ref a] ∧ x ∈ ESL ∧ EX K H a x ∧ ∀ l H', Gr H H' → H' l = some (.lst ((ESL.map fun y => decide (x = y)).map V.bl)) → Q (.ref l) H'
theorem ok__law_kinds (T : Tx K mg) (G : Pg P) : FnOk P w K mg base (L2N.CX P w) 1 (a__law_kinds K) (fdOf K (a__law_kinds K)) ["e"] (spKinds K) := by
  refine (T.d__law_kinds).ok sc__law_kinds (fun vs H Q E h => ?_) (fun cdv A outer s H vs Q E hr h => ?_)
  · obtain ⟨a, x, rfl, _⟩ := h
    rfl
  obtain ⟨a, x, rfl, hx, ex, R⟩ := h
  have hX := excAll T hx
  refine ⟨_, (pss_cons (ps_set (i := 1) sc__law_kinds.nd rfl (Or.inl rfl) (pe_lst (pa_cons (pe_callB (call_isX hX) (by rfl) (Tx.f_isinstance T) (by decide +kernel) (pa_cons (pv 0) (pa_cons (pe_glob (v := .ref _) rfl (Tx.e_InvalidRatio T).1 rfl) pa_nil))) (pa_cons (pe_callB (call_isX hX) (by rfl) (Tx.f_isinstance T) (by decide +kernel) (pa_cons (pv 0) (pa_cons (pe_glob (v := .ref _) rfl (Tx.e_InvalidText T).1 rfl) pa_nil))) (pa_cons (pe_callB (call_isX hX) (by rfl) (Tx.f_isinstance T) (by decide +kernel) (pa_cons (pv 0) (pa_cons (pe_glob (v := .ref _) rfl (Tx.e_InvalidTable T).1 rfl) pa_nil))) pa_nil)))))
    (pss_cons (ps_set (i := 1) sc__law_kinds.nd rfl (Or.inl rfl) (pe_op op_cat (pv 1) (pe_lst (pa_cons (pe_callB (call_isX hX) (by rfl) (Tx.f_isinstance T) (by decide +kernel) (pa_cons (pv 0) (pa_cons (pe_glob (v := .ref _) rfl (Tx.e_InvalidGraph T).1 rfl) pa_nil))) (pa_cons (pe_callB (call_isX hX) (by rfl) (Tx.f_isinstance T) (by decide +kernel) (pa_cons (pv 0) (pa_cons (pe_glob (v := .ref _) rfl (Tx.e_InvalidModel T).1 rfl) pa_nil))) (pa_cons (pe_callB (call_isX hX) (by rfl) (Tx.f_isinstance T) (by decide +kernel) (pa_cons (pv 0) (pa_cons (pe_glob (v := .ref _) rfl (Tx.e_UnknownName T).1 rfl) pa_nil))) pa_nil))))))
    (pss_cons (ps_set (i := 1) sc__law_kinds.nd rfl (Or.inl rfl) (pe_op op_cat (pv 1) (pe_lst (pa_cons (pe_callB (call_isX hX) (by rfl) (Tx.f_isinstance T) (by decide +kernel) (pa_cons (pv 0) (pa_cons (pe_glob (v := .ref _) rfl (Tx.e_InvalidFact T).1 rfl) pa_nil))) (pa_cons (pe_callB (call_isX hX) (by rfl) (Tx.f_isinstance T) (by decide +kernel) (pa_cons (pv 0) (pa_cons (pe_glob (v := .ref _) rfl (Tx.e_InvalidQuestion T).1 rfl) pa_nil))) (pa_cons (pe_callB (call_isX hX) (by rfl) (Tx.f_isinstance T) (by decide +kernel) (pa_cons (pv 0) (pa_cons (pe_glob (v := .ref _) rfl (Tx.e_InvalidPaper T).1 rfl) pa_nil))) pa_nil))))))
    (pss_cons (ps_set (i := 1) sc__law_kinds.nd rfl (Or.inl rfl) (pe_op op_cat (pv 1) (pe_lst (pa_cons (pe_callB (call_isX hX) (by rfl) (Tx.f_isinstance T) (by decide +kernel) (pa_cons (pv 0) (pa_cons (pe_glob (v := .ref _) rfl (Tx.e_TooLarge T).1 rfl) pa_nil))) (pa_cons (pe_callB (call_isX hX) (by rfl) (Tx.f_isinstance T) (by decide +kernel) (pa_cons (pv 0) (pa_cons (pe_glob (v := .ref _) rfl (Tx.e_Untold T).1 rfl) pa_nil))) (pa_cons (pe_callB (call_isX hX) (by rfl) (Tx.f_isinstance T) (by decide +kernel) (pa_cons (pv 0) (pa_cons (pe_glob (v := .ref _) rfl (Tx.e_Misfit T).1 rfl) pa_nil))) (pa_cons (pe_callB (call_isX hX) (by rfl) (Tx.f_isinstance T) (by decide +kernel) (pa_cons (pv 0) (pa_cons (pe_glob (v := .ref _) rfl (Tx.e_InvalidDeed T).1 rfl) pa_nil))) pa_nil)))))))
    (pss_one (ps_ret (pe_op op_cat (pv 1) (pe_lst (pa_cons (pe_callB (call_isX hX) (by rfl) (Tx.f_isinstance T) (by decide +kernel) (pa_cons (pv 0) (pa_cons (pe_glob (v := .ref _) rfl (Tx.e_DeedRefused T).1 rfl) pa_nil))) (pa_cons (pe_callB (call_isX hX) (by rfl) (Tx.f_isinstance T) (by decide +kernel) (pa_cons (pv 0) (pa_cons (pe_glob (v := .ref _) rfl (Tx.e_InvalidJournal T).1 rfl) pa_nil))) (pa_cons (pe_callB (call_isX hX) (by rfl) (Tx.f_isinstance T) (by decide +kernel) (pa_cons (pv 0) (pa_cons (pe_glob (v := .ref _) rfl (Tx.e_ZeroChance T).1 rfl) pa_nil))) pa_nil))))))))))), ?_⟩
  have hk : ∀ y ∈ ESL, PySem.W.kitOne K (.ref (ga K x)) (.ref (ga K y)) = some (decide (x = y)) := fun y hy => (kindsB_ok T.kinds (esl_sub x hx)).2.2 y (esl_sub y hy)
  obtain ⟨d, ha, hd⟩ := id ex
  refine ⟨_, rfl, a, d, _, _, _, rfl, .own _, ha, hd, hk "InvalidRatio" (by decide +kernel), _, rfl, a, d, _, _, _, rfl, .own _, ha, hd, hk "InvalidText" (by decide +kernel), _, rfl, a, d, _, _, _, rfl, .own _, ha, hd, hk "InvalidTable" (by decide +kernel), szn (by show 3 ≤ 1000; decide), fun l0 hl0 => ?_⟩
  have g0 := (Gr.refl H).upd (o := .lst [.bl (decide (x = "InvalidRatio")), .bl (decide (x = "InvalidText")), .bl (decide (x = "InvalidTable"))]) hl0
  obtain ⟨d, ha, hd⟩ := ex.gr g0
  refine ⟨_, rfl, _, rfl, a, d, _, _, _, rfl, .own _, ha, hd, hk "InvalidGraph" (by decide +kernel), _, rfl, a, d, _, _, _, rfl, .own _, ha, hd, hk "InvalidModel" (by decide +kernel), _, rfl, a, d, _, _, _, rfl, .own _, ha, hd, hk "UnknownName" (by decide +kernel), szn (by show 3 ≤ 1000; decide), fun m1 hm1 => ?_⟩
  have n1 := ne_of_none (upd_same (a := l0) (o := .lst [.bl (decide (x = "InvalidRatio")), .bl (decide (x = "InvalidText")), .bl (decide (x = "InvalidTable"))])) hm1
  refine ⟨l0, m1, [.bl (decide (x = "InvalidRatio")), .bl (decide (x = "InvalidText")), .bl (decide (x = "InvalidTable"))], [.bl (decide (x = "InvalidGraph")), .bl (decide (x = "InvalidModel")), .bl (decide (x = "UnknownName"))], rfl, rfl, by rw [upd_ne n1]; exact upd_same, upd_same, szn (by show 6 ≤ 1000; decide), fun l1 hl1 => ?_⟩
  have g1 := (g0.upd (o := .lst [.bl (decide (x = "InvalidGraph")), .bl (decide (x = "InvalidModel")), .bl (decide (x = "UnknownName"))]) hm1).upd (o := .lst [.bl (decide (x = "InvalidRatio")), .bl (decide (x = "InvalidText")), .bl (decide (x = "InvalidTable")), .bl (decide (x = "InvalidGraph")), .bl (decide (x = "InvalidModel")), .bl (decide (x = "UnknownName"))]) hl1
  obtain ⟨d, ha, hd⟩ := ex.gr g1
  refine ⟨_, rfl, _, rfl, a, d, _, _, _, rfl, .own _, ha, hd, hk "InvalidFact" (by decide +kernel), _, rfl, a, d, _, _, _, rfl, .own _, ha, hd, hk "InvalidQuestion" (by decide +kernel), _, rfl, a, d, _, _, _, rfl, .own _, ha, hd, hk "InvalidPaper" (by decide +kernel), szn (by show 3 ≤ 1000; decide), fun m2 hm2 => ?_⟩
  have n2 := ne_of_none (upd_same (a := l1) (o := .lst [.bl (decide (x = "InvalidRatio")), .bl (decide (x = "InvalidText")), .bl (decide (x = "InvalidTable")), .bl (decide (x = "InvalidGraph")), .bl (decide (x = "InvalidModel")), .bl (decide (x = "UnknownName"))])) hm2
  refine ⟨l1, m2, [.bl (decide (x = "InvalidRatio")), .bl (decide (x = "InvalidText")), .bl (decide (x = "InvalidTable")), .bl (decide (x = "InvalidGraph")), .bl (decide (x = "InvalidModel")), .bl (decide (x = "UnknownName"))], [.bl (decide (x = "InvalidFact")), .bl (decide (x = "InvalidQuestion")), .bl (decide (x = "InvalidPaper"))], rfl, rfl, by rw [upd_ne n2]; exact upd_same, upd_same, szn (by show 9 ≤ 1000; decide), fun l2 hl2 => ?_⟩
  have g2 := (g1.upd (o := .lst [.bl (decide (x = "InvalidFact")), .bl (decide (x = "InvalidQuestion")), .bl (decide (x = "InvalidPaper"))]) hm2).upd (o := .lst [.bl (decide (x = "InvalidRatio")), .bl (decide (x = "InvalidText")), .bl (decide (x = "InvalidTable")), .bl (decide (x = "InvalidGraph")), .bl (decide (x = "InvalidModel")), .bl (decide (x = "UnknownName")), .bl (decide (x = "InvalidFact")), .bl (decide (x = "InvalidQuestion")), .bl (decide (x = "InvalidPaper"))]) hl2
  obtain ⟨d, ha, hd⟩ := ex.gr g2
  refine ⟨_, rfl, _, rfl, a, d, _, _, _, rfl, .own _, ha, hd, hk "TooLarge" (by decide +kernel), _, rfl, a, d, _, _, _, rfl, .own _, ha, hd, hk "Untold" (by decide +kernel), _, rfl, a, d, _, _, _, rfl, .own _, ha, hd, hk "Misfit" (by decide +kernel), _, rfl, a, d, _, _, _, rfl, .own _, ha, hd, hk "InvalidDeed" (by decide +kernel), szn (by show 4 ≤ 1000; decide), fun m3 hm3 => ?_⟩
  have n3 := ne_of_none (upd_same (a := l2) (o := .lst [.bl (decide (x = "InvalidRatio")), .bl (decide (x = "InvalidText")), .bl (decide (x = "InvalidTable")), .bl (decide (x = "InvalidGraph")), .bl (decide (x = "InvalidModel")), .bl (decide (x = "UnknownName")), .bl (decide (x = "InvalidFact")), .bl (decide (x = "InvalidQuestion")), .bl (decide (x = "InvalidPaper"))])) hm3
  refine ⟨l2, m3, [.bl (decide (x = "InvalidRatio")), .bl (decide (x = "InvalidText")), .bl (decide (x = "InvalidTable")), .bl (decide (x = "InvalidGraph")), .bl (decide (x = "InvalidModel")), .bl (decide (x = "UnknownName")), .bl (decide (x = "InvalidFact")), .bl (decide (x = "InvalidQuestion")), .bl (decide (x = "InvalidPaper"))], [.bl (decide (x = "TooLarge")), .bl (decide (x = "Untold")), .bl (decide (x = "Misfit")), .bl (decide (x = "InvalidDeed"))], rfl, rfl, by rw [upd_ne n3]; exact upd_same, upd_same, szn (by show 13 ≤ 1000; decide), fun l3 hl3 => ?_⟩
  have g3 := (g2.upd (o := .lst [.bl (decide (x = "TooLarge")), .bl (decide (x = "Untold")), .bl (decide (x = "Misfit")), .bl (decide (x = "InvalidDeed"))]) hm3).upd (o := .lst [.bl (decide (x = "InvalidRatio")), .bl (decide (x = "InvalidText")), .bl (decide (x = "InvalidTable")), .bl (decide (x = "InvalidGraph")), .bl (decide (x = "InvalidModel")), .bl (decide (x = "UnknownName")), .bl (decide (x = "InvalidFact")), .bl (decide (x = "InvalidQuestion")), .bl (decide (x = "InvalidPaper")), .bl (decide (x = "TooLarge")), .bl (decide (x = "Untold")), .bl (decide (x = "Misfit")), .bl (decide (x = "InvalidDeed"))]) hl3
  obtain ⟨d, ha, hd⟩ := ex.gr g3
  refine ⟨_, rfl, _, rfl, a, d, _, _, _, rfl, .own _, ha, hd, hk "DeedRefused" (by decide +kernel), _, rfl, a, d, _, _, _, rfl, .own _, ha, hd, hk "InvalidJournal" (by decide +kernel), _, rfl, a, d, _, _, _, rfl, .own _, ha, hd, hk "ZeroChance" (by decide +kernel), szn (by show 3 ≤ 1000; decide), fun m4 hm4 => ?_⟩
  have n4 := ne_of_none (upd_same (a := l3) (o := .lst [.bl (decide (x = "InvalidRatio")), .bl (decide (x = "InvalidText")), .bl (decide (x = "InvalidTable")), .bl (decide (x = "InvalidGraph")), .bl (decide (x = "InvalidModel")), .bl (decide (x = "UnknownName")), .bl (decide (x = "InvalidFact")), .bl (decide (x = "InvalidQuestion")), .bl (decide (x = "InvalidPaper")), .bl (decide (x = "TooLarge")), .bl (decide (x = "Untold")), .bl (decide (x = "Misfit")), .bl (decide (x = "InvalidDeed"))])) hm4
  refine ⟨l3, m4, [.bl (decide (x = "InvalidRatio")), .bl (decide (x = "InvalidText")), .bl (decide (x = "InvalidTable")), .bl (decide (x = "InvalidGraph")), .bl (decide (x = "InvalidModel")), .bl (decide (x = "UnknownName")), .bl (decide (x = "InvalidFact")), .bl (decide (x = "InvalidQuestion")), .bl (decide (x = "InvalidPaper")), .bl (decide (x = "TooLarge")), .bl (decide (x = "Untold")), .bl (decide (x = "Misfit")), .bl (decide (x = "InvalidDeed"))], [.bl (decide (x = "DeedRefused")), .bl (decide (x = "InvalidJournal")), .bl (decide (x = "ZeroChance"))], rfl, rfl, by rw [upd_ne n4]; exact upd_same, upd_same, szn (by show 16 ≤ 1000; decide), fun l4 hl4 => ?_⟩
  have g4 := (g3.upd (o := .lst [.bl (decide (x = "DeedRefused")), .bl (decide (x = "InvalidJournal")), .bl (decide (x = "ZeroChance"))]) hm4).upd (o := .lst [.bl (decide (x = "InvalidRatio")), .bl (decide (x = "InvalidText")), .bl (decide (x = "InvalidTable")), .bl (decide (x = "InvalidGraph")), .bl (decide (x = "InvalidModel")), .bl (decide (x = "UnknownName")), .bl (decide (x = "InvalidFact")), .bl (decide (x = "InvalidQuestion")), .bl (decide (x = "InvalidPaper")), .bl (decide (x = "TooLarge")), .bl (decide (x = "Untold")), .bl (decide (x = "Misfit")), .bl (decide (x = "InvalidDeed")), .bl (decide (x = "DeedRefused")), .bl (decide (x = "InvalidJournal")), .bl (decide (x = "ZeroChance"))]) hl4
  exact R l4 _ g4 upd_same
end
end K00
namespace K00
open PySem PySem.Spec PyProof.Rows L2 L2.LX
open PySem.W (Frag)
section
variable {P : Program} {w : World} {K : Frag} {mg : Str → Option Value} {base : Heap}
/-- an error stands alone at its place -/
def spAlone (K : Frag) : Sp := fun vs H Q _ => ∃ (a : Addr) (i : Nat) (x : Str), vs = [.ref a, .int i] ∧ i < 16 ∧ ESL[i]? = some x ∧ EX K H a x ∧ ∀ H', Gr H H' → Q (.bl true) H'
theorem ok__law_alone (T : Tx K mg) (G : Pg P) : FnOk P w K mg base (L2N.CX P w) 2 (a__law_alone K) (fdOf K (a__law_alone K)) ["e", "place"] (spAlone K) := by
  refine (T.d__law_alone).ok sc__law_alone (fun vs H Q E h => ?_) (fun cdv A outer s H vs Q E hr h => ?_)
  · obtain ⟨a, i, x, rfl, _⟩ := h
    rfl
  obtain ⟨a, i, x, rfl, hi, hx, ex, R⟩ := h
  have hxm : x ∈ ESL := List.mem_of_getElem? hx
  have hX := excAll T hxm
  refine ⟨_, (pss_one (ps_ret (pe_and (pe_callB (call_isX hX) (by rfl) (Tx.f_isinstance T) (by decide +kernel) (pa_cons (pv 0) (pa_cons (pe_glob (v := .ref _) rfl (Tx.g_LoftError T) rfl) pa_nil))) (pe_and (pe_callB (call_isX hX) (by rfl) (Tx.f_isinstance T) (by decide +kernel) (pa_cons (pv 0) (pa_cons (pe_bltn (v := .ty "ValueError") (by rfl) (Tx.f_ValueError T) (by decide +kernel) rfl) pa_nil))) (pe_one (pe_cmpR (op_eqD hr.units) (pe_call (ok__law_kinds T G) (hr.mono (by decide)) rfl (Tx.g__law_kinds T) (Tx.d__law_kinds T).kp (Tx.b__law_kinds T) .nil passN0 (pa_cons (pv 0) pa_nil)) (pe_lc (own := [("k", 2)]) (g := gName 2) (tt := tYes) rfl sc__law_alone.nd (pi_range1 rfl (Tx.f_range T) (pa_cons pe_int pa_nil)) (blkOk_by (N := ["e", "place", "k"]) (sc := defScope s__law_alone) (by decide +kernel)) (fun _ _ _ _ _ => (pg_name (i := 2) sc__law_alone.nd rfl (Or.inl rfl))) (fun _ _ _ _ _ => pts_nil) (fun _ _ _ _ _ => (pe_cmpR op_eq (pv 2) (pv 1) (nomark _)))) (nomark _))))))), ?_⟩
  obtain ⟨d, ha, hd⟩ := id ex
  have kk := kindsB_ok T.kinds (esl_sub x hxm)
  refine ⟨_, rfl, a, d, _, _, _, rfl, .own _, ha, hd, kk.2.1, true, rfl, iT rfl ?_⟩
  refine ⟨_, rfl, a, d, _, _, _, rfl, .ty _, ha, hd, kk.1, true, rfl, iT rfl ?_⟩
  refine ⟨_, rfl, a, x, rfl, hxm, ex, fun l H1 g1 hl => ?_⟩
  rw [hot_row i hi x hx] at hl
  refine ⟨16, rfl, by decide, by decide, fun D hD => lc_it walk_range (fun j H' => H' D = some (.lst (((List.range 16).take j).map fun k => V.bl (decide (k = i)))) ∧ Gr H1 H') ?_ ?_ ?_ ?_⟩
  · exact ⟨upd_same, (Gr.refl _).upd hD⟩
  · exact fun _ _ _ _ => trivial
  · rintro j y H2 H3 hj ⟨h1, h2⟩ ⟨rfl, rfl⟩
    have hj16 : j < 16 := hj
    refine ⟨rfl, _, rfl, _, rfl, rfl, _, h1, ?_, ?_, gr_row h2 hD⟩
    · rw [List.length_map, List.length_take, sizeLine_eq, List.length_range]
      omega
    · rw [List.take_add_one]
      have e : (List.range 16)[j]? = some j := by rw [List.getElem?_range hj16]
      have e2 : decide (V.int (0 + (j : Int)) = V.int (i : Int)) = decide (j = i) := by
        rw [decide_eq_decide]
        exact ⟨fun h => by have := V.int.inj h; omega, fun h => by rw [h, Int.zero_add]⟩
      rw [e, List.map_append, e2]
      exact upd_same
  · rintro H2 ⟨h1, h2⟩
    have h3 : H2 D = some (.lst ((oneHot i).map V.bl)) := by
      rw [h1]
      show some (HO.lst ((List.range 16).map _)) = some (HO.lst (((List.range 16).map _).map V.bl))
      rw [List.map_map]
      rfl
    obtain ⟨s1, s2⟩ := hot_data ⟨i, hi⟩
    refine ⟨_, _, .lst (SqL.of (h2 _ _ hl)) (dpBools _), .lst (SqL.of h3) (dpBools _), s1, s1, ?_⟩
    rw [s2]
    exact R H2 (g1.trans h2)
theorem exv {C : Addr} {fld : Str} {v : V} {H : Hp} {a dx : Addr} (ha : H a = none) (hd : upd H a (exo a C none) dx = none) (hne : dx ≠ a) :
    Gr H (upd (upd (upd H a (exo a C none)) dx (exd dx [(fld, v)])) a (exo a C (some dx))) ∧ upd (upd (upd H a (exo a C none)) dx (exd dx [(fld, v)])) a (exo a C (some dx)) a = some (exo a C (some dx)) ∧
    upd (upd (upd H a (exo a C none)) dx (exd dx [(fld, v)])) a (exo a C (some dx)) dx = some (exd dx [(fld, v)]) := by
  refine ⟨fun b o e => ?_, upd_same, by rw [upd_ne hne]; exact upd_same⟩
  rw [upd_ne hne] at hd
  have h1 := ne_of_none e ha
  have h2 := ne_of_none e hd
  rw [upd_ne h1, upd_ne h2, upd_ne h1]
  exact e
/-- one row of the list of errors -/
theorem entryG {x fld : Str} {ok : V → Prop} {i : Nat} {v : V} {σ : L2.St} {H : Hp} {Q : VK} {targ : TE} {r : R2} (hi : i < 16) (hx : ESL[i]? = some x) (hok : ok v) (harg : ∀ H' Q', Gr H H' → Q' v H' → targ σ H' Q') (hr : ∀ H' Q', Gr H H' → Q' (.bl true) H' → r v v H' Q') (q : ∀ H', Gr H H' → Q (.bl true) H') :
    tAndV (tCall (spAlone K) [] E0 (tCons (tMkV (ga K x) (spErr (ga K x) fld ok) [] (tCons targ tNil)) (tCons (tC (.int (i : Int))) tNil))) (tOp r (tXv K (ga K x) fld (tMkV (ga K x) (spErr (ga K x) fld ok) [] (tCons targ tNil))) targ) σ H Q := by
  refine harg H _ (Gr.refl H) ⟨Nat.le_of_ble_eq_true rfl, fun a hna => ⟨a, v, rfl, upd_same, hok, fun dx hd hne => ⟨rfl, ?_⟩⟩⟩
  obtain ⟨g1, ha, hdx⟩ := exv (C := ga K x) (fld := fld) (v := v) hna hd hne
  refine ⟨a, i, x, rfl, hi, hx, ⟨some dx, ha, fun dx' e => ⟨_, by cases e; exact hdx⟩⟩, fun H2 g2 => ⟨true, rfl, iT rfl ?_⟩⟩
  have g12 := g1.trans g2
  refine harg H2 _ g12 ⟨Nat.le_of_ble_eq_true rfl, fun a' hna' => ⟨a', v, rfl, upd_same, hok, fun dx' hd' hne' => ⟨rfl, ?_⟩⟩⟩
  obtain ⟨g3, ha', hdx'⟩ := exv (C := ga K x) (fld := fld) (v := v) hna' hd' hne'
  have g13 := g12.trans g3
  refine ⟨a', dx', _, v, rfl, ha', hdx', by simp, ?_⟩
  refine harg _ _ g13 ?_
  exact hr _ _ g13 (q _ g13)
theorem entry0 {x : Str} {i : Nat} {σ : L2.St} {H : Hp} {Q : VK} (hi : i < 16) (hx : ESL[i]? = some x) (q : ∀ H', Gr H H' → Q (.bl true) H') :
    tCall (spAlone K) [] E0 (tCons (tMkV (ga K x) (spErr0 (ga K x)) [] tNil) (tCons (tC (.int (i : Int))) tNil)) σ H Q := by
  refine ⟨Nat.le_of_ble_eq_true rfl, fun a hna => ⟨a, rfl, upd_same, rfl, ?_⟩⟩
  have g1 := (Gr.refl H).upd (o := exo a (ga K x) none) hna
  exact ⟨a, i, x, rfl, hi, hx, ⟨none, upd_same, fun dx e => nomatch e⟩, fun H2 g2 => q H2 (g1.trans g2)⟩
def spErrs (K : Frag) : Sp := fun vs H Q _ => ∃ (n : Int) (y : Str) (tm : Addr) (ms : List V), vs = [.int n, .str y, .ref tm] ∧ sm 64 n ∧ y.length ≤ 1000 ∧ CP y ∧ PyData.strOk y = true ∧ SqT K H tm ms ∧ ∀ H', Gr H H' → Q (.bl true) H'
theorem row_dp : SeqAt.shaped (.list ((List.replicate 16 true).map PyData.bool)) = true ∧ PyData.eqv (.list ((List.replicate 16 true).map PyData.bool)) (.list ((List.replicate 16 true).map PyData.bool)) = true := by decide +kernel
theorem snoc_rep (k : Nat) : (List.replicate k true).map V.bl ++ [V.bl true] = (List.replicate (k + 1) true).map V.bl := by
  rw [List.replicate_succ', List.map_append]
  rfl
theorem strOk_app {y z : Str} (h : PyData.strOk y = true) (h' : PyData.strOk z = true) : PyData.strOk (y ++ z) = true := by
  unfold PyData.strOk at *
  rw [Array.all_eq_true_iff_forall_mem] at *
  intro c hc
  have e : (y ++ z : Str).cps = y.cps ++ z.cps := rfl
  rw [e] at hc
  rcases Array.mem_append.mp hc with h1 | h1
  · exact h c h1
  · exact h' c h1
theorem hedge_dp (y z : Str) (s1 : PyData.strOk y = true) (s2 : PyData.strOk z = true) : SeqAt.shaped (.tuple [.tuple [.str y], .tuple [.str y, .str z]]) = true ∧ PyData.eqv (.tuple [.tuple [.str y], .tuple [.str y, .str z]]) (.tuple [.tuple [.str y], .tuple [.str y, .str z]]) = true := by
  constructor
  · have c : PyData.canLay0 (.tuple [.tuple [.str y], .tuple [.str y, .str z]]) = true := by simp [PyData.canLay0, PyData.canLayAll0, s1, s2]
    have d : PyData.depth (.tuple [.tuple [.str y], .tuple [.str y, .str z]]) ≤ 64 := by
      show _ ≤ 64
      simp [PyData.depth, PyData.depthAll]
    unfold SeqAt.shaped
    rw [c, decide_eq_true d]
    rfl
  · simp [PyData.eqv, PyData.eqvAll]
theorem ok__law_errors_right (T : Tx K mg) (G : Pg P) : FnOk P w K mg base (L2N.CX P w) 4 (a__law_errors_right K) (fdOf K (a__law_errors_right K)) ["number", "word", "made"] (spErrs K) := by
  refine (T.d__law_errors_right).ok sc__law_errors_right (fun vs H Q E h => ?_) (fun cdv A outer s H vs Q E hr h => ?_)
  · obtain ⟨n, y, tm, ms, rfl, _⟩ := h
    rfl
  obtain ⟨n, y, tm, ms, rfl, hn, hy, cy, sy, hm, R⟩ := h
  refine ⟨_, (pss_cons (ps_set (i := 3) sc__law_errors_right.nd rfl (Or.inl rfl) (pe_tup (pa_cons (pe_tup (pa_cons (pv 1) pa_nil)) (pa_cons (pe_tup (pa_cons (pv 1) (pa_cons (pe_op op_add_str (pv 1) pe_str) pa_nil))) pa_nil))))
    (pss_cons (ps_set (i := 4) sc__law_errors_right.nd rfl (Or.inl rfl) (pe_lst (pa_cons (pe_and (pe_call (ok__law_alone T G) (hr.mono (by decide)) rfl (Tx.g__law_alone T) (Tx.d__law_alone T).kp (Tx.b__law_alone T) .nil passN0 (pa_cons (pe_oex (Tx.e_InvalidRatio T).2.sup.oex (Tx.e_InvalidRatio T).2.init (Tx.e_InvalidRatio T).2.fn (ok_InvalidRatio T G.1 G.2) (hr.mono (by decide)) (Tx.b_InvalidRatio___init__ T) .nil pass0 rfl (Tx.e_InvalidRatio T).1 (pa_cons (pv 0) pa_nil)) (pa_cons pe_int pa_nil))) (pe_one (pe_cmpR op_eq (pe_xv (Tx.e_InvalidRatio T).2.xf (Tx.n_InvalidRatio T) (pe_oex (Tx.e_InvalidRatio T).2.sup.oex (Tx.e_InvalidRatio T).2.init (Tx.e_InvalidRatio T).2.fn (ok_InvalidRatio T G.1 G.2) (hr.mono (by decide)) (Tx.b_InvalidRatio___init__ T) .nil pass0 rfl (Tx.e_InvalidRatio T).1 (pa_cons (pv 0) pa_nil))) (pv 0) (nomark _)))) pa_nil)))
    (pss_cons (ps_expr (pe_bm PySem.F.plainAttrs_list PySem.F.slot_list_append PySem.F.type_list_append mt_append (pv 4) (pa_cons (pe_and (pe_call (ok__law_alone T G) (hr.mono (by decide)) rfl (Tx.g__law_alone T) (Tx.d__law_alone T).kp (Tx.b__law_alone T) .nil passN0 (pa_cons (pe_oex (Tx.e_InvalidText T).2.sup.oex (Tx.e_InvalidText T).2.init (Tx.e_InvalidText T).2.fn (ok_InvalidText T G.1 G.2) (hr.mono (by decide)) (Tx.b_InvalidText___init__ T) .nil pass0 rfl (Tx.e_InvalidText T).1 (pa_cons (pv 1) pa_nil)) (pa_cons pe_int pa_nil))) (pe_one (pe_cmpR op_eq (pe_xv (Tx.e_InvalidText T).2.xf (Tx.n_InvalidText T) (pe_oex (Tx.e_InvalidText T).2.sup.oex (Tx.e_InvalidText T).2.init (Tx.e_InvalidText T).2.fn (ok_InvalidText T G.1 G.2) (hr.mono (by decide)) (Tx.b_InvalidText___init__ T) .nil pass0 rfl (Tx.e_InvalidText T).1 (pa_cons (pv 1) pa_nil))) (pv 1) (nomark _)))) pa_nil)))
    (pss_cons (ps_expr (pe_bm PySem.F.plainAttrs_list PySem.F.slot_list_append PySem.F.type_list_append mt_append (pv 4) (pa_cons (pe_and (pe_call (ok__law_alone T G) (hr.mono (by decide)) rfl (Tx.g__law_alone T) (Tx.d__law_alone T).kp (Tx.b__law_alone T) .nil passN0 (pa_cons (pe_oex (Tx.e_InvalidTable T).2.sup.oex (Tx.e_InvalidTable T).2.init (Tx.e_InvalidTable T).2.fn (ok_InvalidTable T G.1 G.2) (hr.mono (by decide)) (Tx.b_InvalidTable___init__ T) .nil pass0 rfl (Tx.e_InvalidTable T).1 (pa_cons (pv 1) pa_nil)) (pa_cons pe_int pa_nil))) (pe_one (pe_cmpR op_eq (pe_xv (Tx.e_InvalidTable T).2.xf (Tx.n_InvalidTable T) (pe_oex (Tx.e_InvalidTable T).2.sup.oex (Tx.e_InvalidTable T).2.init (Tx.e_InvalidTable T).2.fn (ok_InvalidTable T G.1 G.2) (hr.mono (by decide)) (Tx.b_InvalidTable___init__ T) .nil pass0 rfl (Tx.e_InvalidTable T).1 (pa_cons (pv 1) pa_nil))) (pv 1) (nomark _)))) pa_nil)))
    (pss_cons (ps_expr (pe_bm PySem.F.plainAttrs_list PySem.F.slot_list_append PySem.F.type_list_append mt_append (pv 4) (pa_cons (pe_and (pe_call (ok__law_alone T G) (hr.mono (by decide)) rfl (Tx.g__law_alone T) (Tx.d__law_alone T).kp (Tx.b__law_alone T) .nil passN0 (pa_cons (pe_oex (Tx.e_InvalidGraph T).2.sup.oex (Tx.e_InvalidGraph T).2.init (Tx.e_InvalidGraph T).2.fn (ok_InvalidGraph T G.1 G.2) (hr.mono (by decide)) (Tx.b_InvalidGraph___init__ T) .nil pass0 rfl (Tx.e_InvalidGraph T).1 (pa_cons (pv 1) pa_nil)) (pa_cons pe_int pa_nil))) (pe_one (pe_cmpR op_eq (pe_xv (Tx.e_InvalidGraph T).2.xf (Tx.n_InvalidGraph T) (pe_oex (Tx.e_InvalidGraph T).2.sup.oex (Tx.e_InvalidGraph T).2.init (Tx.e_InvalidGraph T).2.fn (ok_InvalidGraph T G.1 G.2) (hr.mono (by decide)) (Tx.b_InvalidGraph___init__ T) .nil pass0 rfl (Tx.e_InvalidGraph T).1 (pa_cons (pv 1) pa_nil))) (pv 1) (nomark _)))) pa_nil)))
    (pss_cons (ps_expr (pe_bm PySem.F.plainAttrs_list PySem.F.slot_list_append PySem.F.type_list_append mt_append (pv 4) (pa_cons (pe_and (pe_call (ok__law_alone T G) (hr.mono (by decide)) rfl (Tx.g__law_alone T) (Tx.d__law_alone T).kp (Tx.b__law_alone T) .nil passN0 (pa_cons (pe_oex (Tx.e_InvalidModel T).2.sup.oex (Tx.e_InvalidModel T).2.init (Tx.e_InvalidModel T).2.fn (ok_InvalidModel T G.1 G.2) (hr.mono (by decide)) (Tx.b_InvalidModel___init__ T) .nil pass0 rfl (Tx.e_InvalidModel T).1 (pa_cons (pv 1) pa_nil)) (pa_cons pe_int pa_nil))) (pe_one (pe_cmpR op_eq (pe_xv (Tx.e_InvalidModel T).2.xf (Tx.n_InvalidModel T) (pe_oex (Tx.e_InvalidModel T).2.sup.oex (Tx.e_InvalidModel T).2.init (Tx.e_InvalidModel T).2.fn (ok_InvalidModel T G.1 G.2) (hr.mono (by decide)) (Tx.b_InvalidModel___init__ T) .nil pass0 rfl (Tx.e_InvalidModel T).1 (pa_cons (pv 1) pa_nil))) (pv 1) (nomark _)))) pa_nil)))
    (pss_cons (ps_expr (pe_bm PySem.F.plainAttrs_list PySem.F.slot_list_append PySem.F.type_list_append mt_append (pv 4) (pa_cons (pe_and (pe_call (ok__law_alone T G) (hr.mono (by decide)) rfl (Tx.g__law_alone T) (Tx.d__law_alone T).kp (Tx.b__law_alone T) .nil passN0 (pa_cons (pe_oex (Tx.e_UnknownName T).2.sup.oex (Tx.e_UnknownName T).2.init (Tx.e_UnknownName T).2.fn (ok_UnknownName T G.1 G.2) (hr.mono (by decide)) (Tx.b_UnknownName___init__ T) .nil pass0 rfl (Tx.e_UnknownName T).1 (pa_cons (pv 1) pa_nil)) (pa_cons pe_int pa_nil))) (pe_one (pe_cmpR op_eq (pe_xv (Tx.e_UnknownName T).2.xf (Tx.n_UnknownName T) (pe_oex (Tx.e_UnknownName T).2.sup.oex (Tx.e_UnknownName T).2.init (Tx.e_UnknownName T).2.fn (ok_UnknownName T G.1 G.2) (hr.mono (by decide)) (Tx.b_UnknownName___init__ T) .nil pass0 rfl (Tx.e_UnknownName T).1 (pa_cons (pv 1) pa_nil))) (pv 1) (nomark _)))) pa_nil)))
    (pss_cons (ps_expr (pe_bm PySem.F.plainAttrs_list PySem.F.slot_list_append PySem.F.type_list_append mt_append (pv 4) (pa_cons (pe_and (pe_call (ok__law_alone T G) (hr.mono (by decide)) rfl (Tx.g__law_alone T) (Tx.d__law_alone T).kp (Tx.b__law_alone T) .nil passN0 (pa_cons (pe_oex (Tx.e_InvalidFact T).2.sup.oex (Tx.e_InvalidFact T).2.init (Tx.e_InvalidFact T).2.fn (ok_InvalidFact T G.1 G.2) (hr.mono (by decide)) (Tx.b_InvalidFact___init__ T) .nil pass0 rfl (Tx.e_InvalidFact T).1 (pa_cons (pv 1) pa_nil)) (pa_cons pe_int pa_nil))) (pe_one (pe_cmpR op_eq (pe_xv (Tx.e_InvalidFact T).2.xf (Tx.n_InvalidFact T) (pe_oex (Tx.e_InvalidFact T).2.sup.oex (Tx.e_InvalidFact T).2.init (Tx.e_InvalidFact T).2.fn (ok_InvalidFact T G.1 G.2) (hr.mono (by decide)) (Tx.b_InvalidFact___init__ T) .nil pass0 rfl (Tx.e_InvalidFact T).1 (pa_cons (pv 1) pa_nil))) (pv 1) (nomark _)))) pa_nil)))
    (pss_cons (ps_expr (pe_bm PySem.F.plainAttrs_list PySem.F.slot_list_append PySem.F.type_list_append mt_append (pv 4) (pa_cons (pe_and (pe_call (ok__law_alone T G) (hr.mono (by decide)) rfl (Tx.g__law_alone T) (Tx.d__law_alone T).kp (Tx.b__law_alone T) .nil passN0 (pa_cons (pe_oex (Tx.e_InvalidQuestion T).2.sup.oex (Tx.e_InvalidQuestion T).2.init (Tx.e_InvalidQuestion T).2.fn (ok_InvalidQuestion T G.1 G.2) (hr.mono (by decide)) (Tx.b_InvalidQuestion___init__ T) .nil pass0 rfl (Tx.e_InvalidQuestion T).1 (pa_cons (pv 1) pa_nil)) (pa_cons pe_int pa_nil))) (pe_one (pe_cmpR op_eq (pe_xv (Tx.e_InvalidQuestion T).2.xf (Tx.n_InvalidQuestion T) (pe_oex (Tx.e_InvalidQuestion T).2.sup.oex (Tx.e_InvalidQuestion T).2.init (Tx.e_InvalidQuestion T).2.fn (ok_InvalidQuestion T G.1 G.2) (hr.mono (by decide)) (Tx.b_InvalidQuestion___init__ T) .nil pass0 rfl (Tx.e_InvalidQuestion T).1 (pa_cons (pv 1) pa_nil))) (pv 1) (nomark _)))) pa_nil)))
    (pss_cons (ps_expr (pe_bm PySem.F.plainAttrs_list PySem.F.slot_list_append PySem.F.type_list_append mt_append (pv 4) (pa_cons (pe_and (pe_call (ok__law_alone T G) (hr.mono (by decide)) rfl (Tx.g__law_alone T) (Tx.d__law_alone T).kp (Tx.b__law_alone T) .nil passN0 (pa_cons (pe_oex (Tx.e_InvalidPaper T).2.sup.oex (Tx.e_InvalidPaper T).2.init (Tx.e_InvalidPaper T).2.fn (ok_InvalidPaper T G.1 G.2) (hr.mono (by decide)) (Tx.b_InvalidPaper___init__ T) .nil pass0 rfl (Tx.e_InvalidPaper T).1 (pa_cons (pv 1) pa_nil)) (pa_cons pe_int pa_nil))) (pe_one (pe_cmpR op_eq (pe_xv (Tx.e_InvalidPaper T).2.xf (Tx.n_InvalidPaper T) (pe_oex (Tx.e_InvalidPaper T).2.sup.oex (Tx.e_InvalidPaper T).2.init (Tx.e_InvalidPaper T).2.fn (ok_InvalidPaper T G.1 G.2) (hr.mono (by decide)) (Tx.b_InvalidPaper___init__ T) .nil pass0 rfl (Tx.e_InvalidPaper T).1 (pa_cons (pv 1) pa_nil))) (pv 1) (nomark _)))) pa_nil)))
    (pss_cons (ps_expr (pe_bm PySem.F.plainAttrs_list PySem.F.slot_list_append PySem.F.type_list_append mt_append (pv 4) (pa_cons (pe_and (pe_call (ok__law_alone T G) (hr.mono (by decide)) rfl (Tx.g__law_alone T) (Tx.d__law_alone T).kp (Tx.b__law_alone T) .nil passN0 (pa_cons (pe_oex (Tx.e_TooLarge T).2.sup.oex (Tx.e_TooLarge T).2.init (Tx.e_TooLarge T).2.fn (ok_TooLarge T G.1 G.2) (hr.mono (by decide)) (Tx.b_TooLarge___init__ T) .nil pass0 rfl (Tx.e_TooLarge T).1 (pa_cons (pv 0) pa_nil)) (pa_cons pe_int pa_nil))) (pe_one (pe_cmpR op_eq (pe_xv (Tx.e_TooLarge T).2.xf (Tx.n_TooLarge T) (pe_oex (Tx.e_TooLarge T).2.sup.oex (Tx.e_TooLarge T).2.init (Tx.e_TooLarge T).2.fn (ok_TooLarge T G.1 G.2) (hr.mono (by decide)) (Tx.b_TooLarge___init__ T) .nil pass0 rfl (Tx.e_TooLarge T).1 (pa_cons (pv 0) pa_nil))) (pv 0) (nomark _)))) pa_nil)))
    (pss_cons (ps_expr (pe_bm PySem.F.plainAttrs_list PySem.F.slot_list_append PySem.F.type_list_append mt_append (pv 4) (pa_cons (pe_and (pe_call (ok__law_alone T G) (hr.mono (by decide)) rfl (Tx.g__law_alone T) (Tx.d__law_alone T).kp (Tx.b__law_alone T) .nil passN0 (pa_cons (pe_oex (Tx.e_Untold T).2.sup.oex (Tx.e_Untold T).2.init (Tx.e_Untold T).2.fn (ok_Untold T G.1 G.2) (hr.mono (by decide)) (Tx.b_Untold___init__ T) .nil pass0 rfl (Tx.e_Untold T).1 (pa_cons (pv 3) pa_nil)) (pa_cons pe_int pa_nil))) (pe_one (pe_cmpR (op_eqD hr.units) (pe_xv (Tx.e_Untold T).2.xf (Tx.n_Untold T) (pe_oex (Tx.e_Untold T).2.sup.oex (Tx.e_Untold T).2.init (Tx.e_Untold T).2.fn (ok_Untold T G.1 G.2) (hr.mono (by decide)) (Tx.b_Untold___init__ T) .nil pass0 rfl (Tx.e_Untold T).1 (pa_cons (pv 3) pa_nil))) (pv 3) (nomark _)))) pa_nil)))
    (pss_cons (ps_expr (pe_bm PySem.F.plainAttrs_list PySem.F.slot_list_append PySem.F.type_list_append mt_append (pv 4) (pa_cons (pe_and (pe_call (ok__law_alone T G) (hr.mono (by decide)) rfl (Tx.g__law_alone T) (Tx.d__law_alone T).kp (Tx.b__law_alone T) .nil passN0 (pa_cons (pe_oex (Tx.e_Misfit T).2.sup.oex (Tx.e_Misfit T).2.init (Tx.e_Misfit T).2.fn (ok_Misfit T G.1 G.2) (hr.mono (by decide)) (Tx.b_Misfit___init__ T) .nil pass0 rfl (Tx.e_Misfit T).1 (pa_cons (pv 2) pa_nil)) (pa_cons pe_int pa_nil))) (pe_one (pe_cmpR (op_eqSame hr.units) (pe_xv (Tx.e_Misfit T).2.xf (Tx.n_Misfit T) (pe_oex (Tx.e_Misfit T).2.sup.oex (Tx.e_Misfit T).2.init (Tx.e_Misfit T).2.fn (ok_Misfit T G.1 G.2) (hr.mono (by decide)) (Tx.b_Misfit___init__ T) .nil pass0 rfl (Tx.e_Misfit T).1 (pa_cons (pv 2) pa_nil))) (pv 2) (nomark _)))) pa_nil)))
    (pss_cons (ps_expr (pe_bm PySem.F.plainAttrs_list PySem.F.slot_list_append PySem.F.type_list_append mt_append (pv 4) (pa_cons (pe_and (pe_call (ok__law_alone T G) (hr.mono (by decide)) rfl (Tx.g__law_alone T) (Tx.d__law_alone T).kp (Tx.b__law_alone T) .nil passN0 (pa_cons (pe_oex (Tx.e_InvalidDeed T).2.sup.oex (Tx.e_InvalidDeed T).2.init (Tx.e_InvalidDeed T).2.fn (ok_InvalidDeed T G.1 G.2) (hr.mono (by decide)) (Tx.b_InvalidDeed___init__ T) .nil pass0 rfl (Tx.e_InvalidDeed T).1 (pa_cons (pv 1) pa_nil)) (pa_cons pe_int pa_nil))) (pe_one (pe_cmpR op_eq (pe_xv (Tx.e_InvalidDeed T).2.xf (Tx.n_InvalidDeed T) (pe_oex (Tx.e_InvalidDeed T).2.sup.oex (Tx.e_InvalidDeed T).2.init (Tx.e_InvalidDeed T).2.fn (ok_InvalidDeed T G.1 G.2) (hr.mono (by decide)) (Tx.b_InvalidDeed___init__ T) .nil pass0 rfl (Tx.e_InvalidDeed T).1 (pa_cons (pv 1) pa_nil))) (pv 1) (nomark _)))) pa_nil)))
    (pss_cons (ps_expr (pe_bm PySem.F.plainAttrs_list PySem.F.slot_list_append PySem.F.type_list_append mt_append (pv 4) (pa_cons (pe_and (pe_call (ok__law_alone T G) (hr.mono (by decide)) rfl (Tx.g__law_alone T) (Tx.d__law_alone T).kp (Tx.b__law_alone T) .nil passN0 (pa_cons (pe_oex (Tx.e_DeedRefused T).2.sup.oex (Tx.e_DeedRefused T).2.init (Tx.e_DeedRefused T).2.fn (ok_DeedRefused T G.1 G.2) (hr.mono (by decide)) (Tx.b_DeedRefused___init__ T) .nil pass0 rfl (Tx.e_DeedRefused T).1 (pa_cons (pv 0) pa_nil)) (pa_cons pe_int pa_nil))) (pe_one (pe_cmpR op_eq (pe_xv (Tx.e_DeedRefused T).2.xf (Tx.n_DeedRefused T) (pe_oex (Tx.e_DeedRefused T).2.sup.oex (Tx.e_DeedRefused T).2.init (Tx.e_DeedRefused T).2.fn (ok_DeedRefused T G.1 G.2) (hr.mono (by decide)) (Tx.b_DeedRefused___init__ T) .nil pass0 rfl (Tx.e_DeedRefused T).1 (pa_cons (pv 0) pa_nil))) (pv 0) (nomark _)))) pa_nil)))
    (pss_cons (ps_expr (pe_bm PySem.F.plainAttrs_list PySem.F.slot_list_append PySem.F.type_list_append mt_append (pv 4) (pa_cons (pe_and (pe_call (ok__law_alone T G) (hr.mono (by decide)) rfl (Tx.g__law_alone T) (Tx.d__law_alone T).kp (Tx.b__law_alone T) .nil passN0 (pa_cons (pe_oex (Tx.e_InvalidJournal T).2.sup.oex (Tx.e_InvalidJournal T).2.init (Tx.e_InvalidJournal T).2.fn (ok_InvalidJournal T G.1 G.2) (hr.mono (by decide)) (Tx.b_InvalidJournal___init__ T) .nil pass0 rfl (Tx.e_InvalidJournal T).1 (pa_cons (pe_op op_add (pv 0) pe_int) pa_nil)) (pa_cons pe_int pa_nil))) (pe_one (pe_cmpR op_eq (pe_xv (Tx.e_InvalidJournal T).2.xf (Tx.n_InvalidJournal T) (pe_oex (Tx.e_InvalidJournal T).2.sup.oex (Tx.e_InvalidJournal T).2.init (Tx.e_InvalidJournal T).2.fn (ok_InvalidJournal T G.1 G.2) (hr.mono (by decide)) (Tx.b_InvalidJournal___init__ T) .nil pass0 rfl (Tx.e_InvalidJournal T).1 (pa_cons (pe_op op_add (pv 0) pe_int) pa_nil))) (pe_op op_add (pv 0) pe_int) (nomark _)))) pa_nil)))
    (pss_cons (ps_expr (pe_bm PySem.F.plainAttrs_list PySem.F.slot_list_append PySem.F.type_list_append mt_append (pv 4) (pa_cons (pe_call (ok__law_alone T G) (hr.mono (by decide)) rfl (Tx.g__law_alone T) (Tx.d__law_alone T).kp (Tx.b__law_alone T) .nil passN0 (pa_cons (pe_oex0 (Tx.e_ZeroChance T).2.sup.oex (Tx.e_ZeroChance T).2.init (Tx.e_ZeroChance T).2.fn (ok_ZeroChance T G.1 G.2) (hr.mono (by decide)) (Tx.b_ZeroChance___init__ T) .nil pass0 rfl (Tx.e_ZeroChance T).1) (pa_cons pe_int pa_nil))) pa_nil)))
    (pss_one (ps_ret (pe_cmpR (op_eqD hr.units) (pv 4) (pe_lc (own := [("k", 5)]) (g := gName 5) (tt := tYes) rfl sc__law_errors_right.nd (pi_range1 rfl (Tx.f_range T) (pa_cons pe_int pa_nil)) (blkOk_by (N := ["number", "word", "made", "hedge", "row", "k"]) (sc := defScope s__law_errors_right) (by decide +kernel)) (fun _ _ _ _ _ => (pg_name (i := 5) sc__law_errors_right.nd rfl (Or.inl rfl))) (fun _ _ _ _ _ => pts_nil) (fun _ _ _ _ _ => pe_bl)) (nomark _))))))))))))))))))))), ?_⟩
  have la : ("a" : Str).length = 1 := by decide +kernel
  refine ⟨_, rfl, szn (by show 1 ≤ 1000; decide), fun t1 ht1 => ⟨_, rfl, _, rfl, _, _, rfl, rfl, szT (by omega), sz2, fun t2 ht2 => ⟨sz2, fun th hth => ?_⟩⟩⟩
  have ga1 := (Gr.refl H).upd (o := .tup [.str y]) ht1
  have ga2 := ga1.trans ((Gr.refl _).upd (o := .tup [.str y, .str (y ++ "a")]) ht2)
  have ga3 := ga2.trans ((Gr.refl _).upd (o := .tup [.ref t1, .ref t2]) hth)
  have e12 := ne_of_none (upd_same (H := H) (a := t1) (o := .tup [.str y])) ht2
  have h2 : upd (upd H t1 (.tup [.str y])) t2 (.tup [.str y, .str (y ++ "a")]) t2 = some (.tup [.str y, .str (y ++ "a")]) := upd_same
  have h1 : upd (upd H t1 (.tup [.str y])) t2 (.tup [.str y, .str (y ++ "a")]) t1 = some (.tup [.str y]) := by rw [upd_ne e12]; exact upd_same
  have h13 := ((Gr.refl _).upd (o := .tup [.ref t1, .ref t2]) hth) _ _ h1
  have h23 := ((Gr.refl _).upd (o := .tup [.ref t1, .ref t2]) hth) _ _ h2
  have h3 : upd (upd (upd H t1 (.tup [.str y])) t2 (.tup [.str y, .str (y ++ "a")])) th (.tup [.ref t1, .ref t2]) th = some (.tup [.ref t1, .ref t2]) := upd_same
  dsimp only [gName]
  show tSeq _ _ _ _ (upd (upd (upd H t1 (.tup [.str y])) t2 (.tup [.str y, .str (y ++ "a")])) th (.tup [.ref t1, .ref t2]))
  generalize upd (upd (upd H t1 (.tup [.str y])) t2 (.tup [.str y, .str (y ++ "a")])) th (.tup [.ref t1, .ref t2]) = H0 at ga3 h13 h23 h3 ⊢
  have okn : okTxt (.int n) := .inr ⟨n, rfl, Nat.lt_trans hn.log (by decide)⟩
  have okn1 : okTxt (.int (n + 1)) := .inr ⟨n + 1, rfl, Nat.lt_trans (sm.log (n := 65) (hn.add (sm.mono (n := 1) (by show (1 : Int).natAbs < 2; decide) (by decide)))) (by decide)⟩
  have oky : okTxt (.str y) := .inl ⟨y, rfl, by omega, cy⟩
  have hm0 : SqT K H0 tm ms := by
    rcases hm with (h | ⟨o, h⟩) | h
    · exact .inl (.inl (ga3 _ _ h))
    · exact .inl (.inr ⟨o, ga3 _ _ h⟩)
    · exact .inr h
  have sqg : ∀ H', Gr H0 H' → SqT K H' tm ms := fun H' g => by
    rcases hm0 with (h | ⟨o, h⟩) | h
    · exact .inl (.inl (g _ _ h))
    · exact .inl (.inr ⟨o, g _ _ h⟩)
    · exact .inr h
  have rS : ∀ H' Q', Q' (.bl true) H' → (rEq (.str y) (.str y) H' Q') := fun H' Q' q => ⟨rfl, by rw [decide_eq_true rfl]; exact q⟩
  have rI' : ∀ (m : Int) H' Q', Q' (.bl true) H' → (rEq (.int m) (.int m) H' Q') := fun m H' Q' q => ⟨rfl, by rw [decide_eq_true rfl]; exact q⟩
  have rH : ∀ H' Q', Gr H0 H' → Q' (.bl true) H' → (rEqD K (.ref th) (.ref th) H' Q') := fun H' Q' g q => by
    have dp : Dp K H' (.ref th) (.tuple [.tuple [.str y], .tuple [.str y, .str (y ++ "a")]]) := .tup (SqT.of (g _ _ h3)) (.cons (.tup (SqT.of (g _ _ h13)) (.cons (.str _) .nil)) (.cons (.tup (SqT.of (g _ _ h23)) (.cons (.str _) (.cons (.str _) .nil))) .nil))
    obtain ⟨s1, s2⟩ := hedge_dp y (y ++ "a") sy (strOk_app sy (by decide +kernel))
    refine ⟨_, _, dp, dp, s1, s1, ?_⟩
    rw [s2]
    exact q
  have gg0 := Gr.refl H0
  refine entryG (v := .int n) (i := 0) (by decide) rfl okn (fun H' Q' _ q => ⟨_, rfl, q⟩) (fun H' Q' _ q => rI' n H' Q' q) fun H1 g1 => ?_
  refine ⟨szn (by show 1 ≤ 1000; decide), fun rw' hrw => ?_⟩
  have hr0 : H0 rw' = none := by
    cases e : H0 rw' with
    | none => rfl
    | some o => rw [g1 _ _ e] at hrw; cases hrw
  have gg1 := gr_row (o := .lst [.bl true]) (gg0.trans g1) hr0
  have hh1 : upd H1 rw' (.lst [.bl true]) rw' = some (.lst ((List.replicate 1 true).map V.bl)) := upd_same
  refine ⟨_, rfl, .inl ⟨rfl, _, SqL.of hh1⟩, ?_⟩
  refine entryG (v := .str y) (i := 1) (by decide) rfl oky (fun H' Q' _ q => ⟨_, rfl, q⟩) (fun H' Q' _ q => rS H' Q' q) fun H2 g2 => ?_
  refine ⟨rw', _, _, rfl, rfl, g2 _ _ hh1, szT (by rw [List.length_map, List.length_replicate]; decide), ?_⟩
  have gg2 := gr_row (o := .lst ((List.replicate 1 true).map V.bl ++ [.bl true])) (gg1.trans g2) hr0
  have hh2 : upd H2 rw' (.lst ((List.replicate 1 true).map V.bl ++ [.bl true])) rw' = some (.lst ((List.replicate 2 true).map V.bl)) := by rw [snoc_rep]; exact upd_same
  refine ⟨_, rfl, .inl ⟨rfl, _, SqL.of hh2⟩, ?_⟩
  refine entryG (v := .str y) (i := 2) (by decide) rfl oky (fun H' Q' _ q => ⟨_, rfl, q⟩) (fun H' Q' _ q => rS H' Q' q) fun H3 g3 => ?_
  refine ⟨rw', _, _, rfl, rfl, g3 _ _ hh2, szT (by rw [List.length_map, List.length_replicate]; decide), ?_⟩
  have gg3 := gr_row (o := .lst ((List.replicate 2 true).map V.bl ++ [.bl true])) (gg2.trans g3) hr0
  have hh3 : upd H3 rw' (.lst ((List.replicate 2 true).map V.bl ++ [.bl true])) rw' = some (.lst ((List.replicate 3 true).map V.bl)) := by rw [snoc_rep]; exact upd_same
  refine ⟨_, rfl, .inl ⟨rfl, _, SqL.of hh3⟩, ?_⟩
  refine entryG (v := .str y) (i := 3) (by decide) rfl oky (fun H' Q' _ q => ⟨_, rfl, q⟩) (fun H' Q' _ q => rS H' Q' q) fun H4 g4 => ?_
  refine ⟨rw', _, _, rfl, rfl, g4 _ _ hh3, szT (by rw [List.length_map, List.length_replicate]; decide), ?_⟩
  have gg4 := gr_row (o := .lst ((List.replicate 3 true).map V.bl ++ [.bl true])) (gg3.trans g4) hr0
  have hh4 : upd H4 rw' (.lst ((List.replicate 3 true).map V.bl ++ [.bl true])) rw' = some (.lst ((List.replicate 4 true).map V.bl)) := by rw [snoc_rep]; exact upd_same
  refine ⟨_, rfl, .inl ⟨rfl, _, SqL.of hh4⟩, ?_⟩
  refine entryG (v := .str y) (i := 4) (by decide) rfl oky (fun H' Q' _ q => ⟨_, rfl, q⟩) (fun H' Q' _ q => rS H' Q' q) fun H5 g5 => ?_
  refine ⟨rw', _, _, rfl, rfl, g5 _ _ hh4, szT (by rw [List.length_map, List.length_replicate]; decide), ?_⟩
  have gg5 := gr_row (o := .lst ((List.replicate 4 true).map V.bl ++ [.bl true])) (gg4.trans g5) hr0
  have hh5 : upd H5 rw' (.lst ((List.replicate 4 true).map V.bl ++ [.bl true])) rw' = some (.lst ((List.replicate 5 true).map V.bl)) := by rw [snoc_rep]; exact upd_same
  refine ⟨_, rfl, .inl ⟨rfl, _, SqL.of hh5⟩, ?_⟩
  refine entryG (v := .str y) (i := 5) (by decide) rfl oky (fun H' Q' _ q => ⟨_, rfl, q⟩) (fun H' Q' _ q => rS H' Q' q) fun H6 g6 => ?_
  refine ⟨rw', _, _, rfl, rfl, g6 _ _ hh5, szT (by rw [List.length_map, List.length_replicate]; decide), ?_⟩
  have gg6 := gr_row (o := .lst ((List.replicate 5 true).map V.bl ++ [.bl true])) (gg5.trans g6) hr0
  have hh6 : upd H6 rw' (.lst ((List.replicate 5 true).map V.bl ++ [.bl true])) rw' = some (.lst ((List.replicate 6 true).map V.bl)) := by rw [snoc_rep]; exact upd_same
  refine ⟨_, rfl, .inl ⟨rfl, _, SqL.of hh6⟩, ?_⟩
  refine entryG (v := .str y) (i := 6) (by decide) rfl oky (fun H' Q' _ q => ⟨_, rfl, q⟩) (fun H' Q' _ q => rS H' Q' q) fun H7 g7 => ?_
  refine ⟨rw', _, _, rfl, rfl, g7 _ _ hh6, szT (by rw [List.length_map, List.length_replicate]; decide), ?_⟩
  have gg7 := gr_row (o := .lst ((List.replicate 6 true).map V.bl ++ [.bl true])) (gg6.trans g7) hr0
  have hh7 : upd H7 rw' (.lst ((List.replicate 6 true).map V.bl ++ [.bl true])) rw' = some (.lst ((List.replicate 7 true).map V.bl)) := by rw [snoc_rep]; exact upd_same
  refine ⟨_, rfl, .inl ⟨rfl, _, SqL.of hh7⟩, ?_⟩
  refine entryG (v := .str y) (i := 7) (by decide) rfl oky (fun H' Q' _ q => ⟨_, rfl, q⟩) (fun H' Q' _ q => rS H' Q' q) fun H8 g8 => ?_
  refine ⟨rw', _, _, rfl, rfl, g8 _ _ hh7, szT (by rw [List.length_map, List.length_replicate]; decide), ?_⟩
  have gg8 := gr_row (o := .lst ((List.replicate 7 true).map V.bl ++ [.bl true])) (gg7.trans g8) hr0
  have hh8 : upd H8 rw' (.lst ((List.replicate 7 true).map V.bl ++ [.bl true])) rw' = some (.lst ((List.replicate 8 true).map V.bl)) := by rw [snoc_rep]; exact upd_same
  refine ⟨_, rfl, .inl ⟨rfl, _, SqL.of hh8⟩, ?_⟩
  refine entryG (v := .str y) (i := 8) (by decide) rfl oky (fun H' Q' _ q => ⟨_, rfl, q⟩) (fun H' Q' _ q => rS H' Q' q) fun H9 g9 => ?_
  refine ⟨rw', _, _, rfl, rfl, g9 _ _ hh8, szT (by rw [List.length_map, List.length_replicate]; decide), ?_⟩
  have gg9 := gr_row (o := .lst ((List.replicate 8 true).map V.bl ++ [.bl true])) (gg8.trans g9) hr0
  have hh9 : upd H9 rw' (.lst ((List.replicate 8 true).map V.bl ++ [.bl true])) rw' = some (.lst ((List.replicate 9 true).map V.bl)) := by rw [snoc_rep]; exact upd_same
  refine ⟨_, rfl, .inl ⟨rfl, _, SqL.of hh9⟩, ?_⟩
  refine entryG (v := .int n) (i := 9) (by decide) rfl okn (fun H' Q' _ q => ⟨_, rfl, q⟩) (fun H' Q' _ q => rI' n H' Q' q) fun H10 g10 => ?_
  refine ⟨rw', _, _, rfl, rfl, g10 _ _ hh9, szT (by rw [List.length_map, List.length_replicate]; decide), ?_⟩
  have gg10 := gr_row (o := .lst ((List.replicate 9 true).map V.bl ++ [.bl true])) (gg9.trans g10) hr0
  have hh10 : upd H10 rw' (.lst ((List.replicate 9 true).map V.bl ++ [.bl true])) rw' = some (.lst ((List.replicate 10 true).map V.bl)) := by rw [snoc_rep]; exact upd_same
  refine ⟨_, rfl, .inl ⟨rfl, _, SqL.of hh10⟩, ?_⟩
  refine entryG (v := .ref th) (i := 10) (by decide) rfl trivial (fun H' Q' _ q => ⟨_, rfl, q⟩) (fun H' Q' g q => rH H' Q' (gg10.trans g) q) fun H11 g11 => ?_
  refine ⟨rw', _, _, rfl, rfl, g11 _ _ hh10, szT (by rw [List.length_map, List.length_replicate]; decide), ?_⟩
  have gg11 := gr_row (o := .lst ((List.replicate 10 true).map V.bl ++ [.bl true])) (gg10.trans g11) hr0
  have hh11 : upd H11 rw' (.lst ((List.replicate 10 true).map V.bl ++ [.bl true])) rw' = some (.lst ((List.replicate 11 true).map V.bl)) := by rw [snoc_rep]; exact upd_same
  refine ⟨_, rfl, .inl ⟨rfl, _, SqL.of hh11⟩, ?_⟩
  refine entryG (v := .ref tm) (i := 11) (by decide) rfl trivial (fun H' Q' _ q => ⟨_, rfl, q⟩) (fun H' Q' g q => ⟨tm, ms, rfl, rfl, sqg H' (gg11.trans g), q⟩) fun H12 g12 => ?_
  refine ⟨rw', _, _, rfl, rfl, g12 _ _ hh11, szT (by rw [List.length_map, List.length_replicate]; decide), ?_⟩
  have gg12 := gr_row (o := .lst ((List.replicate 11 true).map V.bl ++ [.bl true])) (gg11.trans g12) hr0
  have hh12 : upd H12 rw' (.lst ((List.replicate 11 true).map V.bl ++ [.bl true])) rw' = some (.lst ((List.replicate 12 true).map V.bl)) := by rw [snoc_rep]; exact upd_same
  refine ⟨_, rfl, .inl ⟨rfl, _, SqL.of hh12⟩, ?_⟩
  refine entryG (v := .str y) (i := 12) (by decide) rfl oky (fun H' Q' _ q => ⟨_, rfl, q⟩) (fun H' Q' _ q => rS H' Q' q) fun H13 g13 => ?_
  refine ⟨rw', _, _, rfl, rfl, g13 _ _ hh12, szT (by rw [List.length_map, List.length_replicate]; decide), ?_⟩
  have gg13 := gr_row (o := .lst ((List.replicate 12 true).map V.bl ++ [.bl true])) (gg12.trans g13) hr0
  have hh13 : upd H13 rw' (.lst ((List.replicate 12 true).map V.bl ++ [.bl true])) rw' = some (.lst ((List.replicate 13 true).map V.bl)) := by rw [snoc_rep]; exact upd_same
  refine ⟨_, rfl, .inl ⟨rfl, _, SqL.of hh13⟩, ?_⟩
  refine entryG (v := .int n) (i := 13) (by decide) rfl okn (fun H' Q' _ q => ⟨_, rfl, q⟩) (fun H' Q' _ q => rI' n H' Q' q) fun H14 g14 => ?_
  refine ⟨rw', _, _, rfl, rfl, g14 _ _ hh13, szT (by rw [List.length_map, List.length_replicate]; decide), ?_⟩
  have gg14 := gr_row (o := .lst ((List.replicate 13 true).map V.bl ++ [.bl true])) (gg13.trans g14) hr0
  have hh14 : upd H14 rw' (.lst ((List.replicate 13 true).map V.bl ++ [.bl true])) rw' = some (.lst ((List.replicate 14 true).map V.bl)) := by rw [snoc_rep]; exact upd_same
  refine ⟨_, rfl, .inl ⟨rfl, _, SqL.of hh14⟩, ?_⟩
  refine entryG (v := .int (n + 1)) (i := 14) (by decide) rfl okn1 (fun H' Q' _ q => ⟨_, rfl, _, _, rfl, rfl, q⟩) (fun H' Q' _ q => rI' (n + 1) H' Q' q) fun H15 g15 => ?_
  refine ⟨rw', _, _, rfl, rfl, g15 _ _ hh14, szT (by rw [List.length_map, List.length_replicate]; decide), ?_⟩
  have gg15 := gr_row (o := .lst ((List.replicate 14 true).map V.bl ++ [.bl true])) (gg14.trans g15) hr0
  have hh15 : upd H15 rw' (.lst ((List.replicate 14 true).map V.bl ++ [.bl true])) rw' = some (.lst ((List.replicate 15 true).map V.bl)) := by rw [snoc_rep]; exact upd_same
  refine ⟨_, rfl, .inl ⟨rfl, _, SqL.of hh15⟩, ?_⟩
  refine entry0 (x := "ZeroChance") (i := 15) (by decide) rfl fun H16 g16 => ?_
  refine ⟨rw', _, _, rfl, rfl, g16 _ _ hh15, szT (by rw [List.length_map, List.length_replicate]; decide), ?_⟩
  have gg16 := gr_row (o := .lst ((List.replicate 15 true).map V.bl ++ [.bl true])) (gg15.trans g16) hr0
  have hh16 : upd H16 rw' (.lst ((List.replicate 15 true).map V.bl ++ [.bl true])) rw' = some (.lst ((List.replicate 16 true).map V.bl)) := by rw [snoc_rep]; exact upd_same
  refine ⟨_, rfl, 16, rfl, by decide, by decide, fun D hD => lc_it walk_range (fun j H' => H' D = some (.lst ((List.replicate j true).map V.bl)) ∧ Gr (upd H16 rw' (.lst ((List.replicate 15 true).map V.bl ++ [.bl true]))) H') ?_ ?_ ?_ ?_⟩
  · exact ⟨upd_same, (Gr.refl _).upd hD⟩
  · exact fun _ _ _ _ => trivial
  · rintro j z Ha Hb hj ⟨k1, k2⟩ ⟨rfl, rfl⟩
    have hj16 : j < 16 := hj
    refine ⟨rfl, _, k1, ?_, ?_, gr_row k2 hD⟩
    · rw [List.length_map, List.length_replicate, sizeLine_eq]
      omega
    · rw [snoc_rep]
      exact upd_same
  · rintro Ha ⟨k1, k2⟩
    obtain ⟨s1, s2⟩ := row_dp
    refine ⟨_, _, .lst (SqL.of (k2 _ _ hh16)) (dpBools _), .lst (SqL.of k1) (dpBools _), s1, s1, ?_⟩
    have s3 : PyData.eqv (.list ((List.replicate 16 true).map PyData.bool)) (.list ((List.replicate (Int.toNat 16) true).map PyData.bool)) = true := s2
    rw [s3]
    exact R Ha (ga3.trans (gg16.trans k2))
end
end K00
namespace K00
open PySem PySem.Spec PyProof.Rows L2 L2.LX
open PySem.W (Frag)
theorem Mds.push {K : Frag} {b ml dl : Addr} {H H' : Hp} {as ts : List Addr} {qs : List Rat} {x t : Addr} {q : Rat} (m : Mds K b ml dl H as ts qs) (hb : Bx b H) (k : ∀ a o, a ≠ b → a ≠ ml → a ≠ dl → H a = some o → H' a = some o)
    (hm : H' ml = some (.lst ((as ++ [x]).map V.ref))) (hd : H' dl = some (.lst ((ts ++ [t]).map V.ref))) (rx : RA (ga K "Ratio") H' x q) (tt : TA H' t q.num q.den) (sq : rsm 133 q) : Mds K b ml dl H' (as ++ [x]) (ts ++ [t]) (qs ++ [q]) := by
  obtain ⟨c0, c1, c2, c3, r, eb, _⟩ := hb
  refine ⟨hm, hd, by simp [m.la], by simp [m.lt], m.mb, m.db, fun i p hp => ?_⟩
  by_cases hi : i < qs.length
  · rw [List.getElem?_append_left hi] at hp
    obtain ⟨h1, h2, h3⟩ := m.each i p hp
    refine ⟨h1, fun a ha => ?_, fun u hu => ?_⟩
    · rw [List.getElem?_append_left (by rw [m.la]; exact hi)] at ha
      obtain ⟨dx, h⟩ := h2 a ha
      exact ⟨dx, k a _ (ne_of h eb (by intro z; cases z)) (ne_of h m.md (by intro z; cases z)) (ne_of h m.du (by intro z; cases z)) h⟩
    · rw [List.getElem?_append_left (by rw [m.lt]; exact hi)] at hu
      have h := h3 u hu
      exact k u _ (ne_of h eb (by intro z; cases z)) (ne_of h m.md (by intro z; cases z)) (ne_of h m.du (by intro z; cases z)) h
  · have hi2 : i = qs.length := by
      have := (List.getElem?_eq_some_iff.mp hp).1
      rw [List.length_append] at this
      simp only [List.length_cons, List.length_nil] at this
      omega
    subst hi2
    rw [List.getElem?_append_right (Nat.le_refl _), Nat.sub_self] at hp
    cases hp
    refine ⟨sq, fun a ha => ?_, fun u hu => ?_⟩
    · rw [List.getElem?_append_right (by rw [m.la]; exact Nat.le_refl _), m.la, Nat.sub_self] at ha
      cases ha
      exact rx
    · rw [List.getElem?_append_right (by rw [m.lt]; exact Nat.le_refl _), m.lt, Nat.sub_self] at hu
      cases hu
      exact tt
theorem Mds.dues {K : Frag} {b ml dl : Addr} {H : Hp} {as ts : List Addr} {qs : List Rat} (m : Mds K b ml dl H as ts qs) : Dues b dl H ts (qs.map fun q => (q.num, (q.den : Int))) :=
  ⟨m.du, by rw [List.length_map, m.lt], fun i t p h1 h2 => by
    rw [List.getElem?_map] at h2
    obtain ⟨q, hq, rfl⟩ := Option.map_eq_some_iff.mp h2
    exact ⟨(m.each i q hq).2.2 t h1, by have := q.den_pos; show (0 : Int) < (q.den : Int); omega⟩⟩
theorem len5 : ∀ n : Fin 6, SeqAt.shaped (.list ((List.replicate n.1 true).map PyData.bool)) = true ∧ PyData.eqv (.list ((List.replicate n.1 true).map PyData.bool)) (.list ((List.replicate n.1 true).map PyData.bool)) = true := by decide +kernel
section
variable {P : Program} {w : World} {K : Frag} {mg : Str → Option Value} {base : Heap}
theorem ok__law_run_right (T : Tx K mg) (G : Pg P) : FnOk P w K mg base (L2N.CX P w) 14 (a__law_run_right K) (fdOf K (a__law_run_right K)) ["box", "made", "dues"] (spRun K) := ok_run0 T G fun T G => ok__law_read_right T G
def spLaw (K : Frag) : Sp := fun vs H Q _ => ∃ (a : Addr) (xs : List Int), vs = [.ref a] ∧ SqL K H a (xs.map V.int) ∧ xs.length ≤ 1000 ∧ ∀ H', Q (.bl true) H'
theorem ok_law (T : Tx K mg) (G : Pg P) : FnOk P w K mg base (L2N.CX P w) 16 (a_law K) (fdOf K (a_law K)) ["script"] (spLaw K) := by
  refine (T.d_law).ok sc_law (fun vs H Q E h => ?_) (fun cdv A outer s H vs Q E hr h => ?_)
  · obtain ⟨a, xs, rfl, _⟩ := h
    rfl
  obtain ⟨a, xs, rfl, ha, hx, R⟩ := h
  refine ⟨_, (pss_cons (ps_set (i := 1) sc_law.nd rfl (Or.inl rfl) (pe_call (ok__law_box T G) (hr.mono (by decide)) rfl (Tx.g__law_box T) (Tx.d__law_box T).kp (Tx.b__law_box T) .nil passN0 (pa_cons (pv 0) pa_nil)))
    (pss_cons (ps_set (i := 2) sc_law.nd rfl (Or.inr rfl) (pe_lst pa_nil))
    (pss_cons (ps_set (i := 3) sc_law.nd rfl (Or.inr rfl) (pe_lst pa_nil))
    (pss_cons (ps_for (passes_of rfl) rfl (pi_range1 rfl (Tx.f_range T) (pa_cons (pe_op op_add pe_int (pe_call (ok__law_take T G) (hr.mono (by decide)) rfl (Tx.g__law_take T) (Tx.d__law_take T).kp (Tx.b__law_take T) .nil passN0 (pa_cons (pv 1) (pa_cons pe_int pa_nil)))) pa_nil)) (pg_name (i := 4) sc_law.nd rfl (Or.inl rfl))
    (pss_cons (ps_set (i := 5) sc_law.nd rfl (Or.inl rfl) (pe_call (ok__law_pair T G) (hr.mono (by decide)) rfl (Tx.g__law_pair T) (Tx.d__law_pair T).kp (Tx.b__law_pair T) .nil passN0 (pa_cons (pv 1) (pa_cons (pv 3) pa_nil))))
    (pss_cons (ps_expr (pe_bm PySem.F.plainAttrs_list PySem.F.slot_list_append PySem.F.type_list_append mt_append (pv 2) (pa_cons (pe_call (ok__law_made T G) (hr.mono (by decide)) rfl (Tx.g__law_made T) (Tx.d__law_made T).kp (Tx.b__law_made T) .nil passN0 (pa_cons (pv 1) (pa_cons (pv 5) pa_nil))) pa_nil)))
    (pss_cons (ps_expr (pe_bm PySem.F.plainAttrs_list PySem.F.slot_list_append PySem.F.type_list_append mt_append (pv 3) (pa_cons (pe_call (ok__law_lowest T G) (hr.mono (by decide)) rfl (Tx.g__law_lowest T) (Tx.d__law_lowest T).kp (Tx.b__law_lowest T) .nil passN0 (pa_cons (pe_ix ix_tup (pv 5) pe_int (fun _ _ => rfl)) (pa_cons (pe_ix ix_tup (pv 5) pe_int (fun _ _ => rfl)) pa_nil))) pa_nil)))
    (pss_one (ps_if (PW.pt (pw_or (pt_not (pt_val (pe_call (ok__law_is T G) (hr.mono (by decide)) rfl (Tx.g__law_is T) (Tx.d__law_is T).kp (Tx.b__law_is T) .nil passN0 (pa_cons (pe_ix ix_list (pv 2) (pv 4) (fun _ _ => rfl)) (pa_cons (pe_ix ix_list (pv 3) (pv 4) (fun _ _ => rfl)) pa_nil))))) (pw_or1 (pt_not (pt_val (pe_call (ok__law_zero_refused T G) (hr.mono (by decide)) rfl (Tx.g__law_zero_refused T) (Tx.d__law_zero_refused T).kp (Tx.b__law_zero_refused T) .nil passN0 (pa_cons (pe_ix ix_tup (pv 5) pe_int (fun _ _ => rfl)) pa_nil))))))) (pss_one (ps_ret pe_bl))
    pss_nil))))))
    (pss_cons (ps_for (passes_of rfl) rfl (pi_range1 rfl (Tx.f_range T) (pa_cons (pe_callB call_len_seq (by rfl) (Tx.f_len T) (by decide +kernel) (pa_cons (pv 2) pa_nil)) pa_nil)) (pg_name (i := 4) sc_law.nd rfl (Or.inl rfl))
    (pss_cons (ps_for (passes_of rfl) rfl (pi_range1 rfl (Tx.f_range T) (pa_cons (pe_callB call_len_seq (by rfl) (Tx.f_len T) (by decide +kernel) (pa_cons (pv 2) pa_nil)) pa_nil)) (pg_name (i := 6) sc_law.nd rfl (Or.inl rfl))
    (pss_one (ps_if (pt_not (pt_val (pe_call (ok__law_pair_right T G) (hr.mono (by decide)) rfl (Tx.g__law_pair_right T) (Tx.d__law_pair_right T).kp (Tx.b__law_pair_right T) .nil passN0 (pa_cons (pe_ix ix_list (pv 2) (pv 4) (fun _ _ => rfl)) (pa_cons (pe_ix ix_list (pv 2) (pv 6) (fun _ _ => rfl)) (pa_cons (pe_ix ix_list (pv 3) (pv 4) (fun _ _ => rfl)) (pa_cons (pe_ix ix_list (pv 3) (pv 6) (fun _ _ => rfl)) pa_nil))))))) (pss_one (ps_ret pe_bl))
    pss_nil)))
    (pss_one (ps_if (pt_not (pt_val (pe_call (ok__law_one_right T G) (hr.mono (by decide)) rfl (Tx.g__law_one_right T) (Tx.d__law_one_right T).kp (Tx.b__law_one_right T) .nil passN0 (pa_cons (pe_ix ix_list (pv 2) (pv 4) (fun _ _ => rfl)) (pa_cons (pe_ix ix_list (pv 3) (pv 4) (fun _ _ => rfl)) pa_nil))))) (pss_one (ps_ret pe_bl))
    pss_nil))))
    (pss_cons (ps_if (pt_not (pt_val (pe_call (ok__law_run_right T G) (hr.mono (by decide)) rfl (Tx.g__law_run_right T) (Tx.d__law_run_right T).kp (Tx.b__law_run_right T) .nil passN0 (pa_cons (pv 1) (pa_cons (pv 2) (pa_cons (pv 3) pa_nil)))))) (pss_one (ps_ret pe_bl))
    pss_nil)
    (pss_cons (ps_for (passes_of rfl) rfl (pi_list (pe_call (ok__law_texts T G) (hr.mono (by decide)) rfl (Tx.g__law_texts T) (Tx.d__law_texts T).kp (Tx.b__law_texts T) .nil passN0 (pa_cons (pv 1) (pa_cons (pv 3) pa_nil)))) (pg_name (i := 7) sc_law.nd rfl (Or.inl rfl))
    (pss_one (ps_if (pt_not (pt_val (pe_call (ok__law_read_right T G) (hr.mono (by decide)) rfl (Tx.g__law_read_right T) (Tx.d__law_read_right T).kp (Tx.b__law_read_right T) .nil passN0 (pa_cons (pv 7) pa_nil)))) (pss_one (ps_ret pe_bl))
    pss_nil)))
    (pss_cons (ps_set (i := 8) sc_law.nd rfl (Or.inl rfl) (pe_op op_add_str (pe_ix ix_str pe_str (pe_call (ok__law_take T G) (hr.mono (by decide)) rfl (Tx.g__law_take T) (Tx.d__law_take T).kp (Tx.b__law_take T) .nil passN0 (pa_cons (pv 1) (pa_cons pe_int pa_nil))) (fun _ _ => rfl)) (pe_callTy call_str_int (by rfl) (Tx.f_str T) (by decide +kernel) (pa_cons (pe_call (ok__law_take T G) (hr.mono (by decide)) rfl (Tx.g__law_take T) (Tx.d__law_take T).kp (Tx.b__law_take T) .nil passN0 (pa_cons (pv 1) (pa_cons pe_int pa_nil))) pa_nil))))
    (pss_cons (ps_if (pt_not (pt_val (pe_call (ok__law_errors_right T G) (hr.mono (by decide)) rfl (Tx.g__law_errors_right T) (Tx.d__law_errors_right T).kp (Tx.b__law_errors_right T) .nil passN0 (pa_cons (pe_call (ok__law_take T G) (hr.mono (by decide)) rfl (Tx.g__law_take T) (Tx.d__law_take T).kp (Tx.b__law_take T) .nil passN0 (pa_cons (pv 1) (pa_cons (pe_op op_pow pe_int pe_int) pa_nil))) (pa_cons (pv 8) (pa_cons (pe_callTy call_tuple_of (by rfl) (Tx.f_tuple T) (by decide +kernel) (pa_cons (pv 2) pa_nil)) pa_nil)))))) (pss_one (ps_ret pe_bl))
    pss_nil)
    (pss_one (ps_ret (pe_cmpR (op_eqD hr.units) (pe_lc (own := [("k", 4)]) (g := gName 4) (tt := tYes) rfl sc_law.nd (pi_range1 rfl (Tx.f_range T) (pa_cons (pe_callB call_len_seq (by rfl) (Tx.f_len T) (by decide +kernel) (pa_cons (pv 2) pa_nil)) pa_nil)) (blkOk_by (N := ["script", "box", "made", "dues", "k", "pair", "j", "text", "word", "due"]) (sc := defScope s_law) (by decide +kernel)) (fun _ _ _ _ _ => (pg_name (i := 4) sc_law.nd rfl (Or.inl rfl))) (fun _ _ _ _ _ => pts_nil) (fun _ _ _ _ _ => (pe_call (ok__law_is T G) (hr.mono (by decide)) rfl (Tx.g__law_is T) (Tx.d__law_is T).kp (Tx.b__law_is T) .nil passN0 (pa_cons (pe_ix (ix_listS (K := K) rfl) (pv 2) (pv 4) (fun _ _ => rfl)) (pa_cons (pe_ix (ix_listS (K := K) rfl) (pv 3) (pv 4) (fun _ _ => rfl)) pa_nil))))) (pe_lc (own := [("due", 9)]) (g := gName 9) (tt := tYes) rfl sc_law.nd (pi_list (pv 3)) (blkOk_by (N := ["script", "box", "made", "dues", "k", "pair", "j", "text", "word", "due"]) (sc := defScope s_law) (by decide +kernel)) (fun _ _ _ _ _ => (pg_name (i := 9) sc_law.nd rfl (Or.inl rfl))) (fun _ _ _ _ _ => pts_nil) (fun _ _ _ _ _ => pe_bl)) (nomark _))))))))))))), ?_⟩
  refine ⟨_, rfl, a, xs, rfl, ha, hx, fun b H1 g1 hbn b1 => ?_⟩
  refine ⟨szn (by show 0 ≤ 1000; decide), fun ml hml => ⟨szn (by show 0 ≤ 1000; decide), fun dl hdl => ?_⟩⟩
  have g2 := (Gr.refl H1).upd (o := .lst []) hml
  have g3 := g2.trans ((Gr.refl _).upd (o := .lst []) hdl)
  have e12 : ml ≠ dl := ne_of_none upd_same hdl
  have b3 := b1.gr g3
  have m3 : Mds K b ml dl (upd (upd H1 ml (.lst [])) dl (.lst [])) [] [] [] := ⟨by rw [upd_ne e12]; exact upd_same, upd_same, rfl, rfl, b1.some hml, (b1.gr g2).some hdl, fun i q hq => by cases hq⟩
  dsimp only [gName]
  show tSeq _ _ _ _ (upd (upd H1 ml (.lst [])) dl (.lst []))
  generalize upd (upd H1 ml (.lst [])) dl (.lst []) = H3 at b3 m3 ⊢
  refine seqP (fun σ' H' => ∃ (as ts : List Addr) (qs : List Rat) (s4 s5 : Option V), σ' = ([some (.ref a), some (.ref b), some (.ref ml), some (.ref dl), s4, s5, none, none, none, none] : List (Option V)) ∧ Bx b H' ∧ Mds K b ml dl H' as ts qs ∧ 0 < qs.length ∧ qs.length ≤ 5) (fun kk => ?_) ?_
  · refine ⟨_, rfl, b, _, rfl, b3, by decide, by decide, fun r H4 k4 b4 r0 r1 => ⟨_, _, rfl, rfl, 2 + r, rfl, by omega, by omega, ?_⟩⟩
    refine for_range (n := (2 + r).toNat) (fun i σ' H' => ∃ (as ts : List Addr) (qs : List Rat) (s4 s5 : Option V), σ' = ([some (.ref a), some (.ref b), some (.ref ml), some (.ref dl), s4, s5, none, none, none, none] : List (Option V)) ∧ Bx b H' ∧ Mds K b ml dl H' as ts qs ∧ qs.length = i) ?_ ?_ ?_
    · exact ⟨[], [], [], none, none, rfl, b4, m3.kp k4 b3, rfl⟩
    · rintro i _ H5 hi ⟨as, ts, qs, s4, s5, rfl, b5, m5, hl⟩
      have i5 : i < 5 := by omega
      refine ⟨_, rfl, _, rfl, b, dl, ts, _, rfl, b5, m5.dues, m5.db, by rw [List.length_map]; omega, fun u H6 n d k6 b6 tu gp => ?_⟩
      have m6 := m5.kp k6 b5
      refine ⟨_, rfl, .inl ⟨rfl, _, SqL.of m6.md⟩, _, rfl, _, rfl, b, u, n, d, rfl, b6, tu, gp, fun x H7 k7 b7 rx => ?_⟩
      have m7 := m6.kp k7 b6
      have tu7 := k7.ta b6 tu
      have la : (as.map V.ref).length = i := by rw [List.length_map, m5.la, hl]
      have lt : (ts.map V.ref).length = i := by rw [List.length_map, m5.lt, hl]
      refine ⟨ml, _, _, rfl, rfl, m7.md, szT (by omega), ?_⟩
      have mle : ml ≠ dl := e12
      have d8 : upd H7 ml (.lst (as.map V.ref ++ [.ref x])) dl = some (.lst (ts.map V.ref)) := by rw [upd_ne (Ne.symm mle)]; exact m7.du
      have u8 : TA (upd H7 ml (.lst (as.map V.ref ++ [.ref x]))) u n d := by
        show upd H7 ml _ u = _
        rw [upd_ne (ne_of tu7 m7.md (by intro z; cases z))]
        exact tu7
      refine ⟨_, rfl, .inl ⟨rfl, _, SqL.of d8⟩, _, rfl, _, _, _, _, rfl, rfl, SqT.of u8, ix0, _, rfl, _, _, _, _, rfl, rfl, SqT.of u8, ix1, n, d, rfl, gp.d0, gp.sm.2, fun t H9 g9 htn tt => ?_⟩
      refine ⟨dl, _, _, rfl, rfl, g9 _ _ d8, szT (by omega), ?_⟩
      have sq : rsm 133 (Rat.divInt n d) := rsm.divInt gp.s133.1 gp.s133.2 gp.d0
      obtain ⟨dx, hx'⟩ := id rx
      have hxml : x ≠ ml := ne_of hx' m7.md (by intro z; cases z)
      have hxdl : x ≠ dl := ne_of hx' m7.du (by intro z; cases z)
      have keep : ∀ z o, z ≠ b → z ≠ ml → z ≠ dl → H7 z = some o → upd H9 dl (.lst (ts.map V.ref ++ [.ref t])) z = some o := fun z o _ h2 h3 e => by
        rw [upd_ne h3]
        exact g9 _ _ (by rw [upd_ne h2]; exact e)
      have hxb : x ≠ b := by
        obtain ⟨_, _, _, _, _, e, _⟩ := b7
        exact ne_of hx' e (by intro z; cases z)
      have htdl : t ≠ dl := fun e => by rw [e, d8] at htn; cases htn
      have m10 : Mds K b ml dl (upd H9 dl (.lst (ts.map V.ref ++ [.ref t]))) (as ++ [x]) (ts ++ [t]) (qs ++ [Rat.divInt n d]) := by
        refine m7.push b7 keep ?_ ?_ ⟨dx, keep x _ hxb hxml hxdl hx'⟩ ?_ sq
        · rw [upd_ne mle, List.map_append]
          exact g9 _ _ upd_same
        · rw [List.map_append]
          exact upd_same
        · show upd H9 dl _ t = _
          rw [upd_ne htdl]
          exact tt
      have b10 : Bx b (upd H9 dl (.lst (ts.map V.ref ++ [.ref t]))) := ((b7.ne m7.mb).gr g9).ne m7.db
      have u10 : TA (upd H9 dl (.lst (ts.map V.ref ++ [.ref t]))) u n d := by
        show upd H9 dl _ u = _
        rw [upd_ne (ne_of tu7 m7.du (by intro z; cases z))]
        exact g9 _ _ u8
      dsimp only
      generalize upd H9 dl (.lst (ts.map V.ref ++ [.ref t])) = H10 at m10 b10 u10 ⊢
      obtain ⟨x', t', q', ea, et, rx', tt', _, _⟩ := m10.get (r := 0 + (i : Int)) (by omega) (by rw [List.length_append, m5.la, hl]; show 0 + (i : Int) < ((i + 1 : Nat) : Int); omega)
      refine ⟨_, rfl, _, rfl, _, _, _, _, rfl, rfl, SqL.of m10.md, ea, _, rfl, _, rfl, _, _, _, _, rfl, rfl, SqL.of m10.du, et, x', t', q', _, _, rfl, rx', tt', rfl, rfl, fun H11 g11 => ⟨_, rfl, iF rfl ?_⟩⟩
      have u11 := g11 _ _ u10
      refine ⟨_, rfl, _, _, _, _, rfl, rfl, SqT.of u11, ix0, n, rfl, gp.sm.1, fun H12 g12 => ⟨_, rfl, iF rfl (nxt ?_)⟩⟩
      exact ⟨_, _, _, _, _, rfl, b10.gr (g11.trans g12), m10.gr (g11.trans g12), by rw [List.length_append, hl]; rfl⟩
    · rintro _ H5 ⟨as, ts, qs, s4, s5, rfl, b5, m5, hl⟩
      exact kk _ _ ⟨as, ts, qs, s4, s5, rfl, b5, m5, by omega, by omega⟩
  rintro _ H4 ⟨as, ts, qs, s4, s5, rfl, b4, m4, hq0, hq5⟩
  have la : (as.map V.ref).length = qs.length := by rw [List.length_map, m4.la]
  have ltl : (ts.map V.ref).length = qs.length := by rw [List.length_map, m4.lt]
  have gt : ∀ H', Gr H4 H' → ∀ k : Nat, k < qs.length → ∃ (x t : Addr) (q : Rat), atI (as.map V.ref) (0 + (k : Int)) = some (.ref x) ∧ atI (ts.map V.ref) (0 + (k : Int)) = some (.ref t) ∧ RA (ga K "Ratio") H' x q ∧ TA H' t q.num q.den ∧ rsm 133 q := fun H' g k hk => by
    obtain ⟨x, t, q, e1, e2, h1, h2, h3, _⟩ := (m4.gr g).get (r := 0 + (k : Int)) (by omega) (by rw [m4.la]; omega)
    exact ⟨x, t, q, e1, e2, h1, h2, h3⟩
  refine seqP (fun σ' H' => ∃ s4 s6 : Option V, σ' = ([some (.ref a), some (.ref b), some (.ref ml), some (.ref dl), s4, s5, s6, none, none, none] : List (Option V)) ∧ Gr H4 H') (fun kk => ?_) ?_
  · refine ⟨_, rfl, _, _, rfl, .inl (SqL.of m4.md), _, rfl, by omega, by omega, ?_⟩
    refine for_range (n := ((as.map V.ref).length : Int).toNat) (fun i σ' H' => ∃ s4 s6 : Option V, σ' = ([some (.ref a), some (.ref b), some (.ref ml), some (.ref dl), s4, s5, s6, none, none, none] : List (Option V)) ∧ Gr H4 H') ?_ ?_ ?_
    · exact ⟨s4, none, rfl, Gr.refl _⟩
    · rintro k _ H5 hk ⟨s4, s6, rfl, g5⟩
      have hk2 : k < qs.length := by rw [la] at hk; omega
      refine seqP (fun σ' H' => ∃ s6 : Option V, σ' = ([some (.ref a), some (.ref b), some (.ref ml), some (.ref dl), some (.int (0 + (k : Int))), s5, s6, none, none, none] : List (Option V)) ∧ Gr H4 H') (fun kk2 => ?_) ?_
      · refine ⟨_, rfl, _, _, rfl, .inl (SqL.of (g5 _ _ m4.md)), _, rfl, by omega, by omega, ?_⟩
        refine for_range (n := ((as.map V.ref).length : Int).toNat) (fun i σ' H' => ∃ s6 : Option V, σ' = ([some (.ref a), some (.ref b), some (.ref ml), some (.ref dl), some (.int (0 + (k : Int))), s5, s6, none, none, none] : List (Option V)) ∧ Gr H4 H') ?_ ?_ ?_
        · exact ⟨s6, rfl, g5⟩
        · rintro j _ H6 hj ⟨s6, rfl, g6⟩
          have hj2 : j < qs.length := by rw [la] at hj; omega
          obtain ⟨x, t, q, e1, e2, h1, h2, h3⟩ := gt H6 g6 k hk2
          obtain ⟨x', t', q', e1', e2', h1', h2', h3'⟩ := gt H6 g6 j hj2
          have md := g6 _ _ m4.md
          have du := g6 _ _ m4.du
          refine ⟨_, rfl, _, rfl, _, _, _, _, rfl, rfl, SqL.of md, e1, _, rfl, _, rfl, _, _, _, _, rfl, rfl, SqL.of md, e1', _, rfl, _, rfl, _, _, _, _, rfl, rfl, SqL.of du, e2, _, rfl, _, rfl, _, _, _, _, rfl, rfl, SqL.of du, e2', x, x', t, t', q, q', rfl, ⟨h1, h1', h2, h2', h3.mono, h3'.mono⟩, fun H7 g7 => ⟨_, rfl, iF rfl (nxt ⟨_, rfl, g6.trans g7⟩)⟩⟩
        · rintro _ H6 ⟨s6, rfl, g6⟩
          exact kk2 _ _ ⟨s6, rfl, g6⟩
      · rintro _ H6 ⟨s6, rfl, g6⟩
        obtain ⟨x, t, q, e1, e2, h1, h2, h3⟩ := gt H6 g6 k hk2
        refine ⟨_, rfl, _, rfl, _, _, _, _, rfl, rfl, SqL.of (g6 _ _ m4.md), e1, _, rfl, _, rfl, _, _, _, _, rfl, rfl, SqL.of (g6 _ _ m4.du), e2, x, t, q, rfl, h1, h2, h3.mono, fun H7 g7 => ⟨_, rfl, iF rfl (nxt ⟨_, _, rfl, g6.trans g7⟩)⟩⟩
    · rintro _ H5 ⟨s4, s6, rfl, g5⟩
      exact kk _ _ ⟨s4, s6, rfl, g5⟩
  rintro _ H5 ⟨s4, s6, rfl, g5⟩
  have m5 := m4.gr g5
  have b5 := b4.gr g5
  refine ⟨_, rfl, _, rfl, _, rfl, b, ml, dl, as, ts, qs, rfl, b5, m5, hq0, hq5, fun H6 k6 b6 => ⟨_, rfl, iF rfl (nxt ?_)⟩⟩
  have m6 := m5.kp k6 b5
  dsimp only
  refine seqP (fun σ' H' => ∃ s7 : Option V, σ' = ([some (.ref a), some (.ref b), some (.ref ml), some (.ref dl), s4, s5, s6, s7, none, none] : List (Option V)) ∧ Bx b H' ∧ Mds K b ml dl H' as ts qs) (fun kk => ?_) ?_
  · have pl : (qs.map fun q => (q.num, (q.den : Int))).length = qs.length := List.length_map ..
    refine ⟨_, rfl, _, rfl, b, dl, ts, _, rfl, b6, m6.dues, m6.db, by rw [pl]; exact hq0, by rw [pl]; exact hq5, fun p hp => ?_, fun l xs H7 k7 b7 hl tl => ?_⟩
    · obtain ⟨q, hq, rfl⟩ := List.mem_map.mp hp
      obtain ⟨i, hi, rfl⟩ := List.getElem_of_mem hq
      have := (m6.each i _ (List.getElem?_eq_getElem hi)).1
      exact ⟨this.num, this.den⟩
    have m7 := m6.kp k7 b6
    refine ⟨l, rfl, ⟨xs, SqL.of hl⟩, for_list (xs := xs) (fun i σ' H' => ∃ s7 : Option V, σ' = ([some (.ref a), some (.ref b), some (.ref ml), some (.ref dl), s4, s5, s6, s7, none, none] : List (Option V)) ∧ Gr H7 H') ?_ ?_ ?_ ?_⟩
    · exact ⟨none, rfl, Gr.refl _⟩
    · rintro i _ H' _ ⟨s7, rfl, g⟩
      exact SqL.of (g _ _ hl)
    · rintro i z _ H8 hz ⟨s7, rfl, g8⟩
      obtain ⟨y, rfl, ly, cy⟩ := tl.all z (List.mem_of_getElem? hz)
      refine ⟨_, rfl, y, rfl, ⟨by omega, cy⟩, fun H9 g9 => ⟨_, rfl, iF rfl (nxt ⟨_, rfl, g8.trans g9⟩)⟩⟩
    · rintro _ H8 ⟨s7, rfl, g8⟩
      exact kk _ _ ⟨s7, rfl, b7.gr g8, m7.gr g8⟩
  rintro _ H7 ⟨s7, rfl, b7, m7⟩
  have ca : CP ("abcxyz" : Str) := cp_lit (by decide +kernel)
  refine ⟨_, rfl, b, _, rfl, b7, by decide, by decide, fun r1 H8 k8 b8 x0 x1 => ?_⟩
  have ab6 : ("abcxyz" : Str).length = 6 := by decide +kernel
  obtain ⟨c, ec, mc⟩ := atI_str (y := "abcxyz") x0 (by rw [ab6]; exact x1)
  refine ⟨_, _, c, rfl, rfl, szT (by rw [ab6]; decide), ec, _, rfl, b, _, rfl, b8, by decide, by decide, fun r2 H9 k9 b9 y0 y1 => ?_⟩
  have hs2 : sm 1900 r2 := sm.mono (n := 64) (by unfold sm; omega) (by decide)
  have l2 : (its r2).length ≤ 3 := its_len y0 (by omega) (by decide)
  have lc : (⟨#[c]⟩ : Str).length = 1 := rfl
  have cw : CP (⟨#[c]⟩ ++ its r2) := CP.app (cp_one ca mc) (its_cps _)
  have so : PyData.strOk (⟨#[c]⟩ ++ its r2) = true := by
    refine strOk_app ?_ ?_
    · have hall : ∀ d ∈ ("abcxyz" : Str).cps.toList, d < 0x110000 := by decide +kernel
      unfold PyData.strOk
      simpa using hall c mc
    · unfold PyData.strOk
      rw [Array.all_eq_true_iff_forall_mem]
      intro d hd
      have e : d ∈ (its r2).cps.toList := by simpa using hd
      rw [its_eq, tl_S] at e
      have := numZ_cp r2 d e
      exact decide_eq_true (by omega)
  have lw : (⟨#[c]⟩ ++ its r2 : Str).length ≤ 4 := by rw [slen, lc]; omega
  refine ⟨_, rfl, Nat.lt_trans hs2.log (by decide), _, _, rfl, rfl, szT (Nat.le_trans (Nat.add_le_add (Nat.le_of_eq lc) l2) (by decide)), ?_⟩
  have m9 := (m7.kp k8 b7).kp k9 b8
  dsimp only [gName]
  refine ⟨_, rfl, _, _, rfl, rfl, ⟨by decide, by decide, by decide⟩, b, _, rfl, b9, by decide, by decide, fun n H10 k10 b10 n0 n1 => ?_⟩
  have m10 := m9.kp k10 b9
  have n2 : n < 1000000 := n1
  refine ⟨_, rfl, _, rfl, ml, _, rfl, .inl ⟨SqL.of m10.md, fun tm htm => ?_⟩⟩
  refine ⟨n, _, tm, _, rfl, by unfold sm; omega, Nat.le_trans lw (by decide), cw, so, SqT.of upd_same, fun H11 g11 => ⟨_, rfl, iF rfl (nxt ?_)⟩⟩
  have g10 := ((Gr.refl H10).upd (o := .tup (as.map V.ref)) htm).trans g11
  have m11 := m10.gr g10
  dsimp only
  refine ⟨_, rfl, _, _, rfl, .inl (SqL.of m11.md), _, rfl, by omega, by omega, fun D hD => lc_it walk_range (fun j H' => H' D = some (.lst ((List.replicate j true).map V.bl)) ∧ Gr H11 H') ?_ ?_ ?_ ?_⟩
  · exact ⟨upd_same, (Gr.refl _).upd hD⟩
  · exact fun _ _ _ _ => trivial
  · rintro j z Ha Hb hj ⟨k1, k2⟩ ⟨rfl, rfl⟩
    have hj2 : j < qs.length := by rw [la] at hj; omega
    obtain ⟨x, t, q, e1, e2, h1, h2, h3, _⟩ := (m11.gr k2).get (r := 0 + (j : Int)) (by omega) (by rw [m11.la]; omega)
    refine ⟨rfl, _, rfl, _, rfl, _, _, _, _, rfl, rfl, SqL.of (k2 _ _ m11.md), e1, _, rfl, _, rfl, _, _, _, _, rfl, rfl, SqL.of (k2 _ _ m11.du), e2, x, t, q, _, _, rfl, h1, h2, rfl, rfl, fun Hc gc => ?_⟩
    refine ⟨_, gc _ _ k1, ?_, ?_, gr_row (k2.trans gc) hD⟩
    · rw [List.length_map, List.length_replicate, sizeLine_eq]
      omega
    · rw [snoc_rep]
      exact upd_same
  · rintro Ha ⟨k1, k2⟩
    have e3 : ((as.map V.ref).length : Int).toNat = qs.length := by rw [la]; rfl
    rw [e3] at k1
    refine ⟨_, rfl, dl, rfl, ⟨_, SqL.of (k2 _ _ m11.du)⟩, fun D2 hD2 => lc_list (xs := ts.map V.ref) (fun j H' => H' D2 = some (.lst ((List.replicate j true).map V.bl)) ∧ Gr Ha H') ?_ ?_ ?_ ?_⟩
    · exact ⟨upd_same, (Gr.refl _).upd hD2⟩
    · rintro j H' _ ⟨_, g⟩
      exact SqL.of (g _ _ (k2 _ _ m11.du))
    · rintro j z Hb hz ⟨k3, k4⟩
      have hj2 : j < qs.length := by
        have := (List.getElem?_eq_some_iff.mp hz).1
        omega
      refine ⟨rfl, _, k3, ?_, ?_, gr_row k4 hD2⟩
      · rw [List.length_map, List.length_replicate, sizeLine_eq]
        omega
      · rw [snoc_rep]
        exact upd_same
    · rintro Hb ⟨k3, k4⟩
      rw [ltl] at k3
      obtain ⟨s1, s2⟩ := len5 ⟨qs.length, by omega⟩
      refine ⟨_, _, .lst (SqL.of (k4 _ _ k1)) (dpBools _), .lst (SqL.of k3) (dpBools _), s1, s1, ?_⟩
      rw [s2]
      exact R Hb
end
end K00
namespace K00
open PySem PySem.Spec PyProof.Rows L2 L2.LX
open PySem.W (Frag)
/-- what is let out, of any world -/
def CXw (P : Program) : CXT := fun outer H s E u s' => ∃ w, L2N.CX P w outer H s E u s'
theorem fn_cx {P : Program} {w : World} {K : Frag} {mg : Str → Option Value} {base : Heap} {k : Nat} {f : Addr} {fd : FuncData} {ps : List Str} {sp : Sp} (F : FnOk P w K mg base (L2N.CX P w) k f fd ps sp) : FnOk P w K mg base (CXw P) k f fd ps sp :=
  ⟨F.len, fun A outer s H args us vs Q E hr e0 hb r h => codeAny_mono (F.run A outer s H args us vs Q E hr e0 hb r h) fun r s' h' => by
    cases r with
    | error e => exact ⟨w, h'⟩
    | ok fl =>
      cases fl with
      | ret u => exact h'
      | next => exact h'
      | brk => exact h'
      | cont => exact h'⟩
abbrev RW0 : PySem.W.OpenLaw := PySem.Challenge.rw_causeloft_k00_exact_ratios
theorem pg : Pg RW0.prog := ⟨rfl, by kernel_rfl⟩
theorem lawName : (HandSHeadRun.topDef (PySem.W.OpenLaw.row RW0).prog 51).name = ("law" : Str) := by kernel_rfl
theorem atEnd (w : World) (mg : Str → Option Value) (fa : Addr) (h : Heap) (Y : hk.says w h) (G : h.Ns mainGlobals mg) (hmg0 : mg (HandSHeadRun.topDef (PySem.W.OpenLaw.row RW0).prog 51).name = some (.ref fa)) :
    ∃ (K : Frag) (fd : FuncData) (sp : Sp), K.In h ∧ (∀ (s : Shared) (u : Value), BindsTo s fd ⟨[u], []⟩ [("script", u)]) ∧
        (∀ (H : Hp) (a : Addr) (ns : List Int), ns.length ≤ 63 → Only H → SqL K H a (ns.map V.int) → sp [.ref a] H (fun v _ => v = .bl true) fun _ _ _ => False) ∧
        ∀ base : Heap, K.In base → base.Ns mainGlobals mg → FnOk RW0.prog w K mg base (CXw RW0.prog) 16 fa fd ["script"] sp := by
  obtain ⟨K, KX, c⟩ := Y
  have T : Tx K mg := ⟨h, KX, G, c⟩
  rw [lawName] at hmg0
  have e := hmg0.symm.trans (Tx.g_law T)
  cases e
  refine ⟨K, fdOf K (a_law K), spLaw K, KX, fun s u => ?_, fun H a ns hl _ hS => ⟨a, ns, rfl, hS, by omega, fun _ => rfl⟩, fun base _ _ => fn_cx (ok_law T pg)⟩
  exact FunD.bindsA (ps := ["script"]) (T.d_law) (fun _ _ _ _ _ _ us hl => match us, hl with | [_], _ => rfl) s [u] rfl
end K00
open PySem PySem.W PySem.Calls PyProof.Rows
theorem PySem.Challenge.cw_causeloft_k00_exact_ratios_holds : PySem.Challenge.rw_causeloft_k00_exact_ratios.Holds := by
  w_on; o_law
  refine HandSHeadRun.head_imp (r := OpenLaw.row PySem.Challenge.rw_causeloft_k00_exact_ratios) (q := K00.qv) (H := K00.hk) (ob := K00.ob) (M := 7000) (loose := K00.names) (d := HandSHeadRun.topDef (OpenLaw.row PySem.Challenge.rw_causeloft_k00_exact_ratios).prog 51) (kwd := []) K00.ob_eq
    K00.run (by kernel_rfl) (by kernel_rfl) (by kernel_rfl) (by rfl) (by first | assumption | decide +kernel) (by decide +kernel) ⟨rfl, rfl, rfl, rfl, rfl, by decide +kernel⟩ ?hw ?hc
  case hw => w_witness2
  case hc =>
    refine L2.walk_ofE (l := PySem.Challenge.rw_causeloft_k00_exact_ratios) (n := 63) (k := 16) (x := "script") (CX := K00.CXw (PySem.Challenge.rw_causeloft_k00_exact_ratios).prog) rfl (by decide) (by kernel_rfl) ⟨rfl, by decide, by decide⟩ K00.atEnd ?C
    intro H s e s' z
    obtain ⟨w, _, _, _, _, _, _, _, _, _, _, _, _, z⟩ := z
    exact z

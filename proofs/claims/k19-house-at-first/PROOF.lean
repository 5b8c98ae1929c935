import PyProof.Rows.All
import Wide.All
import OpenK.AllK
import Wide.FinOn
import HandS.ForMost
import HandS.ForExc
import HandS.IsInst
import HandS.HeadHook3
import HandS.MakeKwOnly
import HandS.CallSlots
import HandS.Small
import HandS.StrMore
import KE.KCallOwn
import HandS.TryOnly
import HandS.SlotsOwn
import HandS.ClsMeth
import HandS.HeadNt
import HandS.Strs
import HandS.ExcInit
import KE.KExcSuper
import HandS.ExcField
import HandS.ExcIs
import KE.KExcIs
import HandS.Comp
import HandS.IterVal
import HandS.OwnIter
import HandS.Style
import KE.KDictDisplayH
import HandS.TupLen
import HandS.TryMany
import HandS.GenList
import HandS.Text
import HandS.FStr
import HandS.Bytes
import KE.KStrBytes
import KE.KBytesDec
import HandS.Wide
import HandS.More
import KE.KOpsOwn
import HandS.RaiseMore
import HandS.Iter
import HandS.DictComp
import HandS.Finally
import HandS.Property
import HandS.HotCalls
import HandS.ExcInitHot
import HandS.Head2
import KE.KStateDown
import PySem.Challenge.RW_lanesdealt_k19_house_at_first
set_option Elab.async false
set_option linter.all false
set_option maxRecDepth 100000
set_option maxHeartbeats 4000000
namespace Mo
open PySem L2
def valT (K : PySem.W.Frag) (t : Bool × String) : Value := if t.1 = true then .ref (He.ga K (Str.ofString t.2)) else .type t.2
abbrev OTab := List ((Bool × String) × (Bool × String) × Bool)
def isiB (K : PySem.W.Frag) (tab : OTab) : Bool := tab.all fun e => decide (PySem.W.kitOne K (valT K e.1) (valT K e.2.1) = some e.2.2) &&
  (!e.1.1 || (PySem.W.plainGet K (He.ga K (Str.ofString e.1.2)) Str.empty && (PySem.W.hasDictIn K (He.ga K (Str.ofString e.1.2)) && (PySem.W.plainOver K (He.ga K (Str.ofString e.1.2)) &&
    He.eqO (PySem.W.findIn K (.ref (He.ga K (Str.ofString e.1.2))) "__setattr__") (some (some (.builtin "object.__setattr__"))) && He.eqO (PySem.W.findIn K (.ref (He.ga K (Str.ofString e.1.2))) "__class__") (some (some (.builtin "object.__class__"))) &&
    He.eqO (PySem.W.specialIn K (.builtin "object.__class__") "__get__") (some (some (.builtin "getset_descriptor.__get__"))) && decide (PySem.W.takesIn K (.builtin "object.__class__") = some true) && decide (PySem.W.mroIn K (He.ga K (Str.ofString e.1.2)) (.type "object") = some true)))))
def tupD (K : PySem.W.Frag) (x : Str) : Bool := match K.lookup (He.ga K x) with
  | some o => decide (o.cls = .type "tuple") && o.dict.isNone
  | none => false
def tupBD (K : PySem.W.Frag) (x : Str) (vs : List He.Dv) : Bool := He.tupB K x vs && tupD K x
def cBody : Stmt → List Stmt
  | .ClassDef _ _ _ b _ _ _ _ _ _ _ => b
  | _ => []
def oexB (K : PySem.W.Frag) (C : Addr) : Bool := (match K.lookup C with
  | some ⟨.type t, _, .cls cd, sl⟩ => decide (t = "type") && ((match cd.mro with | .ref c :: bm => decide (c = C) && PySem.HandSPX.refsVE bm | _ => false) && (cd.hasDict && (!cd.hasDel && (match sl.toList with | [_, _, _, _, k, _] => k == some (.builtin "ValueError.__new__") | _ => false))))
  | _ => false) && (decide (PySem.W.findIn K (.ref C) "__setattr__" = some (some (.builtin "object.__setattr__"))) && (decide (PySem.W.subIn K (.ref C) (.type "BaseException") = some true) && (decide (PySem.W.typeIn K (.ref C) = some (.type "type")) && PySem.W.keepIn K (.ref C))))
def ccOf (K : PySem.W.Frag) (f : Addr) : Addr := match K.lookup f with
  | some ⟨_, _, .func fd, _⟩ => (match fd.closure with | [(_, c)] => c | _ => 0)
  | _ => 0
def cdOf (K : PySem.W.Frag) (f : Addr) : Addr := match K.lookup f with
  | some ⟨_, _, .func fd, _⟩ => (match fd.code with | .ref c => c | _ => 0)
  | _ => 0
def supB (K : PySem.W.Frag) (fl : Str) (C f : Addr) (qual : Str) : Bool := decide (PySem.W.findIn K (.ref C) "__init__" = some (some (.ref f))) && (decide (PySem.W.typeIn K (.ref f) = some (.type "function")) &&
  ((match K.lookup f with | some ⟨_, _, .func fd, _⟩ => (fd.code == .ref (cdOf K f)) && (fd.defaults == .none) | _ => false) && (PySem.W.codeIn K (.ref (cdOf K f)) qual &&
  ((match K.lookup (cdOf K f) with | some ⟨_, _, .fields vs, _⟩ => (match (vs[2]? : Option Value) with | some (Value.str fi _) => fl == fi | _ => false) | _ => false) &&
  ((match K.lookup (ccOf K f) with | some ⟨_, _, .cell (some (.ref D)), _⟩ => decide (D = C) | _ => false) &&
  (decide (PySem.W.nsIn K PySem.cStatics "thirdparty.any" = some none) && (decide (PySem.W.mroIn K C (.ref C) = some true) && (decide (PySem.W.ks_superIn K C C "__init__" = some (some (.builtin "ValueError.__init__"))) && decide (PySem.W.subIn K (.ref C) (.type "ValueError") = some true)))))))))
def prA (K : PySem.W.Frag) (C : Addr) (f : Str) : Addr := match PySem.W.findIn K (.ref C) f with
  | some (some (.ref p)) => p
  | _ => 0
def prG (K : PySem.W.Frag) (C : Addr) (f : Str) : Addr := match PySem.W.recIn K (prA K C f) "property" with
  | some (.ref g :: _) => g
  | _ => 0
def propB (K : PySem.W.Frag) (C : Addr) (f : Str) : Bool := (PySem.W.findIn K (.ref C) f == some (some (.ref (prA K C f)))) && ((PySem.W.specialIn K (.ref (prA K C f)) "__get__" == some (some (.builtin "property.__get__"))) && ((PySem.W.takesIn K (.ref (prA K C f)) == some true) &&
  (match PySem.W.recIn K (prA K C f) "property" with
    | some (.ref _ :: _) => true
    | _ => false)))
abbrev FnN : Type := Option (Str × Str × Arguments × FuncBody × Scope × Addr × List Str × Addr)
def nmCl (e : He.FnW) : FnN := e.map fun z => (z.1, z.2.1, z.2.2.1, z.2.2.2.1, z.2.2.2.2.1, z.2.2.2.2.2.1, z.2.2.2.2.2.2.1.map (·.1), z.2.2.2.2.2.2.2)
def fnN (K : PySem.W.Frag) (a : Addr) : FnN := nmCl (He5.fnA K a)
def initN (qual : Str) (prm : Arguments) (body : List Stmt) (scope : Scope) : FnN := some (("__init__" : Str), qual, prm, FuncBody.stmts body, scope, mainGlobals, [("__class__" : Str)], builtinsNs)
abbrev AlM : Type := He.AlT × Bool × List FnN
def obsM (fa : List He.Fa) (fn : List He.DefD) (ts : List He.Tab) (ex : PySem.W.Frag → Bool) (ps : List (PySem.W.Frag → Addr)) (K : PySem.W.Frag) : AlM := (He.obsT fa fn ts K, ex K, ps.map fun p => fnN K (p K))
def vlM (fn : List He.DefD) (ts : List He.Tab) (vs : List FnN) (w : World) : AlM := (He.valT fn ts w, true, vs)
structure SaysM (fa : List He.Fa) (fn : List He.DefD) (ts : List He.Tab) (ex : PySem.W.Frag → Bool) (ps : List (PySem.W.Frag → Addr)) (vs : List FnN) (w : World) (K : PySem.W.Frag) : Prop where
  t : He.SaysT fa fn ts w K
  e : ex K = true
  p : (ps.map fun p => fnN K (p K)) = vs
def rfF (fd : FuncData) : List Addr := He.refV fd.code ++ (He.refV fd.defaults ++ (He.refV fd.kwdefaults ++ fd.closure.map (·.2)))
def rfC (g : Addr → Option Obj) (a : Addr) : List Addr := match g a with
  | some ⟨_, _, .cls cd, _⟩ => [cd.ns]
  | some ⟨_, _, .func fd, _⟩ => rfF fd
  | _ => []
def rfD (g : Addr → Option Obj) (a : Addr) : List Addr := match g a with
  | some ⟨_, _, .dict es _, _⟩ => es.toList.flatMap fun e => He.refV e.val
  | _ => []
def rfM (g : Addr → Option Obj) (a : Addr) : List Addr := match g a with
  | some ⟨_, _, .func fd, _⟩ => rfF fd
  | some ⟨_, _, .fields vs, _⟩ => vs.toList.flatMap He.refV
  | _ => []
def rfP (g : Addr → Option Obj) (a : Addr) : List Addr := match g a with
  | some ⟨_, _, .func fd, _⟩ => rfF fd
  | _ => []
def asM (g : Addr → Option Obj) : List Addr :=
  let l1 := rfD g mainGlobals
  let l2 := l1.flatMap (rfC g)
  let l3 := l2.flatMap (rfD g)
  let l4 := l3.flatMap (rfM g)
  mainGlobals :: (l1 ++ (l2 ++ (l3 ++ (l4 ++ (l4.flatMap (rfP g) ++ [PySem.cStatics])))))
def gM (n : Nat) (g : Addr → Option Obj) : PySem.W.Frag := He.frG g (asM g)
def hookM (n : Nat) (fa : List He.Fa) (fn : List He.DefD) (ts : List He.Tab) (ex : PySem.W.Frag → Bool) (ps : List (PySem.W.Frag → Addr)) (vs : List FnN) : PySem.W.Hook where
  α := AlM
  obs := fun s => obsM fa fn ts ex ps (gM n s.heap.get?)
  val := fun w => vlM fn ts vs w
  says := fun w h => ∃ K : PySem.W.Frag, K.In h ∧ SaysM fa fn ts ex ps vs w K
  of := fun _ _ e => ⟨_, He.frG_in, ⟨congrArg (fun z : AlM => z.1) e, congrArg (fun z : AlM => z.2.1) e, congrArg (fun z : AlM => z.2.2) e⟩⟩
  keeps := fun _ _ _ ⟨K, hK, c⟩ k => ⟨K, PySem.W.Frag.In.keeps hK k, c⟩
end Mo
namespace Mo
open PySem PySem.W PySem.Calls PyProof.Rows L2 HandSHeadRun
abbrev ob1M (ts : List He.Tab) (ex : PySem.W.Frag → Bool) (ps : List (PySem.W.Frag → Addr)) (K : PySem.W.Frag) : List (Option (List (Option (Str × Int)))) × Bool × List FnN := (ts.map fun t => He.dicW K (t.1 K), ex K, ps.map fun p => fnN K (p K))
def RunA (r : OpenRow) (q : Program) (n : Nat) (ts : List He.Tab) (ex : PySem.W.Frag → Bool) (ps : List (PySem.W.Frag → Addr)) (vs : List FnN) (M : Nat) (loose : List PySem.Str) (w : World) : Prop :=
  ∀ os : OsState, (endF (stepQ (denQ tabQ) r.prog w) M r.prog w os).map (fun s => (looksF r.prog (boot_heap w.params) s.abs, seenQ q loose (importedModules r.prog.main.body) (fun s => xlAt q [] s && recOk r.toRowW.records s) s.abs, ob1M ts ex ps (gM n (getT s)))) = some (true, openGood q loose, (ts.map fun t => some (He.keysIn w.params t.2), true, vs))
def RunB (r : OpenRow) (n : Nat) (fa : List He.Fa) (fn : List He.DefD) (M : Nat) (w : World) : Prop :=
  ∀ os : OsState, (endF (stepQ (denQ tabQ) r.prog w) M r.prog w os).map (fun s => He.obsD fa fn (gM n (getT s))) = some (He.valD fn)
end Mo
namespace Lw
open PySem L2 Mo PySem.W PySem.Calls PyProof.Rows
def FILE : Str := "/claim/cut.py"
def tabT : OTab := [((true, "Book"), (false, "bool"), false), ((true, "Call"), (false, "bool"), false), ((true, "Hold"), (false, "bool"), false), ((true, "House"), (false, "bool"), false), ((true, "Ledger"), (false, "bool"), false), ((true, "Mark"), (false, "bool"), false), ((true, "Numbered"), (false, "bool"), false), ((true, "Share"), (false, "bool"), false), ((true, "Slot"), (false, "bool"), false), ((true, "Stint"), (false, "bool"), false)]
def top (i : Nat) : Stmt := PySem.Challenge.pw_lanesdealt_k19_house_at_first.main.body.getD i (.Pass ⟨0, 0, 0, 0⟩)
abbrev s_BadBook___init__ : Stmt := (cBody (top 2)).getD 0 (.Pass ⟨0, 0, 0, 0⟩)
abbrev s_NotNow___init__ : Stmt := (cBody (top 4)).getD 0 (.Pass ⟨0, 0, 0, 0⟩)
abbrev s_UnknownName___init__ : Stmt := (cBody (top 3)).getD 0 (.Pass ⟨0, 0, 0, 0⟩)
abbrev s__law_mixed : Stmt := top 56
abbrev s__law_row : Stmt := top 57
abbrev s__law_names : Stmt := top 58
abbrev s_Ledger___init__ : Stmt := (cBody (top 26)).getD 0 (.Pass ⟨0, 0, 0, 0⟩)
abbrev s_Slot___init__ : Stmt := (cBody (top 27)).getD 0 (.Pass ⟨0, 0, 0, 0⟩)
abbrev s_ascending : Stmt := top 14
abbrev s_Share___init__ : Stmt := (cBody (top 15)).getD 0 (.Pass ⟨0, 0, 0, 0⟩)
abbrev s_House___init__ : Stmt := (cBody (top 46)).getD 0 (.Pass ⟨0, 0, 0, 0⟩)
abbrev s_House_check_member : Stmt := (cBody (top 46)).getD 1 (.Pass ⟨0, 0, 0, 0⟩)
abbrev s_House_enter : Stmt := (cBody (top 46)).getD 11 (.Pass ⟨0, 0, 0, 0⟩)
abbrev s__law_cell : Stmt := top 55
abbrev s_Book___init__ : Stmt := (cBody (top 53)).getD 0 (.Pass ⟨0, 0, 0, 0⟩)
abbrev s__law_book : Stmt := top 60
abbrev s_Share___contains__ : Stmt := (cBody (top 15)).getD 1 (.Pass ⟨0, 0, 0, 0⟩)
abbrev s_Ledger___contains__ : Stmt := (cBody (top 26)).getD 3 (.Pass ⟨0, 0, 0, 0⟩)
abbrev s_Ledger___iter__ : Stmt := (cBody (top 26)).getD 4 (.Pass ⟨0, 0, 0, 0⟩)
abbrev s_House_members_in : Stmt := (cBody (top 46)).getD 7 (.Pass ⟨0, 0, 0, 0⟩)
abbrev s_Ledger___getitem__ : Stmt := (cBody (top 26)).getD 1 (.Pass ⟨0, 0, 0, 0⟩)
abbrev s_House_is_waited_for : Stmt := (cBody (top 46)).getD 8 (.Pass ⟨0, 0, 0, 0⟩)
abbrev s_House_call_is_due : Stmt := (cBody (top 46)).getD 30 (.Pass ⟨0, 0, 0, 0⟩)
abbrev s_Share___len__ : Stmt := (cBody (top 15)).getD 2 (.Pass ⟨0, 0, 0, 0⟩)
abbrev s_House_is_still_lost : Stmt := (cBody (top 46)).getD 15 (.Pass ⟨0, 0, 0, 0⟩)
abbrev s_House_due_dealing : Stmt := (cBody (top 46)).getD 31 (.Pass ⟨0, 0, 0, 0⟩)
abbrev s_House_due : Stmt := (cBody (top 46)).getD 32 (.Pass ⟨0, 0, 0, 0⟩)
abbrev s_House_check_lane : Stmt := (cBody (top 46)).getD 2 (.Pass ⟨0, 0, 0, 0⟩)
abbrev s_House_done : Stmt := (cBody (top 46)).getD 5 (.Pass ⟨0, 0, 0, 0⟩)
abbrev s_Slot_mark : Stmt := (cBody (top 27)).getD 1 (.Pass ⟨0, 0, 0, 0⟩)
abbrev s_House_slot : Stmt := (cBody (top 46)).getD 6 (.Pass ⟨0, 0, 0, 0⟩)
abbrev s_House_sent : Stmt := (cBody (top 46)).getD 4 (.Pass ⟨0, 0, 0, 0⟩)
abbrev s_at_work : Stmt := top 32
abbrev s_House_place : Stmt := (cBody (top 46)).getD 3 (.Pass ⟨0, 0, 0, 0⟩)
abbrev s__law_is_new : Stmt := top 61
abbrev s__law_words : Stmt := top 59
abbrev s_law : Stmt := top 62
def fnL : List He.DefD := [⟨("_law_mixed", none), "_law_mixed", "_law_mixed", defArgs s__law_mixed, defBody s__law_mixed, defScope s__law_mixed, [], []⟩,
  ⟨("_law_row", none), "_law_row", "_law_row", defArgs s__law_row, defBody s__law_row, defScope s__law_row, [], []⟩,
  ⟨("_law_names", none), "_law_names", "_law_names", defArgs s__law_names, defBody s__law_names, defScope s__law_names, [], []⟩,
  ⟨("Ledger", some "__init__"), "__init__", "Ledger.__init__", defArgs s_Ledger___init__, defBody s_Ledger___init__, defScope s_Ledger___init__, [], []⟩,
  ⟨("Slot", some "__init__"), "__init__", "Slot.__init__", defArgs s_Slot___init__, defBody s_Slot___init__, defScope s_Slot___init__, [], []⟩,
  ⟨("ascending", none), "ascending", "ascending", defArgs s_ascending, defBody s_ascending, defScope s_ascending, [], []⟩,
  ⟨("Share", some "__init__"), "__init__", "Share.__init__", defArgs s_Share___init__, defBody s_Share___init__, defScope s_Share___init__, [], []⟩,
  ⟨("House", some "__init__"), "__init__", "House.__init__", defArgs s_House___init__, defBody s_House___init__, defScope s_House___init__, [], [("window", (.int 5))]⟩,
  ⟨("House", some "check_member"), "check_member", "House.check_member", defArgs s_House_check_member, defBody s_House_check_member, defScope s_House_check_member, [], []⟩,
  ⟨("House", some "enter"), "enter", "House.enter", defArgs s_House_enter, defBody s_House_enter, defScope s_House_enter, [], []⟩,
  ⟨("_law_cell", none), "_law_cell", "_law_cell", defArgs s__law_cell, defBody s__law_cell, defScope s__law_cell, [], []⟩,
  ⟨("Book", some "__init__"), "__init__", "Book.__init__", defArgs s_Book___init__, defBody s_Book___init__, defScope s_Book___init__, [], [("stop", (.str "asked")), ("move", (.str "once")), ("out", (.str "once")), ("marks", (.str "any"))]⟩,
  ⟨("_law_book", none), "_law_book", "_law_book", defArgs s__law_book, defBody s__law_book, defScope s__law_book, [], []⟩,
  ⟨("Share", some "__contains__"), "__contains__", "Share.__contains__", defArgs s_Share___contains__, defBody s_Share___contains__, defScope s_Share___contains__, [], []⟩,
  ⟨("Ledger", some "__contains__"), "__contains__", "Ledger.__contains__", defArgs s_Ledger___contains__, defBody s_Ledger___contains__, defScope s_Ledger___contains__, [], []⟩,
  ⟨("Ledger", some "__iter__"), "__iter__", "Ledger.__iter__", defArgs s_Ledger___iter__, defBody s_Ledger___iter__, defScope s_Ledger___iter__, [], []⟩,
  ⟨("House", some "members_in"), "members_in", "House.members_in", defArgs s_House_members_in, defBody s_House_members_in, defScope s_House_members_in, [], []⟩,
  ⟨("Ledger", some "__getitem__"), "__getitem__", "Ledger.__getitem__", defArgs s_Ledger___getitem__, defBody s_Ledger___getitem__, defScope s_Ledger___getitem__, [], []⟩,
  ⟨("House", some "is_waited_for"), "is_waited_for", "House.is_waited_for", defArgs s_House_is_waited_for, defBody s_House_is_waited_for, defScope s_House_is_waited_for, [], []⟩,
  ⟨("House", some "call_is_due"), "call_is_due", "House.call_is_due", defArgs s_House_call_is_due, defBody s_House_call_is_due, defScope s_House_call_is_due, [], []⟩,
  ⟨("Share", some "__len__"), "__len__", "Share.__len__", defArgs s_Share___len__, defBody s_Share___len__, defScope s_Share___len__, [], []⟩,
  ⟨("House", some "is_still_lost"), "is_still_lost", "House.is_still_lost", defArgs s_House_is_still_lost, defBody s_House_is_still_lost, defScope s_House_is_still_lost, [], []⟩,
  ⟨("House", some "due_dealing"), "due_dealing", "House.due_dealing", defArgs s_House_due_dealing, defBody s_House_due_dealing, defScope s_House_due_dealing, [], []⟩,
  ⟨("House", some "due"), "due", "House.due", defArgs s_House_due, defBody s_House_due, defScope s_House_due, [], []⟩,
  ⟨("House", some "check_lane"), "check_lane", "House.check_lane", defArgs s_House_check_lane, defBody s_House_check_lane, defScope s_House_check_lane, [], []⟩,
  ⟨("House", some "done"), "done", "House.done", defArgs s_House_done, defBody s_House_done, defScope s_House_done, [], []⟩,
  ⟨("House", some "slot"), "slot", "House.slot", defArgs s_House_slot, defBody s_House_slot, defScope s_House_slot, [], []⟩,
  ⟨("House", some "sent"), "sent", "House.sent", defArgs s_House_sent, defBody s_House_sent, defScope s_House_sent, [], []⟩,
  ⟨("at_work", none), "at_work", "at_work", defArgs s_at_work, defBody s_at_work, defScope s_at_work, [], []⟩,
  ⟨("House", some "place"), "place", "House.place", defArgs s_House_place, defBody s_House_place, defScope s_House_place, [], []⟩,
  ⟨("_law_is_new", none), "_law_is_new", "_law_is_new", defArgs s__law_is_new, defBody s__law_is_new, defScope s__law_is_new, [], []⟩,
  ⟨("_law_words", none), "_law_words", "_law_words", defArgs s__law_words, defBody s__law_words, defScope s__law_words, [], []⟩,
  ⟨("law", none), "law", "law", defArgs s_law, defBody s_law, defScope s_law, [], []⟩]
def dA_Slot_mark : He5.DefA := ⟨fun K => (prG K (He.ga K "Slot") "mark"), "mark", "Slot.mark", defArgs s_Slot_mark, defBody s_Slot_mark, defScope s_Slot_mark, [], []⟩
def faL : List He.Fa := [.glo "AT_WORK", .glo "BadBook", .glo "Book", .glo "Call", .glo "Hold", .glo "House", .glo "Ledger", .glo "MARKS", .glo "MOVES", .glo "Mark", .glo "NotNow", .glo "Numbered", .glo "OUTS", .glo "STOPS", .glo "Share", .glo "Slot", .glo "Stint", .glo "UnknownName", .glo "_law_book", .glo "_law_cell", .glo "_law_is_new", .glo "_law_mixed", .glo "_law_names", .glo "_law_row", .glo "_law_words", .glo "ascending", .glo "at_work", .glo "law", .free "abs", .free "bool", .free "dict", .free "int", .free "isinstance", .free "iter", .free "len", .free "list", .free "range", .free "sorted", .free "str", .free "super", .cls "Book", .cls "Hold", .cls "House", .cls "Ledger", .cls "Mark", .cls "Numbered", .cls "Share", .cls "Slot", .cls "Stint", .noat "Book" "marks", .noat "Book" "move", .noat "Book" "out", .noat "Book" "pairs", .noat "Book" "stop", .noat "Hold" "lane", .noat "House" "answered", .noat "House" "awaits", .noat "House" "book", .noat "House" "called", .noat "House" "editions", .noat "House" "held", .noat "House" "lanes", .noat "House" "letters", .noat "House" "own", .noat "House" "owner", .noat "House" "post", .noat "House" "round", .noat "House" "rows", .noat "House" "slots", .noat "House" "status", .noat "House" "stints", .noat "House" "window", .noat "Ledger" "names", .noat "Ledger" "table", .noat "Mark" "giving", .noat "Mark" "lane", .noat "Mark" "row", .noat "Numbered" "giving", .noat "Share" "lanes", .noat "Slot" "giving", .noat "Slot" "lane", .noat "Slot" "owner", .noat "Slot" "row", .noat "Slot" "rule", .noat "Stint" "giving", .noat "Stint" "row", .meth "House" "call_is_due", .meth "House" "check_lane", .meth "House" "check_member", .meth "House" "done", .meth "House" "due", .meth "House" "due_dealing", .meth "House" "enter", .meth "House" "is_still_lost", .meth "House" "is_waited_for", .meth "House" "members_in", .meth "House" "place", .meth "House" "sent", .meth "House" "slot", .meth "Ledger" "__contains__", .meth "Ledger" "__getitem__", .meth "Share" "__contains__", .meth "Share" "__len__", .mkr "Book", .mkr "House", .mkr "Ledger", .mkr "Share", .mkr "Slot"]
def tsL : List He.Tab := []
def exL (K : PySem.W.Frag) : Bool := tupBD K "AT_WORK" [.str "works", .str "late", .str "ghost", .str "ghost+"] && (tupBD K "MARKS" [.str "any", .str "owner", .str "given"] && (tupBD K "MOVES" [.str "once", .str "back"] && (tupBD K "OUTS" [.str "once", .str "wait"] && (tupBD K "STOPS" [.str "asked", .str "all"] && (isiB K tabT && (dA_Slot_mark.ok K && (propB K (He.ga K "Slot") "mark" && (true && (true && (oexB K (He.ga K "BadBook") && (supB K FILE (He.ga K "BadBook") (He.fAd K ("BadBook", some "__init__")) "BadBook.__init__" && (decide (PySem.W.findIn K (.ref (He.ga K "BadBook")) "option" = some none) && (oexB K (He.ga K "NotNow") && (supB K FILE (He.ga K "NotNow") (He.fAd K ("NotNow", some "__init__")) "NotNow.__init__" && (decide (PySem.W.findIn K (.ref (He.ga K "NotNow")) "why" = some none) && (decide (PySem.W.findIn K (.ref (He.ga K "NotNow")) "name" = some none) && (oexB K (He.ga K "UnknownName") && (supB K FILE (He.ga K "UnknownName") (He.fAd K ("UnknownName", some "__init__")) "UnknownName.__init__" && (decide (PySem.W.findIn K (.ref (He.ga K "UnknownName")) "name" = some none) && ((PySem.W.findIn K (.ref (He.ga K "Ledger")) "__iter__" == some (some (.ref (He.fAd K ("Ledger", some "__iter__"))))) && (PySem.W.isFn K (.ref (He.fAd K ("Ledger", some "__iter__"))) && (PySem.W.makesIn K (He.ga K "Call") && ((PySem.W.findIn K (.ref (He.ga K "Call")) "__init__" == some (some (.builtin "object.__init__"))) && (PySem.W.keepIn K (.ref (He.ga K "Call")) && (PySem.W.fnIn K (He.fAd K ("Ledger", some "__getitem__")) && (PySem.W.noSeq K (He.ga K "Ledger")))))))))))))))))))))))))))
def psL : List (PySem.W.Frag → Addr) := [fun K => dA_Slot_mark.at_ K,
  fun K => He.fAd K ("BadBook", some "__init__"),
  fun K => He.fAd K ("NotNow", some "__init__"),
  fun K => He.fAd K ("UnknownName", some "__init__")]
def vsL : List FnN := [nmCl dA_Slot_mark.val,
  initN "BadBook.__init__" (defArgs s_BadBook___init__) (defBody s_BadBook___init__) (defScope s_BadBook___init__),
  initN "NotNow.__init__" (defArgs s_NotNow___init__) (defBody s_NotNow___init__) (defScope s_NotNow___init__),
  initN "UnknownName.__init__" (defArgs s_UnknownName___init__) (defBody s_UnknownName___init__) (defScope s_UnknownName___init__)]
abbrev rowL : OpenRow := OpenLaw.row PySem.Challenge.rw_lanesdealt_k19_house_at_first
abbrev viewL : Program := view rowL.prog [62]
def nmL0 : List Str := ["__name__", "LaneError", "BadBook", "UnknownName", "NotNow", "Refused", "Elder", "NotOwner", "BadText", "SMALL", "DIGITS", "LONGEST_NAME", "MOST_DIGITS", "ascending", "Share", "Call", "Listing", "Numbered", "Named", "Mark", "is_name", "is_number", "as_bytes", "written"]
def nmL1 : List Str := ["read_mark", "Ledger", "Slot", "Stint", "IN_BOOK", "AT_WORK", "at_work", "in_book", "after_enter", "after_leave", "after_out", "after_hear", "after_over", "after_read", "after_call", "CHANGES", "after", "place_dealt", "Hold", "House", "STOPS", "MOVES", "OUTS", "MARKS"]
def nmL2 : List Str := ["at_most", "Book", "_law_cell", "_law_mixed", "_law_row", "_law_names", "_law_words", "_law_book", "_law_is_new"]
def nmL : List Str := nmL0 ++ nmL1 ++ nmL2
abbrev hkL : PySem.W.Hook := hookM 5 faL fnL tsL exL psL vsL
def obL (s : PySem.W.SharedT) : AlM := obsM faL fnL tsL exL psL (gM 5 (HandSHeadRun.getT s))
theorem runF1 (w : World) : RunA rowL viewL 5 tsL exL psL vsL 9500 nmL (w.withFollow "special-get-raises" false) := by
  intro os
  kernel_rfl
theorem runF2 (w : World) : RunB rowL 5 faL fnL 9500 (w.withFollow "special-get-raises" false) := by
  intro os
  kernel_rfl
theorem runT1 (w : World) : RunA rowL viewL 5 tsL exL psL vsL 9500 nmL (w.withFollow "special-get-raises" true) := by
  intro os
  kernel_rfl
theorem runT2 (w : World) : RunB rowL 5 faL fnL 9500 (w.withFollow "special-get-raises" true) := by
  intro os
  kernel_rfl
end Lw
namespace Mo
open PySem L2
inductive MV where
  | non | bl (b : Bool) | int (i : Int) | str (x : Str) | byt (b : Array UInt8)
  | tup (xs : List MV) | ktp (xs : List MV) | frl (xs : List MV) | ref (i : Nat) | glo (s : String) | ty (n : String) | exa (a d k : Nat)
  deriving Inhabited
inductive MO where
  | lst (xs : List MV)
  | dk (kvs : List (Key × MV)) | dt (kvs : List (List Key × MV))
  | ins (c : String) (fs : List (Str × MV))
  | xd (c : String) (fs : List (Str × MV))
  | dx (hs : List Key → Int) (ks : List (List Key))
  | fdk (od : Obj) (vs : List (Key × V)) (kvs : List (Key × MV))
  deriving Inhabited
abbrev MH := List MO
abbrev Lo := List (Option MV)
structure MX where
  c : String
  fs : List (Str × MV)
inductive Rz (α : Type) where
  | ok (v : α) (h : MH) | err (e : MX) (h : MH) | no
def Rz.bnd {α β : Type} (r : Rz α) (k : α → MH → Rz β) : Rz β := match r with
  | .ok v h => k v h
  | .err e h => .err e h
  | .no => .no
abbrev MR := Rz MV
inductive SR where
  | nx (s : Lo) (h : MH) | rt (v : MV) (h : MH) | bk (s : Lo) (h : MH) | ct (s : Lo) (h : MH) | err (e : MX) (s : Lo) (h : MH) | no
abbrev ME := Lo → MH → Rz MV
abbrev MEs := Lo → MH → Rz (List MV)
abbrev MB := Lo → MH → Rz Bool
abbrev MS := Lo → MH → SR
abbrev MF := List MV → MH → Rz MV
def FrL (K : PySem.W.Frag) (H : Hp) (a : Addr) (xs : List V) : Prop :=
  (∃ o, H a = some (.frz o (.lst xs))) ∨
    ∃ (o : Obj) (its : Array Value) (n : Nat), K.lookup a = some o ∧ o.cls = .type "list" ∧ o.dict = none ∧ o.data = .seq its n ∧ its.size ≤ sizeLine ∧ Vals xs its.toList
theorem FrL.sq {K : PySem.W.Frag} {H : Hp} {a : Addr} {xs : List V} (h : FrL K H a xs) : SqL K H a xs := by
  rcases h with h | h
  · exact .inl (.inr h)
  · exact .inr h
def KtT (K : PySem.W.Frag) (a : Addr) (xs : List V) : Prop :=
  (∃ (o : Obj) (its : Array Value) (n : Nat), K.lookup a = some o ∧ o.cls = .type "tuple" ∧ o.data = .seq its n ∧ its.size ≤ sizeLine ∧ Vals xs its.toList) ∧ ∃ o : Obj, K.lookup a = some o ∧ o.cls = .type "tuple" ∧ o.dict = none
theorem KtT.sq {K : PySem.W.Frag} {H : Hp} {a : Addr} {xs : List V} (h : KtT K a xs) : SqT K H a xs := .inr h.1
mutual
def VR (K : PySem.W.Frag) (G : String → Option V) (ρ : List Addr) (H : Hp) : MV → V → Prop
  | .non, v => v = .non
  | .bl b, v => v = .bl b
  | .int i, v => v = .int i
  | .str x, v => v = .str x
  | .byt b, v => v = .byt b
  | .tup xs, v => ∃ a vs, v = .ref a ∧ H a = some (.tup vs) ∧ VRs K G ρ H xs vs
  | .ktp xs, v => ∃ a vs, v = .ref a ∧ KtT K a vs ∧ VRs K G ρ H xs vs
  | .frl xs, v => ∃ a vs, v = .ref a ∧ FrL K H a vs ∧ VRs K G ρ H xs vs
  | .ref i, v => ∃ a, v = .ref a ∧ ρ[i]? = some a
  | .glo s, v => G s = some v ∧ ∃ C, v = .ref C
  | .ty n, v => v = .ty n
  | .exa a d k, v => v = .ref a ∧ ρ[k]? = some d
def VRs (K : PySem.W.Frag) (G : String → Option V) (ρ : List Addr) (H : Hp) : List MV → List V → Prop
  | [], vs => vs = []
  | x :: xs, vs => ∃ v r, vs = v :: r ∧ VR K G ρ H x v ∧ VRs K G ρ H xs r
end
def KRs (K : PySem.W.Frag) (G : String → Option V) (ρ : List Addr) (H : Hp) {κ κ' : Type} (j : κ → κ') : List (κ × MV) → List (κ' × V) → Prop
  | [], vs => vs = []
  | x :: xs, vs => ∃ v r, vs = (j x.1, v) :: r ∧ VR K G ρ H x.2 v ∧ KRs K G ρ H j xs r
abbrev FRs (K : PySem.W.Frag) (G : String → Option V) (ρ : List Addr) (H : Hp) : List (Str × MV) → List (Str × V) → Prop := KRs K G ρ H id
def dxP (hs : List Key → Int) (a : Addr) (xs : List (List Key × Addr)) (h : Heap) : Prop := (a == sysModules) = false ∧ xs.length ≤ sizeLine ∧ (xs.map (·.1)).Nodup ∧
  ∃ o es ep, h.get? a = some o ∧ o.ExactDict ∧ o.data = .dict es ep ∧ es.toList = xs.map fun x => ⟨hs x.1, .ref x.2, .bool true⟩
def KeyAt (K : PySem.W.Frag) (H : Hp) (b : Addr) (ks : List Key) : Prop := H b = some (.tup (ks.map kV)) ∨ KtT K b (ks.map kV)
def OR (K : PySem.W.Frag) (G : String → Option V) (ρ : List Addr) (H : Hp) (a : Addr) : MO → Prop
  | .lst xs => ∃ vs, H a = some (.lst vs) ∧ VRs K G ρ H xs vs
  | .dk kvs => ∃ vs, H a = some (.dK vs) ∧ KRs K G ρ H id kvs vs
  | .dt kvs => ∃ vs, H a = some (.dT vs) ∧ KRs K G ρ H id kvs vs
  | .ins c fs => ∃ C dx vs, G c = some (.ref C) ∧ H a = some (.ins C dx vs) ∧ FRs K G ρ H fs vs
  | .xd _ fs => ∃ vs, H a = some (.xd vs) ∧ FRs K G ρ H fs vs
  | .dx hs ks => ∃ xs, H a = some (.ext (dxP hs a xs)) ∧ xs.map (·.1) = ks ∧ ∀ x ∈ xs, KeyAt K H x.2 x.1
  | .fdk od vs kvs => H a = some (.frz od (.dK vs)) ∧ KRs K G ρ H id kvs vs
structure Ext (K : PySem.W.Frag) (ρ : List Addr) (H : Hp) (ρ' : List Addr) (H' : Hp) : Prop where
  pre : ∃ t, ρ' = ρ ++ t
  tup : ∀ a vs, H a = some (.tup vs) → H' a = some (.tup vs)
  frl : ∀ a vs, FrL K H a vs → FrL K H' a vs
structure HR (K : PySem.W.Frag) (G : String → Option V) (ρ : List Addr) (H : Hp) (mh : MH) : Prop where
  len : ρ.length = mh.length
  nd : ρ.Nodup
  obj : ∀ (i : Nat) (o : MO), mh[i]? = some o → ∃ a, ρ[i]? = some a ∧ OR K G ρ H a o
def SRl (K : PySem.W.Frag) (G : String → Option V) (ρ : List Addr) (H : Hp) (sm : Lo) (σ : St) : Prop :=
  sm.length = σ.length ∧ ∀ (i : Nat) (x : MV), sm[i]? = some (some x) → ∃ v, σ[i]? = some (some v) ∧ VR K G ρ H x v
structure Rl (K : PySem.W.Frag) (G : String → Option V) (ρ : List Addr) (H : Hp) (sm : Lo) (σ : St) (mh : MH) : Prop where
  hr : HR K G ρ H mh
  sr : SRl K G ρ H sm σ
def ER (K : PySem.W.Frag) (G : String → Option V) (ρ : List Addr) (H : Hp) (e : MX) (cls : Value) (d : Option Addr) : Prop :=
  ∃ C a vs, G e.c = some (.ref C) ∧ cls = .ref C ∧ d = some a ∧ a ∉ ρ ∧ H a = some (.xd vs) ∧ FRs K G ρ H e.fs vs
theorem Ext.refl {K : PySem.W.Frag} {ρ : List Addr} {H : Hp} : Ext K ρ H ρ H := ⟨⟨[], by simp⟩, fun _ _ h => h, fun _ _ h => h⟩
theorem Ext.trans {K : PySem.W.Frag} {ρ ρ1 ρ2 : List Addr} {H H1 H2 : Hp} (a : Ext K ρ H ρ1 H1) (b : Ext K ρ1 H1 ρ2 H2) : Ext K ρ H ρ2 H2 := by
  obtain ⟨⟨t, e⟩, f, g⟩ := a
  obtain ⟨⟨u, e'⟩, f', g'⟩ := b
  exact ⟨⟨t ++ u, by rw [e', e, List.append_assoc]⟩, fun a vs h => f' a vs (f a vs h), fun a vs h => g' a vs (g a vs h)⟩
theorem Ext.at {K : PySem.W.Frag} {ρ ρ1 : List Addr} {H H1 : Hp} (x : Ext K ρ H ρ1 H1) {i : Nat} {a : Addr} (h : ρ[i]? = some a) : ρ1[i]? = some a := by
  obtain ⟨⟨t, e⟩, _, _⟩ := x
  rw [e]
  exact (List.getElem?_append_left (List.getElem?_eq_some_iff.mp h).1).trans h
section
variable {K : PySem.W.Frag} {G : String → Option V} {ρ ρ1 : List Addr} {H H1 : Hp}
mutual
theorem VR.ext (x : Ext K ρ H ρ1 H1) : ∀ {m : MV} {v : V}, VR K G ρ H m v → VR K G ρ1 H1 m v
  | .non, _, h => by simpa [VR] using h
  | .bl _, _, h => by simpa [VR] using h
  | .int _, _, h => by simpa [VR] using h
  | .str _, _, h => by simpa [VR] using h
  | .byt _, _, h => by simpa [VR] using h
  | .glo _, _, h => by simpa [VR] using h
  | .ty _, _, h => by simpa [VR] using h
  | .exa _ _ _, _, h => by
    simp only [VR] at h ⊢
    exact ⟨h.1, x.at h.2⟩
  | .ref _, _, h => by
    simp only [VR] at h ⊢
    obtain ⟨a, e, q⟩ := h
    exact ⟨a, e, x.at q⟩
  | .tup xs, _, h => by
    simp only [VR] at h ⊢
    obtain ⟨a, vs, e, q, r⟩ := h
    exact ⟨a, vs, e, x.tup a vs q, VRs.ext x r⟩
  | .ktp xs, _, h => by
    simp only [VR] at h ⊢
    obtain ⟨a, vs, e, q, r⟩ := h
    exact ⟨a, vs, e, q, VRs.ext x r⟩
  | .frl xs, _, h => by
    simp only [VR] at h ⊢
    obtain ⟨a, vs, e, q, r⟩ := h
    exact ⟨a, vs, e, x.frl _ _ q, VRs.ext x r⟩
theorem VRs.ext (x : Ext K ρ H ρ1 H1) : ∀ {ms : List MV} {vs : List V}, VRs K G ρ H ms vs → VRs K G ρ1 H1 ms vs
  | [], _, h => by simpa [VRs] using h
  | m :: ms, _, h => by
    simp only [VRs] at h ⊢
    obtain ⟨v, r, e, q, t⟩ := h
    exact ⟨v, r, e, VR.ext x q, VRs.ext x t⟩
end
theorem KRs.ext {κ κ' : Type} {j : κ → κ'} (x : Ext K ρ H ρ1 H1) : ∀ {ms : List (κ × MV)} {vs : List (κ' × V)}, KRs K G ρ H j ms vs → KRs K G ρ1 H1 j ms vs
  | [], _, h => h
  | m :: ms, _, h => by
    obtain ⟨v, r, e, q, t⟩ := h
    exact ⟨v, r, e, VR.ext x q, KRs.ext x t⟩
theorem SRl.ext {sm : Lo} {σ : St} (x : Ext K ρ H ρ1 H1) (h : SRl K G ρ H sm σ) : SRl K G ρ1 H1 sm σ :=
  ⟨h.1, fun i m e => let ⟨v, a, b⟩ := h.2 i m e; ⟨v, a, b.ext x⟩⟩
end
section
variable (K : PySem.W.Frag) (G : String → Option V)
def RO {α : Type} (W : WX) (σ : St) (P : α → List Addr → Hp → Prop) (ρ : List Addr) (H : Hp) : Rz α → Prop
  | .ok v mh1 => ∀ ρ1 H1, Ext K ρ H ρ1 H1 → HR K G ρ1 H1 mh1 → P v ρ1 H1
  | .err e mh1 => ∀ ρ1 H1 cls d, Ext K ρ H ρ1 H1 → HR K G ρ1 H1 mh1 → ER K G ρ1 H1 e cls d → W cls d σ H1
  | .no => False
abbrev PV (Q : VK) : MV → List Addr → Hp → Prop := fun v ρ1 H1 => ∀ v1, VR K G ρ1 H1 v v1 → Q v1 H1
abbrev PB (Q : Bool → Hp → Prop) : Bool → List Addr → Hp → Prop := fun b _ H1 => Q b H1
abbrev PVs (Q : List V → Hp → Prop) : List MV → List Addr → Hp → Prop := fun v ρ1 H1 => ∀ v1, VRs K G ρ1 H1 v v1 → Q v1 H1
def RE (W : WX) (m : ME) : TE := fun σ H Q => ∃ ρ sm mh, Rl K G ρ H sm σ mh ∧ RO K G W σ (PV K G Q) ρ H (m sm mh)
def RT (W : WX) (m : MB) : TT := fun σ H Q => ∃ ρ sm mh, Rl K G ρ H sm σ mh ∧ RO K G W σ (PB Q) ρ H (m sm mh)
def RA (W : WX) (m : MEs) : TA := fun σ H Q => ∃ ρ sm mh, Rl K G ρ H sm σ mh ∧ RO K G W σ (PVs K G Q) ρ H (m sm mh)
def RSE (W : WX) (D : Ends) (ρ : List Addr) (H : Hp) (r : SR) : Prop :=
  match r with
  | .nx sm1 mh1 => ∀ ρ1 H1 σ1, Ext K ρ H ρ1 H1 → HR K G ρ1 H1 mh1 → SRl K G ρ1 H1 sm1 σ1 → D.nx σ1 H1
  | .bk sm1 mh1 => ∀ ρ1 H1 σ1, Ext K ρ H ρ1 H1 → HR K G ρ1 H1 mh1 → SRl K G ρ1 H1 sm1 σ1 → D.bk σ1 H1
  | .ct sm1 mh1 => ∀ ρ1 H1 σ1, Ext K ρ H ρ1 H1 → HR K G ρ1 H1 mh1 → SRl K G ρ1 H1 sm1 σ1 → D.ct σ1 H1
  | .rt v mh1 => ∀ ρ1 H1 v1, Ext K ρ H ρ1 H1 → HR K G ρ1 H1 mh1 → VR K G ρ1 H1 v v1 → D.rt v1 H1
  | .err e sm1 mh1 => ∀ ρ1 H1 σ1 cls d, Ext K ρ H ρ1 H1 → HR K G ρ1 H1 mh1 → SRl K G ρ1 H1 sm1 σ1 → ER K G ρ1 H1 e cls d → W cls d σ1 H1
  | .no => False
def RS (W : WX) (m : MS) : TS := fun D σ H => ∃ ρ sm mh, Rl K G ρ H sm σ mh ∧ RSE K G W D ρ H (m sm mh)
def SpM (n : Nat) (f : MF) : Sp := fun vs H Q E => ∃ ρ xs mh, HR K G ρ H mh ∧ VRs K G ρ H xs vs ∧ vs.length = n ∧ RO K G (fun cls d _ H => E cls d H) [] (PV K G Q) ρ H (f xs mh)
end
theorem RSE.mono {K : PySem.W.Frag} {G : String → Option V} {W : WX} {D : Ends} {ρ ρ1 : List Addr} {H H1 : Hp} {r : SR} (x : Ext K ρ H ρ1 H1) (h : RSE K G W D ρ H r) : RSE K G W D ρ1 H1 r := by
  cases r with
  | nx s m => exact fun ρ2 H2 σ1 e a b => h ρ2 H2 σ1 (x.trans e) a b
  | bk s m => exact fun ρ2 H2 σ1 e a b => h ρ2 H2 σ1 (x.trans e) a b
  | ct s m => exact fun ρ2 H2 σ1 e a b => h ρ2 H2 σ1 (x.trans e) a b
  | rt v m => exact fun ρ2 H2 σ1 e a b => h ρ2 H2 σ1 (x.trans e) a b
  | err v s m => exact fun ρ2 H2 σ1 c d e a b => h ρ2 H2 σ1 c d (x.trans e) a b
  | no => exact h
section
variable {X : Cx} {e : Expr} {es : List Expr} {st : Stmt} {sts : List Stmt}
theorem pe_imp {t t' : TE} (h : PE X e t) (i : ∀ σ H Q, t' σ H Q → t σ H Q) : PE X e t' := ⟨fun pins s σ H Q I q => h.run pins s σ H Q I (i σ H Q q)⟩
theorem pe_alt {t t' : TE} (h : PE X e t) (h' : PE X e t') : PE X e (fun σ H Q => t σ H Q ∨ t' σ H Q) :=
  ⟨fun pins s σ H Q I q => q.elim (fun q => h.run pins s σ H Q I q) fun q => h'.run pins s σ H Q I q⟩
theorem pt_imp {t t' : TT} (h : PT X e t) (i : ∀ σ H Q, t' σ H Q → t σ H Q) : PT X e t' := ⟨fun pins s σ H Q I q => h.run pins s σ H Q I (i σ H Q q)⟩
theorem pa_imp {t t' : TA} (h : PA X es t) (i : ∀ σ H Q, t' σ H Q → t σ H Q) : PA X es t' := ⟨fun pos pins s σ H Q I q => h.run pos pins s σ H Q I (i σ H Q q)⟩
theorem ps_imp {t t' : TS} (h : PS X st t) (i : ∀ D σ H, t' D σ H → t D σ H) : PS X st t' := ⟨fun pins s σ H D I q => h.run pins s σ H D I (i D σ H q)⟩
theorem pss_imp {t t' : TS} (h : PSs X sts t) (i : ∀ D σ H, t' D σ H → t D σ H) : PSs X sts t' := ⟨fun pins s σ H D I q => h.run pins s σ H D I (i D σ H q)⟩
end
section
variable {K : PySem.W.Frag} {G : String → Option V} {W : WX} {ρ : List Addr} {H : Hp} {sm : Lo} {σ : St} {mh : MH}
theorem Rl.at {ρ1 : List Addr} {H1 : Hp} {mh1 : MH} (r : Rl K G ρ H sm σ mh) (x : Ext K ρ H ρ1 H1) (h : HR K G ρ1 H1 mh1) : Rl K G ρ1 H1 sm σ mh1 := ⟨h, r.sr.ext x⟩
theorem RO.mono {α : Type} {P P1 : α → List Addr → Hp → Prop} {ρ1 : List Addr} {H1 : Hp} {r : Rz α} (h : RO K G W σ P ρ H r) (x : Ext K ρ H ρ1 H1) (hp : ∀ v ρ H, P v ρ H → P1 v ρ H) : RO K G W σ P1 ρ1 H1 r := by
  cases r with
  | ok v m => exact fun ρ2 H2 e a => hp _ _ _ (h ρ2 H2 (x.trans e) a)
  | err v m => exact fun ρ2 H2 c d e a b => h ρ2 H2 c d (x.trans e) a b
  | no => exact h
theorem RO.ext {α : Type} {P : α → List Addr → Hp → Prop} {ρ1 : List Addr} {H1 : Hp} {r : Rz α} (h : RO K G W σ P ρ H r) (x : Ext K ρ H ρ1 H1) : RO K G W σ P ρ1 H1 r := h.mono x fun _ _ _ z => z
theorem RO.bnd {α β : Type} {P : β → List Addr → Hp → Prop} {a : Rz α} {k : α → MH → Rz β} (h : RO K G W σ P ρ H (a.bnd k)) :
    RO K G W σ (fun v ρ1 H1 => ∃ mh1, Ext K ρ H ρ1 H1 ∧ HR K G ρ1 H1 mh1 ∧ RO K G W σ P ρ1 H1 (k v mh1)) ρ H a := by
  cases a with
  | ok v m => exact fun ρ1 H1 x hr => ⟨m, x, hr, RO.ext h x⟩
  | err e m => exact h
  | no => exact h
theorem RO.ok {α : Type} {P : α → List Addr → Hp → Prop} {v : α} {mh1 : MH} (h : RO K G W σ P ρ H (.ok v mh1)) (hr : HR K G ρ H mh1) : P v ρ H := h ρ H Ext.refl hr
theorem re_bnd {β : Type} {P : β → List Addr → Hp → Prop} {m : ME} {k : MV → MH → Rz β} {Q : VK} (r : Rl K G ρ H sm σ mh) (h : RO K G W σ P ρ H ((m sm mh).bnd k))
    (hq : ∀ v ρ1 H1 mh1 x, Ext K ρ H ρ1 H1 → Rl K G ρ1 H1 sm σ mh1 → VR K G ρ1 H1 v x → RO K G W σ P ρ1 H1 (k v mh1) → Q x H1) : RE K G W m σ H Q :=
  ⟨ρ, sm, mh, r, h.bnd.mono Ext.refl fun v ρ1 H1 ⟨mh1, x, hr, z⟩ x1 rv => hq v ρ1 H1 mh1 x1 x (r.at x hr) rv z⟩
theorem rt_bnd {β : Type} {P : β → List Addr → Hp → Prop} {m : MB} {k : Bool → MH → Rz β} {Q : Bool → Hp → Prop} (r : Rl K G ρ H sm σ mh) (h : RO K G W σ P ρ H ((m sm mh).bnd k))
    (hq : ∀ v ρ1 H1 mh1, Ext K ρ H ρ1 H1 → Rl K G ρ1 H1 sm σ mh1 → RO K G W σ P ρ1 H1 (k v mh1) → Q v H1) : RT K G W m σ H Q :=
  ⟨ρ, sm, mh, r, h.bnd.mono Ext.refl fun v ρ1 H1 ⟨mh1, x, hr, z⟩ => hq v ρ1 H1 mh1 x (r.at x hr) z⟩
theorem ra_bnd {β : Type} {P : β → List Addr → Hp → Prop} {m : MEs} {k : List MV → MH → Rz β} {Q : List V → Hp → Prop} (r : Rl K G ρ H sm σ mh) (h : RO K G W σ P ρ H ((m sm mh).bnd k))
    (hq : ∀ v ρ1 H1 mh1 x, Ext K ρ H ρ1 H1 → Rl K G ρ1 H1 sm σ mh1 → VRs K G ρ1 H1 v x → RO K G W σ P ρ1 H1 (k v mh1) → Q x H1) : RA K G W m σ H Q :=
  ⟨ρ, sm, mh, r, h.bnd.mono Ext.refl fun v ρ1 H1 ⟨mh1, x, hr, z⟩ x1 rv => hq v ρ1 H1 mh1 x1 x (r.at x hr) rv z⟩
end
end Mo
namespace Mo
open PySem L2
section
variable {K : PySem.W.Frag} {G : String → Option V} {ρ : List Addr} {H : Hp}
theorem VRs.length : ∀ {xs : List MV} {vs : List V}, VRs K G ρ H xs vs → xs.length = vs.length
  | [], _, h => by simp only [VRs] at h; subst h; rfl
  | x :: xs, _, h => by
    simp only [VRs] at h
    obtain ⟨v, r, rfl, _, t⟩ := h
    simp [VRs.length t]
theorem VRs.get : ∀ {xs : List MV} {vs : List V} {i : Nat} {x : MV}, VRs K G ρ H xs vs → xs[i]? = some x → ∃ v, vs[i]? = some v ∧ VR K G ρ H x v
  | [], _, _, _, _, e => by simp at e
  | y :: xs, _, 0, x, h, e => by
    simp only [VRs] at h
    obtain ⟨v, r, rfl, q, t⟩ := h
    simp at e
    subst e
    exact ⟨v, rfl, q⟩
  | y :: xs, _, i + 1, x, h, e => by
    simp only [VRs] at h
    obtain ⟨v, r, rfl, q, t⟩ := h
    simp at e
    obtain ⟨w, a, b⟩ := VRs.get (i := i) t e
    exact ⟨w, by simpa using a, b⟩
theorem VRs.nil : VRs K G ρ H [] [] := by simp [VRs]
theorem VRs.cons {x : MV} {v : V} {xs : List MV} {vs : List V} (a : VR K G ρ H x v) (b : VRs K G ρ H xs vs) : VRs K G ρ H (x :: xs) (v :: vs) := by
  simp only [VRs]; exact ⟨v, vs, rfl, a, b⟩
theorem VRs.append : ∀ {xs ys : List MV} {vs ws : List V}, VRs K G ρ H xs vs → VRs K G ρ H ys ws → VRs K G ρ H (xs ++ ys) (vs ++ ws)
  | [], _, _, _, h, k => by simp only [VRs] at h; subst h; simpa using k
  | x :: xs, _, _, _, h, k => by
    simp only [VRs] at h
    obtain ⟨v, r, rfl, q, t⟩ := h
    exact VRs.cons q (VRs.append t k)
theorem VRs.set {y : MV} {w : V} (r : VR K G ρ H y w) : ∀ {xs : List MV} {vs : List V} (i : Nat), VRs K G ρ H xs vs → VRs K G ρ H (xs.set i y) (vs.set i w)
  | [], _, _, h => by simp only [VRs] at h; subst h; exact VRs.nil
  | x :: xs, _, 0, h => by
    simp only [VRs] at h
    obtain ⟨v, s, rfl, q, t⟩ := h
    exact VRs.cons r t
  | x :: xs, _, i + 1, h => by
    simp only [VRs] at h
    obtain ⟨v, s, rfl, q, t⟩ := h
    exact VRs.cons q (VRs.set r i t)
theorem VRs.take : ∀ {xs : List MV} {vs : List V} (n : Nat), VRs K G ρ H xs vs → VRs K G ρ H (xs.take n) (vs.take n)
  | _, _, 0, h => by simp [VRs]
  | [], _, _ + 1, h => by simp only [VRs] at h; subst h; exact VRs.nil
  | x :: xs, _, n + 1, h => by
    simp only [VRs] at h
    obtain ⟨v, s, rfl, q, t⟩ := h
    exact VRs.cons q (VRs.take n t)
theorem VRs.drop : ∀ {xs : List MV} {vs : List V} (n : Nat), VRs K G ρ H xs vs → VRs K G ρ H (xs.drop n) (vs.drop n)
  | _, _, 0, h => by simpa using h
  | [], _, _ + 1, h => by simp only [VRs] at h; subst h; exact VRs.nil
  | x :: xs, _, n + 1, h => by
    simp only [VRs] at h
    obtain ⟨v, s, rfl, q, t⟩ := h
    simpa using VRs.drop n t
theorem VRs.reverse : ∀ {xs : List MV} {vs : List V}, VRs K G ρ H xs vs → VRs K G ρ H xs.reverse vs.reverse
  | [], _, h => by simp only [VRs] at h; subst h; exact VRs.nil
  | x :: xs, _, h => by
    simp only [VRs] at h
    obtain ⟨v, s, rfl, q, t⟩ := h
    rw [List.reverse_cons, List.reverse_cons]
    exact VRs.append (VRs.reverse t) (VRs.cons q VRs.nil)
end
section
variable {K : PySem.W.Frag} {G : String → Option V} {ρ : List Addr} {H : Hp} {mh : MH}
def Plain (u : HO) : Prop := (∀ vs, u ≠ .tup vs) ∧ ∀ b w, u ≠ .frz b (.lst w)
theorem OR.there {a : Addr} {o : MO} (h : OR K G ρ H a o) : ∃ u, H a = some u ∧ Plain u := by
  cases o with
  | lst xs => obtain ⟨vs, e, _⟩ := h; exact ⟨_, e, by simp [Plain], by simp⟩
  | dk xs => obtain ⟨vs, e, _⟩ := h; exact ⟨_, e, by simp [Plain], by simp⟩
  | dt xs => obtain ⟨vs, e, _⟩ := h; exact ⟨_, e, by simp [Plain], by simp⟩
  | ins c fs => obtain ⟨C, dx, vs, _, e, _⟩ := h; exact ⟨_, e, by simp [Plain], by simp⟩
  | xd c fs => obtain ⟨vs, e, _⟩ := h; exact ⟨_, e, by simp [Plain], by simp⟩
  | dx hs ks => obtain ⟨xs, e, _⟩ := h; exact ⟨_, e, by simp [Plain], by simp⟩
  | fdk od vs kvs => obtain ⟨e, _⟩ := h; exact ⟨_, e, by simp [Plain], by simp⟩
theorem ext_write {a : Addr} {o u : HO} (hu : H a = some u) (ht : Plain u) : Ext K ρ H ρ (L2.upd H a o) := by
  refine ⟨⟨[], by simp⟩, fun b vs h => ?_, fun b vs h => ?_⟩
  · by_cases e : a = b
    · subst e; rw [hu] at h; cases h; exact absurd rfl (ht.1 vs)
    · rw [L2.upd_ne (Ne.symm e)]; exact h
  · rcases h with ⟨q, h⟩ | h
    · by_cases e : a = b
      · subst e; rw [hu] at h; cases h; exact absurd rfl (ht.2 q _)
      · exact .inl ⟨q, by rw [L2.upd_ne (Ne.symm e)]; exact h⟩
    · exact .inr h
theorem ext_new {a : Addr} {o : HO} {t : List Addr} (hn : H a = none) : Ext K ρ H (ρ ++ t) (L2.upd H a o) := by
  refine ⟨⟨t, rfl⟩, fun b vs h => ?_, fun b vs h => ?_⟩
  · rw [L2.upd_ne (ne_of_none h hn)]; exact h
  · rcases h with ⟨q, h⟩ | h
    · exact .inl ⟨q, by rw [L2.upd_ne (ne_of_none h hn)]; exact h⟩
    · exact .inr h
theorem ext_new0 {a : Addr} {o : HO} (hn : H a = none) : Ext K ρ H ρ (L2.upd H a o) := by
  have := ext_new (K := K) (ρ := ρ) (t := []) (o := o) hn
  simpa using this
theorem OR.keep {ρ1 : List Addr} {H1 : Hp} {a : Addr} {o : MO} (x : Ext K ρ H ρ1 H1) (e : ∀ u, H a = some u → H1 a = some u) (h : OR K G ρ H a o) : OR K G ρ1 H1 a o := by
  cases o with
  | lst xs => obtain ⟨vs, q, r⟩ := h; exact ⟨vs, e _ q, r.ext x⟩
  | dk xs => obtain ⟨vs, q, r⟩ := h; exact ⟨vs, e _ q, r.ext x⟩
  | dt xs => obtain ⟨vs, q, r⟩ := h; exact ⟨vs, e _ q, r.ext x⟩
  | ins c fs => obtain ⟨C, dx, vs, g, q, r⟩ := h; exact ⟨C, dx, vs, g, e _ q, r.ext x⟩
  | xd c fs => obtain ⟨vs, q, r⟩ := h; exact ⟨vs, e _ q, r.ext x⟩
  | dx hs ks => obtain ⟨xs, q, r, t⟩ := h; exact ⟨xs, e _ q, r, fun y hy => (t y hy).imp_left (x.tup _ _)⟩
  | fdk od vs kvs => obtain ⟨q, r⟩ := h; exact ⟨e _ q, r.ext x⟩
theorem HR.nd_ne (h : HR K G ρ H mh) {i j : Nat} {a b : Addr} (hi : ρ[i]? = some a) (hj : ρ[j]? = some b) (n : i ≠ j) : a ≠ b := fun e => by
  subst e
  obtain ⟨h1, e1⟩ := List.getElem?_eq_some_iff.mp hi
  obtain ⟨h2, e2⟩ := List.getElem?_eq_some_iff.mp hj
  exact n ((List.getElem_inj h.nd).mp (e1.trans e2.symm))
theorem HR.get (h : HR K G ρ H mh) {i : Nat} {o : MO} {a : Addr} (e : mh[i]? = some o) (ha : ρ[i]? = some a) : OR K G ρ H a o := by
  obtain ⟨b, hb, q⟩ := h.obj i o e
  rw [ha] at hb; cases hb
  exact q
theorem HR.write {i : Nat} {o o1 : MO} {a : Addr} {u : HO} (h : HR K G ρ H mh) (ho : mh[i]? = some o) (ha : ρ[i]? = some a)
    (new : OR K G ρ (L2.upd H a u) a o1) : HR K G ρ (L2.upd H a u) (mh.set i o1) ∧ Ext K ρ H ρ (L2.upd H a u) := by
  obtain ⟨w, hw, ht⟩ := (h.get ho ha).there
  have x : Ext K ρ H ρ (L2.upd H a u) := ext_write hw ht
  refine ⟨⟨by rw [List.length_set]; exact h.len, h.nd, fun j q e => ?_⟩, x⟩
  by_cases hj : i = j
  · subst hj
    have hi : i < mh.length := (List.getElem?_eq_some_iff.mp ho).1
    rw [List.getElem?_set_self hi] at e
    cases e
    exact ⟨a, ha, new⟩
  · rw [List.getElem?_set_ne hj] at e
    obtain ⟨b, hb, r⟩ := h.obj j q e
    refine ⟨b, hb, r.keep x fun v hv => ?_⟩
    rw [L2.upd_ne (Ne.symm (h.nd_ne ha hb hj))]
    exact hv
theorem HR.notin (h : HR K G ρ H mh) {a : Addr} (hn : H a = none) : a ∉ ρ := fun hm => by
  obtain ⟨i, hi, e⟩ := List.mem_iff_getElem.mp hm
  have hi' : i < mh.length := by rw [← h.len]; exact hi
  obtain ⟨b, hb, r⟩ := h.obj i mh[i] (by simp [hi'])
  have : b = a := by
    rw [List.getElem?_eq_getElem hi, e] at hb
    exact (Option.some.inj hb).symm
  subst this
  obtain ⟨u, hu, _⟩ := r.there
  rw [hn] at hu; cases hu
theorem HR.new {a : Addr} {u : HO} {o : MO} (h : HR K G ρ H mh) (hn : H a = none) (new : OR K G (ρ ++ [a]) (L2.upd H a u) a o) :
    HR K G (ρ ++ [a]) (L2.upd H a u) (mh ++ [o]) ∧ Ext K ρ H (ρ ++ [a]) (L2.upd H a u) := by
  have x : Ext K ρ H (ρ ++ [a]) (L2.upd H a u) := ext_new hn
  have hk := h.notin hn
  refine ⟨⟨by simp [h.len], ?_, fun j q e => ?_⟩, x⟩
  · rw [List.nodup_append]
    exact ⟨h.nd, by simp, fun b hb c hc e => by simp at hc; subst hc; subst e; exact hk hb⟩
  · by_cases hj : j < mh.length
    · rw [List.getElem?_append_left hj] at e
      obtain ⟨b, hb, r⟩ := h.obj j q e
      refine ⟨b, x.at hb, r.keep x fun v hv => ?_⟩
      rw [L2.upd_ne (ne_of_none hv hn)]
      exact hv
    · have e' : j = mh.length ∧ q = o := by
        rw [List.getElem?_append_right (by omega)] at e
        have hz : j - mh.length = 0 := by
          have := (List.getElem?_eq_some_iff.mp e).1
          simp at this
          omega
        rw [hz] at e
        simp at e
        exact ⟨by omega, e.symm⟩
      obtain ⟨rfl, rfl⟩ := e'
      exact ⟨a, by rw [← h.len]; simp, new⟩
end
end Mo
namespace Mo
open PySem L2
inductive EqW (K : PySem.W.Frag) (H : Hp) : Nat → V → V → Bool → Prop
  | flat {n x y} : flatV x = true → flatV y = true → EqW K H n x y (eqV x y)
  | same {n a} : EqW K H n (.ref a) (.ref a) true
  | lst {n a b xs ys} (e : Nat → Bool) : SqL K H a xs → SqL K H b ys → xs.length = ys.length →
      (∀ j x y, xs[j]? = some x → ys[j]? = some y → EqW K H n x y (e j)) → EqW K H (n + 1) (.ref a) (.ref b) ((List.range xs.length).all e)
  | lstL {n a b xs ys} : SqL K H a xs → SqL K H b ys → xs.length ≠ ys.length → EqW K H (n + 1) (.ref a) (.ref b) false
  | tup {n a b xs ys} (e : Nat → Bool) : SqT K H a xs → SqT K H b ys →
      (∀ j x y, xs[j]? = some x → ys[j]? = some y → EqW K H n x y (e j)) → EqW K H (n + 1) (.ref a) (.ref b) ((List.range (min xs.length ys.length)).all e && xs.length == ys.length)
  | flatT {n a x xs} : flatV x = true → SqT K H a xs → EqW K H n x (.ref a) false
  | tupF {n a x xs} : flatV x = true → SqT K H a xs → EqW K H n (.ref a) x false
  | flatL {n a x xs} : flatV x = true → SqL K H a xs → EqW K H n x (.ref a) false
  | lstF {n a x xs} : flatV x = true → SqL K H a xs → EqW K H n (.ref a) x false
  | lstT {n a b xs ys} : SqL K H a xs → SqT K H b ys → EqW K H n (.ref a) (.ref b) false
  | tupL {n a b xs ys} : SqT K H a xs → SqL K H b ys → EqW K H n (.ref a) (.ref b) false
section
variable {X : Cx} {pins : List (Addr × Obj)} {σ : St} {H : Hp} {s : Shared}
theorem Inv.lt_apart (I : Inv X pins σ H s) {a : Addr} {xs ys : List V} (h : SqL X.K H a xs) (h' : SqT X.K H a ys) : False := by
  obtain ⟨is, r1, p1, _⟩ := I.list h
  obtain ⟨js, r2, p2, _⟩ := I.tuple h'
  exact SeqAt.ne_of_list_tuple p1.isList p2 rfl
theorem eqV_refl : ∀ {x : V}, flatV x = true → eqV x x = true
  | .non, _ => rfl
  | .bl b, _ => by simp [eqV]
  | .int b, _ => by simp [eqV]
  | .str b, _ => by simp [eqV]
  | .byt b, h => by simp [flatV] at h
  | .flt b, h => by simp [flatV] at h
  | .ref b, h => by simp [flatV] at h
  | .ty b, h => by simp [flatV] at h
theorem EqW.refl_true (I : Inv X pins σ H s) {n : Nat} {x y : V} {b : Bool} (h : EqW X.K H n x y b) : x = y → b = true := by
  induction h with
  | flat fx fy => rintro rfl; exact eqV_refl fx
  | same => intro _; rfl
  | lst e ha hb hl he ih =>
    intro q
    cases q
    have := I.list_inj ha hb
    subst this
    rw [List.all_eq_true]
    intro j hj
    have hj' := List.mem_range.mp hj
    exact ih j _ _ (List.getElem?_eq_getElem hj') (List.getElem?_eq_getElem hj') rfl
  | lstL ha hb hl => intro q; cases q; exact absurd (by rw [I.list_inj ha hb]) hl
  | tup e ha hb he ih =>
    intro q
    cases q
    have := I.tuple_inj ha hb
    subst this
    rw [Bool.and_eq_true, List.all_eq_true]
    refine ⟨fun j hj => ?_, by simp⟩
    have hj' := List.mem_range.mp hj
    have hj2 : j < List.length _ := Nat.lt_of_lt_of_le hj' (Nat.min_le_left _ _)
    exact ih j _ _ (List.getElem?_eq_getElem hj2) (List.getElem?_eq_getElem hj2) rfl
  | flatT fx ha => intro q; cases q; simp [flatV] at fx
  | tupF fx ha => intro q; cases q; simp [flatV] at fx
  | flatL fx ha => intro q; cases q; simp [flatV] at fx
  | lstF fx ha => intro q; cases q; simp [flatV] at fx
  | lstT ha hb => intro q; cases q; exact (Inv.lt_apart I ha hb).elim
  | tupL ha hb => intro q; cases q; exact (Inv.lt_apart I hb ha).elim
theorem EqW.at (I : Inv X pins σ H s) {n : Nat} {x y : V} {b : Bool} (h : EqW X.K H n x y b) : ∀ {A : Around} {u v : Value}, A.units + n < cLine → RelV x u → RelV y v → SeqAt.EqAt A s u v b := by
  induction h with
  | flat fx fy => exact fun _ rx ry => eqAt_V rx ry fx fy
  | same => intro A u v _ rx ry; cases rx; cases ry; exact SeqAt.EqAt.same _
  | @lst n a b xs ys e ha hb hl he ih =>
    intro A u v hu rx ry
    by_cases hne : a = b
    · rw [(EqW.lst e ha hb hl he).refl_true I (by rw [hne])]
      subst hne
      cases rx; cases ry
      exact SeqAt.EqAt.same _
    cases rx; cases ry
    obtain ⟨is, r1, p1, _⟩ := I.list ha
    obtain ⟨js, r2, p2, _⟩ := I.list hb
    have l1 := r1.length
    have l2 := r2.length
    have q := SeqAt.RcAt.lists (A := A) (e := e) p1.isList p2.isList (by simp; omega) (by omega) (fun j h1 h2 => by
      simp only [List.size_toArray] at h1 h2
      have a1 : _[j]? = some _ := List.getElem?_eq_getElem (l := _) (i := j) (by rw [l1]; exact h1)
      have a2 : _[j]? = some _ := List.getElem?_eq_getElem (l := _) (i := j) (by rw [l2]; exact h2)
      obtain ⟨w1, b1, c1⟩ := r1.get a1
      obtain ⟨w2, b2, c2⟩ := r2.get a2
      have d1 : is[j] = w1 := by rw [List.getElem?_eq_getElem h1] at b1; exact Option.some.inj b1
      have d2 : js[j] = w2 := by rw [List.getElem?_eq_getElem h2] at b2; exact Option.some.inj b2
      simp only [List.getElem_toArray]
      rw [d1, d2]
      exact ih j _ _ a1 a2 (by show A.units + 1 + _ < cLine; omega) c1 c2)
    rw [show is.toArray.size = _ from by simp; exact l1.symm] at q
    exact SeqAt.EqAt.of_refs hne q
  | lstL ha hb hl =>
    intro A u v hu rx ry
    cases rx; cases ry
    obtain ⟨is, r1, p1, _⟩ := I.list ha
    obtain ⟨js, r2, p2, _⟩ := I.list hb
    have l1 := r1.length
    have l2 := r2.length
    refine SeqAt.EqAt.of_refs (fun e => ?_) (SeqAt.RcAt.lists_lengths p1.isList p2.isList (by simp; omega) (by omega))
    subst e
    rw [I.list_inj ha hb] at hl
    exact hl rfl
  | @tup n a b xs ys e ha hb he ih =>
    intro A u v hu rx ry
    by_cases hne : a = b
    · rw [(EqW.tup e ha hb he).refl_true I (by rw [hne])]
      subst hne
      cases rx; cases ry
      exact SeqAt.EqAt.same _
    cases rx; cases ry
    obtain ⟨is, r1, p1, _⟩ := I.tuple ha
    obtain ⟨js, r2, p2, _⟩ := I.tuple hb
    have l1 := r1.length
    have l2 := r2.length
    have q := SeqAt.RcAt.tuples (A := A) (e := e) p1 p2 (by omega) (fun j h1 h2 => by
      simp only [List.size_toArray] at h1 h2
      have a1 : _[j]? = some _ := List.getElem?_eq_getElem (l := _) (i := j) (by rw [l1]; exact h1)
      have a2 : _[j]? = some _ := List.getElem?_eq_getElem (l := _) (i := j) (by rw [l2]; exact h2)
      obtain ⟨w1, b1, c1⟩ := r1.get a1
      obtain ⟨w2, b2, c2⟩ := r2.get a2
      have d1 : is[j] = w1 := by rw [List.getElem?_eq_getElem h1] at b1; exact Option.some.inj b1
      have d2 : js[j] = w2 := by rw [List.getElem?_eq_getElem h2] at b2; exact Option.some.inj b2
      simp only [List.getElem_toArray]
      rw [d1, d2]
      exact ih j _ _ a1 a2 (by show A.units + 1 + _ < cLine; omega) c1 c2)
    rw [show is.toArray.size = _ from by simp; exact l1.symm, show js.toArray.size = _ from by simp; exact l2.symm] at q
    exact SeqAt.EqAt.of_refs hne q
  | @flatT n a x xs fx ha =>
    intro A u v hu rx ry
    cases ry
    obtain ⟨js, r2, p2, _⟩ := I.tuple ha
    have hu' : A.units < cLine := by omega
    cases x with
    | non => cases rx; exact SeqAt.EqAt.none_tuple p2 hu'
    | bl b => cases rx; exact SeqAt.EqAt.bool_tuple _ p2 hu'
    | int i => obtain ⟨t, rfl⟩ := rx; exact SeqAt.EqAt.int_tuple _ _ p2 hu'
    | str i => obtain ⟨t, rfl⟩ := rx; exact SeqAt.EqAt.str_tuple _ _ p2 hu'
    | _ => simp [flatV] at fx
  | @tupF n a x xs fx ha =>
    intro A u v hu ry rx
    cases ry
    obtain ⟨js, r2, p2, _⟩ := I.tuple ha
    have hu' : A.units < cLine := by omega
    cases x with
    | non => cases rx; exact SeqAt.EqAt.tuple_none p2 hu'
    | bl b => cases rx; exact SeqAt.EqAt.tuple_bool _ p2 hu'
    | int i => obtain ⟨t, rfl⟩ := rx; exact SeqAt.EqAt.tuple_int _ _ p2 hu'
    | str i => obtain ⟨t, rfl⟩ := rx; exact SeqAt.EqAt.tuple_str _ _ p2 hu'
    | _ => simp [flatV] at fx
  | @flatL n a x xs fx ha =>
    intro A u v hu rx ry
    cases ry
    obtain ⟨js, r2, p2, _⟩ := I.list ha
    have hu' : A.units < cLine := by omega
    cases x with
    | non => cases rx; exact SeqAt.EqAt.none_list p2.isList hu'
    | bl b => cases rx; exact SeqAt.EqAt.bool_list _ p2.isList hu'
    | int i => obtain ⟨t, rfl⟩ := rx; exact SeqAt.EqAt.int_list _ _ p2.isList hu'
    | str i => obtain ⟨t, rfl⟩ := rx; exact SeqAt.EqAt.str_list _ _ p2.isList hu'
    | _ => simp [flatV] at fx
  | @lstF n a x xs fx ha =>
    intro A u v hu ry rx
    cases ry
    obtain ⟨js, r2, p2, _⟩ := I.list ha
    have hu' : A.units < cLine := by omega
    cases x with
    | non => cases rx; exact SeqAt.EqAt.list_none p2.isList hu'
    | bl b => cases rx; exact SeqAt.EqAt.list_bool _ p2.isList hu'
    | int i => obtain ⟨t, rfl⟩ := rx; exact SeqAt.EqAt.list_int _ _ p2.isList hu'
    | str i => obtain ⟨t, rfl⟩ := rx; exact SeqAt.EqAt.list_str _ _ p2.isList hu'
    | _ => simp [flatV] at fx
  | lstT ha hb =>
    intro A u v hu rx ry
    cases rx; cases ry
    obtain ⟨is, r1, p1, _⟩ := I.list ha
    obtain ⟨js, r2, p2, _⟩ := I.tuple hb
    exact SeqAt.EqAt.list_tuple p1.isList p2 (by omega)
  | tupL ha hb =>
    intro A u v hu rx ry
    cases rx; cases ry
    obtain ⟨is, r1, p1, _⟩ := I.tuple ha
    obtain ⟨js, r2, p2, _⟩ := I.list hb
    exact SeqAt.EqAt.tuple_list p1 p2.isList (by omega)
inductive RcW (K : PySem.W.Frag) (H : Hp) : Nat → V → V → Bool → Prop
  | sc {n x y} : scal x y = true → RcW K H n x y (decide (x = y))
  | lst {n a b xs ys} (e : Nat → Bool) : SqL K H a xs → SqL K H b ys → xs.length = ys.length →
      (∀ j x y, xs[j]? = some x → ys[j]? = some y → EqW K H n x y (e j)) → RcW K H (n + 1) (.ref a) (.ref b) ((List.range xs.length).all e)
  | lstL {n a b xs ys} : SqL K H a xs → SqL K H b ys → xs.length ≠ ys.length → RcW K H (n + 1) (.ref a) (.ref b) false
  | tup {n a b xs ys} (e : Nat → Bool) : SqT K H a xs → SqT K H b ys →
      (∀ j x y, xs[j]? = some x → ys[j]? = some y → EqW K H n x y (e j)) → RcW K H (n + 1) (.ref a) (.ref b) ((List.range (min xs.length ys.length)).all e && xs.length == ys.length)
  | flatT {n a x xs} : flatV x = true → SqT K H a xs → RcW K H n x (.ref a) false
  | tupF {n a x xs} : flatV x = true → SqT K H a xs → RcW K H n (.ref a) x false
  | flatL {n a x xs} : flatV x = true → SqL K H a xs → RcW K H n x (.ref a) false
  | lstF {n a x xs} : flatV x = true → SqL K H a xs → RcW K H n (.ref a) x false
  | lstT {n a b xs ys} : SqL K H a xs → SqT K H b ys → RcW K H n (.ref a) (.ref b) false
  | tupL {n a b xs ys} : SqT K H a xs → SqL K H b ys → RcW K H n (.ref a) (.ref b) false
theorem kids {n : Nat} {xs ys : List V} {is js : List Value} {e : Nat → Bool} (I : Inv X pins σ H s) (r1 : Vals xs is) (r2 : Vals ys js) (he : ∀ j x y, xs[j]? = some x → ys[j]? = some y → EqW X.K H n x y (e j)) {A : Around} (hu : A.units + n < cLine) :
    ∀ j (h1 : j < is.toArray.size) (h2 : j < js.toArray.size), SeqAt.EqAt A s is.toArray[j] js.toArray[j] (e j) := fun j h1 h2 => by
  have l1 := r1.length
  have l2 := r2.length
  simp only [List.size_toArray] at h1 h2
  have a1 : xs[j]? = some _ := List.getElem?_eq_getElem (l := _) (i := j) (by rw [l1]; exact h1)
  have a2 : ys[j]? = some _ := List.getElem?_eq_getElem (l := _) (i := j) (by rw [l2]; exact h2)
  obtain ⟨w1, b1, c1⟩ := r1.get a1
  obtain ⟨w2, b2, c2⟩ := r2.get a2
  have d1 : is[j] = w1 := by rw [List.getElem?_eq_getElem h1] at b1; exact Option.some.inj b1
  have d2 : js[j] = w2 := by rw [List.getElem?_eq_getElem h2] at b2; exact Option.some.inj b2
  simp only [List.getElem_toArray]
  rw [d1, d2]
  exact (he j _ _ a1 a2).at I hu c1 c2
theorem RcW.eqne (I : Inv X pins σ H s) {n : Nat} {x y : V} {b : Bool} (h : RcW X.K H n x y b) {u v : Value} (hu : X.A.units + n < cLine) (rx : RelV x u) (ry : RelV y v) :
    (scal x y = true ∧ b = decide (x = y)) ∨ (SeqAt.RcAt X.A s u v b ∧ SeqAt.RcNeAt X.A s u v (!b)) := by
  cases h with
  | sc h => exact .inl ⟨h, rfl⟩
  | lst e ha hb hl he =>
    cases rx; cases ry
    obtain ⟨is, r1, p1, _⟩ := I.list ha
    obtain ⟨js, r2, p2, _⟩ := I.list hb
    have l1 := r1.length
    have l2 := r2.length
    have k := kids I r1 r2 he (A := X.A.in1) (by show X.A.units + 1 + _ < cLine; omega)
    have z : is.toArray.size = js.toArray.size := by simp; omega
    have q := SeqAt.RcAt.lists (e := e) p1.isList p2.isList z (by omega) k
    have q2 := SeqAt.RcNeAt.lists (e := e) p1.isList p2.isList z (by omega) k
    rw [show is.toArray.size = _ from by simp; exact l1.symm] at q q2
    exact .inr ⟨q, q2⟩
  | lstL ha hb hl =>
    cases rx; cases ry
    obtain ⟨is, r1, p1, _⟩ := I.list ha
    obtain ⟨js, r2, p2, _⟩ := I.list hb
    have l1 := r1.length
    have l2 := r2.length
    have z : (is.toArray.size != js.toArray.size) = true := by simp; omega
    exact .inr ⟨SeqAt.RcAt.lists_lengths p1.isList p2.isList z (by omega), SeqAt.RcNeAt.lists_lengths p1.isList p2.isList z (by omega)⟩
  | tup e ha hb he =>
    cases rx; cases ry
    obtain ⟨is, r1, p1, _⟩ := I.tuple ha
    obtain ⟨js, r2, p2, _⟩ := I.tuple hb
    have l1 := r1.length
    have l2 := r2.length
    have k := kids I r1 r2 he (A := X.A.in1) (by show X.A.units + 1 + _ < cLine; omega)
    have q := SeqAt.RcAt.tuples (e := e) p1 p2 (by omega) k
    have q2 := SeqAt.RcNeAt.tuples (e := e) p1 p2 (by omega) k
    rw [show is.toArray.size = _ from by simp; exact l1.symm, show js.toArray.size = _ from by simp; exact l2.symm] at q q2
    exact .inr ⟨q, q2⟩
  | @flatT _ a x xs fx ha =>
    cases ry
    obtain ⟨js, r2, p2, _⟩ := I.tuple ha
    have hu' : X.A.units < cLine := by omega
    refine .inr ?_
    cases x with
    | non => cases rx; exact ⟨SeqAt.RcAt.none_tuple p2 hu', SeqAt.RcNeAt.none_tuple p2 hu'⟩
    | bl b => cases rx; exact ⟨SeqAt.RcAt.bool_tuple _ p2 hu', SeqAt.RcNeAt.bool_tuple _ p2 hu'⟩
    | int i => obtain ⟨t, rfl⟩ := rx; exact ⟨SeqAt.RcAt.int_tuple _ _ p2 hu', SeqAt.RcNeAt.int_tuple _ _ p2 hu'⟩
    | str i => obtain ⟨t, rfl⟩ := rx; exact ⟨SeqAt.RcAt.str_tuple _ _ p2 hu', SeqAt.RcNeAt.str_tuple _ _ p2 hu'⟩
    | _ => simp [flatV] at fx
  | @tupF _ a x xs fx ha =>
    cases rx
    obtain ⟨js, r2, p2, _⟩ := I.tuple ha
    have hu' : X.A.units < cLine := by omega
    refine .inr ?_
    cases y with
    | non => cases ry; exact ⟨SeqAt.RcAt.tuple_none p2 hu', SeqAt.RcNeAt.tuple_none p2 hu'⟩
    | bl b => cases ry; exact ⟨SeqAt.RcAt.tuple_bool _ p2 hu', SeqAt.RcNeAt.tuple_bool _ p2 hu'⟩
    | int i => obtain ⟨t, rfl⟩ := ry; exact ⟨SeqAt.RcAt.tuple_int _ _ p2 hu', SeqAt.RcNeAt.tuple_int _ _ p2 hu'⟩
    | str i => obtain ⟨t, rfl⟩ := ry; exact ⟨SeqAt.RcAt.tuple_str _ _ p2 hu', SeqAt.RcNeAt.tuple_str _ _ p2 hu'⟩
    | _ => simp [flatV] at fx
  | @flatL _ a x xs fx ha =>
    cases ry
    obtain ⟨js, r2, p2, _⟩ := I.list ha
    have hu' : X.A.units < cLine := by omega
    refine .inr ?_
    cases x with
    | non => cases rx; exact ⟨SeqAt.RcAt.none_list p2.isList hu', SeqAt.RcNeAt.none_list p2.isList hu'⟩
    | bl b => cases rx; exact ⟨SeqAt.RcAt.bool_list _ p2.isList hu', SeqAt.RcNeAt.bool_list _ p2.isList hu'⟩
    | int i => obtain ⟨t, rfl⟩ := rx; exact ⟨SeqAt.RcAt.int_list _ _ p2.isList hu', SeqAt.RcNeAt.int_list _ _ p2.isList hu'⟩
    | str i => obtain ⟨t, rfl⟩ := rx; exact ⟨SeqAt.RcAt.str_list _ _ p2.isList hu', SeqAt.RcNeAt.str_list _ _ p2.isList hu'⟩
    | _ => simp [flatV] at fx
  | @lstF _ a x xs fx ha =>
    cases rx
    obtain ⟨js, r2, p2, _⟩ := I.list ha
    have hu' : X.A.units < cLine := by omega
    refine .inr ?_
    cases y with
    | non => cases ry; exact ⟨SeqAt.RcAt.list_none p2.isList hu', SeqAt.RcNeAt.list_none p2.isList hu'⟩
    | bl b => cases ry; exact ⟨SeqAt.RcAt.list_bool _ p2.isList hu', SeqAt.RcNeAt.list_bool _ p2.isList hu'⟩
    | int i => obtain ⟨t, rfl⟩ := ry; exact ⟨SeqAt.RcAt.list_int _ _ p2.isList hu', SeqAt.RcNeAt.list_int _ _ p2.isList hu'⟩
    | str i => obtain ⟨t, rfl⟩ := ry; exact ⟨SeqAt.RcAt.list_str _ _ p2.isList hu', SeqAt.RcNeAt.list_str _ _ p2.isList hu'⟩
    | _ => simp [flatV] at fx
  | lstT ha hb =>
    cases rx; cases ry
    obtain ⟨is, r1, p1, _⟩ := I.list ha
    obtain ⟨js, r2, p2, _⟩ := I.tuple hb
    exact .inr ⟨SeqAt.RcAt.list_tuple p1.isList p2 (by omega), SeqAt.RcNeAt.list_tuple p1.isList p2 (by omega)⟩
  | tupL ha hb =>
    cases rx; cases ry
    obtain ⟨is, r1, p1, _⟩ := I.tuple ha
    obtain ⟨js, r2, p2, _⟩ := I.list hb
    exact .inr ⟨SeqAt.RcAt.tuple_list p1 p2.isList (by omega), SeqAt.RcNeAt.tuple_list p1 p2.isList (by omega)⟩
end
section
variable {X : Cx}
def DEP : Nat := 8
def rEqM (K : PySem.W.Frag) : R2 := fun x y H Q => ∃ b, RcW K H DEP x y b ∧ Q (.bl b) H
def rNeM (K : PySem.W.Frag) : R2 := fun x y H Q => ∃ b, RcW K H DEP x y b ∧ Q (.bl (!b)) H
theorem op_eqM (hu : X.A.units + 64 < cLine) : OpR X (compareOp .Eq) (rEqM X.K) := by
  intro pins s σ H x y v u Q I rx ry h
  obtain ⟨b, d, q⟩ := h
  rcases d.eqne I (by unfold DEP; omega) rx ry with ⟨h1, rfl⟩ | ⟨h1, _⟩
  · exact op_eq pins s σ H x y v u Q I rx ry ⟨h1, q⟩
  · exact h1 _ _ _ _ ⟨.bl b, H, I, rfl, q⟩
theorem op_neM (hu : X.A.units + 64 < cLine) : OpR X (compareOp .NotEq) (rNeM X.K) := by
  intro pins s σ H x y v u Q I rx ry h
  obtain ⟨b, d, q⟩ := h
  rcases d.eqne I (by unfold DEP; omega) rx ry with ⟨h1, rfl⟩ | ⟨_, h1⟩
  · exact op_ne pins s σ H x y v u Q I rx ry ⟨h1, q⟩
  · exact h1 _ _ _ _ ⟨.bl (!b), H, I, rfl, q⟩
end
def flM : MV → Bool
  | .non => true | .bl _ => true | .int _ => true | .str _ => true | _ => false
def asT : MV → Option (List MV)
  | .tup xs => some xs | .ktp xs => some xs | _ => none
def eqF : MV → MV → Bool
  | .non, .non => true
  | .bl a, .bl b => a == b
  | .bl a, .int b => (if a then 1 else 0) == b
  | .int a, .bl b => a == (if b then 1 else 0)
  | .int a, .int b => a == b
  | .str a, .str b => a == b
  | _, _ => false
def eqs (f : MV → MV → Option Bool) : List MV → List MV → Option Bool
  | [], [] => some true
  | x :: xs, y :: ys => match f x y, eqs f xs ys with
    | some a, some b => some (a && b)
    | _, _ => none
  | _, _ => some false
def lstAt (h : MH) : MV → Option (List MV)
  | .ref i => match h[i]? with
    | some (.lst xs) => some xs
    | _ => none
  | _ => none
def sameR : MV → MV → Bool
  | .ref i, .ref j => decide (i = j)
  | _, _ => false
def mEqS (f : MV → MV → Option Bool) (h : MH) (x y : MV) : Option Bool :=
  match asT x, asT y, lstAt h x, lstAt h y with
  | some xs, some ys, _, _ => eqs f xs ys
  | _, _, some xs, some ys => if xs.length = ys.length then eqs f xs ys else some false
  | some _, _, _, some _ => some false
  | _, some _, some _, _ => some false
  | some _, _, _, _ => if flM y then some false else none
  | _, some _, _, _ => if flM x then some false else none
  | _, _, some _, _ => if flM y then some false else none
  | _, _, _, some _ => if flM x then some false else none
  | _, _, _, _ => none
def mEq : Nat → MH → MV → MV → Option Bool
  | n, h, x, y => if flM x && flM y then some (eqF x y) else match n with
    | 0 => none
    | n + 1 => if sameR x y then some true else mEqS (mEq n h) h x y
def scM : MV → MV → Bool
  | .bl _, .int _ => false
  | .int _, .bl _ => false
  | x, y => flM x && flM y
def mRc (h : MH) (x y : MV) : Option Bool := match x, y with
  | .byt a, .byt b => some (decide (a = b))
  | x, y => if scM x y then some (eqF x y) else mEqS (mEq 7 h) h x y
section
variable {K : PySem.W.Frag} {G : String → Option V} {ρ : List Addr} {H : Hp} {mh : MH}
theorem flM_V {x : MV} {v : V} (h : VR K G ρ H x v) (f : flM x = true) : flatV v = true ∧ ∀ {y : MV} {w : V}, VR K G ρ H y w → flM y = true → eqV v w = eqF x y := by
  cases x with
  | non => simp only [VR] at h; subst h; refine ⟨rfl, fun {y w} hy fy => ?_⟩; cases y <;> simp [flM] at fy <;> simp only [VR] at hy <;> subst hy <;> rfl
  | bl b => simp only [VR] at h; subst h; refine ⟨rfl, fun {y w} hy fy => ?_⟩; cases y <;> simp [flM] at fy <;> simp only [VR] at hy <;> subst hy <;> rfl
  | int b => simp only [VR] at h; subst h; refine ⟨rfl, fun {y w} hy fy => ?_⟩; cases y <;> simp [flM] at fy <;> simp only [VR] at hy <;> subst hy <;> rfl
  | str b => simp only [VR] at h; subst h; refine ⟨rfl, fun {y w} hy fy => ?_⟩; cases y <;> simp [flM] at fy <;> simp only [VR] at hy <;> subst hy <;> rfl
  | _ => simp [flM] at f
theorem HR.lst (hr : HR K G ρ H mh) {i : Nat} {xs : List MV} {v : V} (e : mh[i]? = some (.lst xs)) (r : VR K G ρ H (.ref i) v) : ∃ a vs, v = .ref a ∧ ρ[i]? = some a ∧ H a = some (.lst vs) ∧ VRs K G ρ H xs vs := by
  simp only [VR] at r
  obtain ⟨a, rfl, ha⟩ := r
  obtain ⟨vs, h1, h2⟩ := hr.get e ha
  exact ⟨a, vs, rfl, ha, h1, h2⟩
theorem VR.tup {x : MV} {xs : List MV} {v : V} (e : asT x = some xs) (r : VR K G ρ H x v) : ∃ a vs, v = .ref a ∧ SqT K H a vs ∧ VRs K G ρ H xs vs := by
  cases x <;> simp [asT] at e
  · subst e
    simp only [VR] at r
    obtain ⟨a, vs, e1, h1, h2⟩ := r
    exact ⟨a, vs, e1, SqT.of h1, h2⟩
  · subst e
    simp only [VR] at r
    obtain ⟨a, vs, e1, h1, h2⟩ := r
    exact ⟨a, vs, e1, h1.sq, h2⟩
theorem HR.lst' (hr : HR K G ρ H mh) {x : MV} {xs : List MV} {v : V} (e : lstAt mh x = some xs) (r : VR K G ρ H x v) : ∃ a vs, v = .ref a ∧ SqL K H a vs ∧ VRs K G ρ H xs vs := by
  unfold lstAt at e
  split at e
  · split at e
    · rename_i q
      cases e
      obtain ⟨a, vs, e1, _, h1, h2⟩ := hr.lst q r
      exact ⟨a, vs, e1, SqL.of h1, h2⟩
    · cases e
  · cases e
theorem eqs_sound {f : MV → MV → Option Bool} {P : V → V → Bool → Prop} (hf : ∀ {x y v w b}, f x y = some b → VR K G ρ H x v → VR K G ρ H y w → P v w b) :
    ∀ {xs ys : List MV} {vs ws : List V} {b : Bool}, eqs f xs ys = some b → VRs K G ρ H xs vs → VRs K G ρ H ys ws →
      ∃ e : Nat → Bool, (∀ j x y, vs[j]? = some x → ws[j]? = some y → P x y (e j)) ∧ b = ((List.range (min vs.length ws.length)).all e && vs.length == ws.length) ∧ (vs.length = ws.length → b = (List.range vs.length).all e)
  | [], [], _, _, b, h, r1, r2 => by
    simp only [VRs] at r1 r2; subst r1 r2
    simp [eqs] at h; subst h
    exact ⟨fun _ => true, fun j x y e => by simp at e, by simp, by simp⟩
  | [], y :: ys, _, _, b, h, r1, r2 => by
    simp only [VRs] at r1 r2; subst r1
    obtain ⟨w, s, rfl, q, t⟩ := r2
    simp [eqs] at h; subst h
    exact ⟨fun _ => true, fun j x y e => by simp at e, by simp, by simp⟩
  | x :: xs, [], _, _, b, h, r1, r2 => by
    simp only [VRs] at r1 r2; subst r2
    obtain ⟨w, s, rfl, q, t⟩ := r1
    simp [eqs] at h; subst h
    exact ⟨fun _ => true, fun j x y _ e => by simp at e, by simp, by simp⟩
  | x :: xs, y :: ys, _, _, b, h, r1, r2 => by
    simp only [VRs] at r1 r2
    obtain ⟨v, vs, rfl, q1, t1⟩ := r1
    obtain ⟨w, ws, rfl, q2, t2⟩ := r2
    simp only [eqs] at h
    cases h1 : f x y with
    | none => rw [h1] at h; simp at h
    | some a =>
      cases h2 : eqs f xs ys with
      | none => rw [h1, h2] at h; simp at h
      | some c =>
        rw [h1, h2] at h
        simp at h
        obtain ⟨e, he, hb, hb2⟩ := eqs_sound hf h2 t1 t2
        have key : ∀ n, (List.range (n + 1)).all (fun j => match j with | 0 => a | j + 1 => e j) = (a && (List.range n).all e) := by
          intro n
          rw [List.range_succ_eq_map, List.all_cons, List.all_map]
          rfl
        refine ⟨fun j => match j with | 0 => a | j + 1 => e j, fun j x' y' e1 e2 => ?_, ?_, fun hl => ?_⟩
        · cases j with
          | zero =>
            simp at e1 e2; subst e1 e2
            exact hf h1 q1 q2
          | succ j =>
            simp at e1 e2
            exact he j _ _ e1 e2
        · rw [List.length_cons, List.length_cons, Nat.add_min_add_right, key, ← h, hb]
          simp [Bool.and_assoc]
        · rw [List.length_cons, key, ← h, hb2 (by simpa using hl)]
theorem mEqS_sound (hr : HR K G ρ H mh) {n : Nat} {f : MV → MV → Option Bool} (hf : ∀ {x y v w b}, f x y = some b → VR K G ρ H x v → VR K G ρ H y w → EqW K H n v w b) {x y : MV} {v w : V} {b : Bool}
    (h : mEqS f mh x y = some b) (rx : VR K G ρ H x v) (ry : VR K G ρ H y w) : RcW K H (n + 1) v w b ∧ EqW K H (n + 1) v w b := by
  unfold mEqS at h
  split at h
  · obtain ⟨a, vs, rfl, h1, r1⟩ := VR.tup (x := x) (by assumption) rx
    obtain ⟨c, ws, rfl, h2, r2⟩ := VR.tup (x := y) (by assumption) ry
    obtain ⟨e, he, hb, _⟩ := eqs_sound (P := fun x y b => EqW K H n x y b) (fun h a b => hf h a b) h r1 r2
    rw [hb]
    exact ⟨.tup e h1 h2 he, .tup e h1 h2 he⟩
  · obtain ⟨a, vs, rfl, h1, r1⟩ := hr.lst' (x := x) (by assumption) rx
    obtain ⟨c, ws, rfl, h2, r2⟩ := hr.lst' (x := y) (by assumption) ry
    have l1 := r1.length
    have l2 := r2.length
    split at h
    · obtain ⟨e, he, _, hb⟩ := eqs_sound (P := fun x y b => EqW K H n x y b) (fun h a b => hf h a b) h r1 r2
      rw [hb (by omega)]
      exact ⟨.lst e h1 h2 (by omega) he, .lst e h1 h2 (by omega) he⟩
    · cases h
      exact ⟨.lstL h1 h2 (by omega), .lstL h1 h2 (by omega)⟩
  · obtain ⟨a, vs, rfl, h1, r1⟩ := VR.tup (x := x) (by assumption) rx
    obtain ⟨c, ws, rfl, h2, r2⟩ := hr.lst' (x := y) (by assumption) ry
    cases h
    exact ⟨.tupL h1 h2, .tupL h1 h2⟩
  · obtain ⟨a, vs, rfl, h1, r1⟩ := VR.tup (x := y) (by assumption) ry
    obtain ⟨c, ws, rfl, h2, r2⟩ := hr.lst' (x := x) (by assumption) rx
    cases h
    exact ⟨.lstT h2 h1, .lstT h2 h1⟩
  · obtain ⟨a, vs, rfl, h1, r1⟩ := VR.tup (x := x) (by assumption) rx
    split at h
    · rename_i f2
      cases h
      exact ⟨.tupF (flM_V ry f2).1 h1, .tupF (flM_V ry f2).1 h1⟩
    · cases h
  · obtain ⟨a, vs, rfl, h1, r1⟩ := VR.tup (x := y) (by assumption) ry
    split at h
    · rename_i f2
      cases h
      exact ⟨.flatT (flM_V rx f2).1 h1, .flatT (flM_V rx f2).1 h1⟩
    · cases h
  · obtain ⟨a, vs, rfl, h1, r1⟩ := hr.lst' (x := x) (by assumption) rx
    split at h
    · rename_i f2
      cases h
      exact ⟨.lstF (flM_V ry f2).1 h1, .lstF (flM_V ry f2).1 h1⟩
    · cases h
  · obtain ⟨a, vs, rfl, h1, r1⟩ := hr.lst' (x := y) (by assumption) ry
    split at h
    · rename_i f2
      cases h
      exact ⟨.flatL (flM_V rx f2).1 h1, .flatL (flM_V rx f2).1 h1⟩
    · cases h
  · cases h
theorem mEq_sound (hr : HR K G ρ H mh) : ∀ {n : Nat} {x y : MV} {v w : V} {b : Bool}, mEq n mh x y = some b → VR K G ρ H x v → VR K G ρ H y w → EqW K H n v w b := by
  intro n
  induction n with
  | zero =>
    intro x y v w b h rx ry
    unfold mEq at h
    by_cases f : (flM x && flM y) = true
    · rw [if_pos f] at h
      rw [Bool.and_eq_true] at f
      obtain ⟨f1, e1⟩ := flM_V rx f.1
      rw [← Option.some.inj h, ← e1 ry f.2]
      exact .flat f1 (flM_V ry f.2).1
    · rw [if_neg f] at h; simp at h
  | succ n ih =>
    intro x y v w b h rx ry
    unfold mEq at h
    by_cases f : (flM x && flM y) = true
    · rw [if_pos f] at h
      rw [Bool.and_eq_true] at f
      obtain ⟨f1, e1⟩ := flM_V rx f.1
      rw [← Option.some.inj h, ← e1 ry f.2]
      exact .flat f1 (flM_V ry f.2).1
    · rw [if_neg f] at h
      dsimp only at h
      split at h
      · rename_i hs
        cases h
        cases x <;> cases y <;> simp [sameR] at hs
        subst hs
        simp only [VR] at rx ry
        obtain ⟨a, rfl, ha⟩ := rx
        obtain ⟨c, rfl, hc⟩ := ry
        rw [ha] at hc; cases hc
        exact .same
      · exact (mEqS_sound hr (fun h a b => ih h a b) h rx ry).2
theorem mRc_sound (hr : HR K G ρ H mh) {x y : MV} {v w : V} {b : Bool} (h : mRc mh x y = some b) (rx : VR K G ρ H x v) (ry : VR K G ρ H y w) : RcW K H DEP v w b := by
  unfold mRc at h
  split at h
  · simp only [VR] at rx ry; subst rx ry
    cases h
    rename_i p q
    have : decide (p = q) = decide (V.byt p = V.byt q) := by simp
    rw [this]
    exact .sc rfl
  · split at h
    · rename_i f
      cases h
      have hh : scal v w = true ∧ eqF x y = decide (v = w) := by
        cases x <;> simp [scM, flM] at f <;> cases y <;> simp [scM, flM] at f <;> simp only [VR] at rx ry <;> subst rx ry <;> first
          | exact ⟨rfl, by simp [eqF, Bool.beq_eq_decide_eq]⟩
          | exact ⟨rfl, by simp [eqF]⟩
      rw [hh.2]
      exact .sc hh.1
    · exact (mEqS_sound hr (fun h a b => mEq_sound hr h a b) h rx ry).1
end
end Mo
namespace Mo
open PySem L2
abbrev SZ : Nat := 16777216
theorem SZ_eq : sizeLine = SZ := sizeLine_eq
abbrev OV := Option (MV × MH)
def lift : OV → Rz MV
  | some (v, h) => .ok v h
  | none => .no
def eC (v : MV) : ME := fun _ h => .ok v h
def eV (i : Nat) : ME := fun s h => match s[i]? with
  | some (some v) => .ok v h
  | _ => .no
def e1 (f : MV → MH → OV) (a : ME) : ME := fun s h => (a s h).bnd fun x h1 => lift (f x h1)
def e2 (f : MV → MV → MH → OV) (a b : ME) : ME := fun s h => (a s h).bnd fun x h1 => (b s h1).bnd fun y h2 => lift (f x y h2)
def eA (f : List MV → MH → OV) (as : MEs) : ME := fun s h => (as s h).bnd fun xs h1 => lift (f xs h1)
def aNil : MEs := fun _ h => .ok [] h
def aCons (a : ME) (r : MEs) : MEs := fun s h => (a s h).bnd fun x h1 => (r s h1).bnd fun xs h2 => .ok (x :: xs) h2
def eIf (c : MB) (a b : ME) : ME := fun s h => (c s h).bnd fun k h1 => if k = true then a s h1 else b s h1
def asB (v : MV) : Option Bool := match v with | .bl b => some b | _ => none
def bB (a : ME) : MB := fun s h => (a s h).bnd fun x h1 => match asB x with
  | some b => .ok b h1
  | none => .no
def tru (h : MH) : MV → Option Bool
  | .non => some false
  | .bl b => some b
  | .int i => some (i != 0)
  | .str x => if x.length ≤ SZ then some ((x.length : Int) != 0) else none
  | .ref i => match h[i]? with
    | some (.lst xs) => some (!xs.isEmpty)
    | some (.dk kvs) => some (!kvs.isEmpty)
    | _ => none
  | .tup xs => some (!xs.isEmpty)
  | .ktp xs => some (!xs.isEmpty)
  | _ => none
def bT (a : ME) : MB := fun s h => (a s h).bnd fun x h1 => match tru h1 x with
  | some b => .ok b h1
  | none => .no
def bAnd (a b : MB) : MB := fun s h => (a s h).bnd fun k h1 => if k = true then b s h1 else .ok false h1
def bOr (a b : MB) : MB := fun s h => (a s h).bnd fun k h1 => if k = true then .ok true h1 else b s h1
def bNot (a : MB) : MB := fun s h => (a s h).bnd fun k h1 => .ok (!k) h1
def eAnd (a b : ME) : ME := fun s h => (a s h).bnd fun x h1 => match asB x with
  | some k => if k = true then b s h1 else .ok (.bl false) h1
  | none => .no
def eOr (a b : ME) : ME := fun s h => (a s h).bnd fun x h1 => match asB x with
  | some k => if k = true then .ok (.bl true) h1 else b s h1
  | none => .no
def eNot (a : ME) : ME := fun s h => (a s h).bnd fun x h1 => match asB x with
  | some k => .ok (.bl (!k)) h1
  | none => .no
section
variable {X : Cx} {G : String → Option V} {W : WX} {a b c : Expr} {ma mb mc : ME} {pos : Pos} {σ : St} {H : Hp} {Q : VK} {ρ : List Addr} {mh : MH}
theorem ro_lift {P : MV → List Addr → Hp → Prop} {o : OV} (h : RO X.K G W σ P ρ H (lift o)) : ∃ v h1, o = some (v, h1) ∧ ∀ ρ1 H1, Ext X.K ρ H ρ1 H1 → HR X.K G ρ1 H1 h1 → P v ρ1 H1 := by
  cases o with
  | none => exact False.elim h
  | some p => exact ⟨p.1, p.2, rfl, h⟩
theorem m_var {i : Nat} {x : Str} (h : PE X (.Name x pos) (tVar i)) : PE X (.Name x pos) (RE X.K G W (eV i)) := pe_imp h fun σ H Q ⟨ρ, sm, mh, r, q⟩ => by
  unfold eV at q
  cases e : sm[i]? with
  | none => rw [e] at q; exact False.elim q
  | some o =>
    cases o with
    | none => rw [e] at q; exact False.elim q
    | some v =>
      rw [e] at q
      obtain ⟨w, h1, h2⟩ := r.sr.2 i v e
      exact ⟨w, h1, q.ok r.hr w h2⟩
theorem m_const {v : MV} {w : V} (h : PE X a (tC w)) (hv : ∀ ρ H, VR X.K G ρ H v w) : PE X a (RE X.K G W (eC v)) := pe_imp h fun σ H Q ⟨ρ, sm, mh, r, q⟩ => q.ok r.hr w (hv ρ H)
theorem m_int {i : Int} {j} : PE X (.Constant (.int i) j pos) (RE X.K G W (eC (.int i))) := m_const pe_int fun _ _ => by simp [VR]
theorem m_bl {i : Bool} {j} : PE X (.Constant (.bool i) j pos) (RE X.K G W (eC (.bl i))) := m_const pe_bl fun _ _ => by simp [VR]
theorem m_non {j} : PE X (.Constant .none j pos) (RE X.K G W (eC .non)) := m_const pe_non fun _ _ => by simp [VR]
theorem m_str {x : Str} {j} : PE X (.Constant (.str x) j pos) (RE X.K G W (eC (.str x))) := m_const pe_str fun _ _ => by simp [VR]
def R2S (K : PySem.W.Frag) (G : String → Option V) (r : R2) (f : MV → MV → MH → OV) : Prop :=
  ∀ {ρ : List Addr} {H : Hp} {mh mh1 : MH} {x y z : MV} {v w : V} {Q : VK}, HR K G ρ H mh → VR K G ρ H x v → VR K G ρ H y w → f x y mh = some (z, mh1) →
    (∀ ρ1 H1, Ext K ρ H ρ1 H1 → HR K G ρ1 H1 mh1 → ∀ v1, VR K G ρ1 H1 z v1 → Q v1 H1) → r v w H Q
theorem op_re {r : R2} {f : MV → MV → MH → OV} (hs : R2S X.K G r f) (σ : St) (H : Hp) (Q : VK) (h : RE X.K G W (e2 f ma mb) σ H Q) : tOp r (RE X.K G W ma) (RE X.K G W mb) σ H Q := by
  obtain ⟨ρ, sm, mh, r0, q⟩ := h
  refine re_bnd r0 q fun x ρ1 H1 mh1 v x1 r1 rv q1 => ?_
  refine re_bnd r1 q1 fun y ρ2 H2 mh2 w x2 r2 rw' q2 => ?_
  obtain ⟨z, h1, e, k⟩ := ro_lift q2
  exact hs r2.hr (rv.ext x2) rw' e k
theorem m_op {op : Operator} {r : R2} {f : MV → MV → MH → OV} (ho : OpR X (binaryOp op) r) (hs : R2S X.K G r f) (ha : PE X a (RE X.K G W ma)) (hb : PE X b (RE X.K G W mb)) : PE X (.BinOp a op b pos) (RE X.K G W (e2 f ma mb)) :=
  pe_imp (pe_op ho ha hb) (op_re hs)
theorem m_cmp {op : CmpOp} {r : R2} {f : MV → MV → MH → OV} (ho : OpR X (compareOp op) r) (hs : R2S X.K G r f) (ha : PE X a (RE X.K G W ma)) (hb : PE X b (RE X.K G W mb)) (hm : behindInMarks op b = false) : PE X (.Compare a [op] [b] pos) (RE X.K G W (e2 f ma mb)) :=
  pe_imp (pe_cmpR ho ha hb hm) (op_re hs)
theorem bB_re {m : ME} (σ : St) (H : Hp) (Q : Bool → Hp → Prop) (h : RT X.K G W (bB m) σ H Q) : RE X.K G W m σ H fun x H' => ∃ k, x = .bl k ∧ Q k H' := by
  obtain ⟨ρ, sm, mh, r0, q⟩ := h
  refine re_bnd r0 q fun x ρ1 H1 mh1 v x1 r1 rv q1 => ?_
  cases x with
  | bl k => simp only [VR] at rv; exact ⟨k, rv, RO.ok (P := PB Q) q1 r1.hr⟩
  | _ => exact False.elim q1
theorem m_cmpT {op : CmpOp} {r : R2} {f : MV → MV → MH → OV} (ho : OpR X (compareOp op) r) (hs : R2S X.K G r f) (ha : PE X a (RE X.K G W ma)) (hb : PE X b (RE X.K G W mb)) (hm : behindInMarks op b = false) : PT X (.Compare a [op] [b] pos) (RT X.K G W (bB (e2 f ma mb))) := by
  refine pt_imp (pt_cmpR ho ha hb hm) fun σ H Q h => ?_
  have h' := bB_re σ H Q h
  exact op_re hs σ H _ h'
theorem m_truth {m : ME} (ha : PE X a (RE X.K G W m)) (he : ∀ whole, isTrue a X.env whole = (do let v ← whole; standAt a.pos; holding [v] (truthy v))) : PT X a (RT X.K G W (bT m)) := by
  refine pt_imp (pt_truth ha he) fun σ H Q ⟨ρ, sm, mh, r0, q⟩ => ?_
  refine re_bnd r0 q fun x ρ1 H1 mh1 v x1 r1 rv q1 => ?_
  cases e : tru mh1 x with
  | none => rw [e] at q1; exact False.elim q1
  | some k =>

    rw [e] at q1
    refine ⟨k, ?_, RO.ok (P := PB Q) q1 r1.hr⟩
    cases x with
    | non => simp only [VR] at rv; subst rv; simp [tru] at e; exact e
    | bl b => simp only [VR] at rv; subst rv; simp [tru] at e; exact e.symm
    | int i => simp only [VR] at rv; subst rv; simp only [tru, Option.some.injEq] at e; exact e.symm
    | str y =>
      simp only [VR] at rv; subst rv
      simp only [tru] at e
      split at e
      · rename_i hy
        exact ⟨by rw [SZ_eq]; exact hy, (Option.some.inj e).symm⟩
      · simp at e
    | tup xs =>
      obtain ⟨p, vs, rfl, h1, h2⟩ := rv.tup rfl
      simp only [tru, Option.some.injEq] at e
      refine .inr (.inl ⟨vs, h1, ?_⟩)
      rw [← e]
      have := h2.length
      cases xs <;> cases vs <;> simp at this <;> rfl
    | ktp xs =>
      obtain ⟨p, vs, rfl, h1, h2⟩ := rv.tup rfl
      simp only [tru, Option.some.injEq] at e
      refine .inr (.inl ⟨vs, h1, ?_⟩)
      rw [← e]
      have := h2.length
      cases xs <;> cases vs <;> simp at this <;> rfl
    | ref i =>
      simp only [tru] at e
      split at e
      · rename_i xs q2
        obtain ⟨p, vs, rfl, _, h1, h2⟩ := r1.hr.lst q2 rv
        refine .inl ⟨vs, SqL.of h1, ?_⟩
        rw [← Option.some.inj e]
        have := h2.length
        cases xs <;> cases vs <;> simp at this <;> rfl
      · rename_i kvs q2
        simp only [VR] at rv
        obtain ⟨p, rfl, hp⟩ := rv
        obtain ⟨vs, h1, h2⟩ := r1.hr.get q2 hp
        refine .inr (.inr ⟨vs, h1, ?_⟩)
        rw [← Option.some.inj e]
        cases kvs with
        | nil => simp only [KRs] at h2; subst h2; rfl
        | cons p r => simp only [KRs] at h2; obtain ⟨_, _, rfl, _⟩ := h2; rfl
      · simp at e
    | _ => simp [tru] at e
variable {tA tB : MB} {rest : List Expr}
theorem m_and1 (ha : PT X a (RT X.K G W tA)) : PW X (.BoolOp .And [a] pos) (RT X.K G W tA) := pw_and1 ha
theorem m_or1 (ha : PT X a (RT X.K G W tA)) : PW X (.BoolOp .Or [a] pos) (RT X.K G W tA) := pw_or1 ha
theorem pw_imp {e : Expr} {t t' : TT} (h : PW X e t) (i : ∀ σ H Q, t' σ H Q → t σ H Q) : PW X e t' := ⟨fun wh pins s σ H Q I q => h.run wh pins s σ H Q I (i σ H Q q)⟩
theorem m_and (ha : PT X a (RT X.K G W tA)) (hb : PW X (.BoolOp .And (b :: rest) pos) (RT X.K G W tB)) : PW X (.BoolOp .And (a :: b :: rest) pos) (RT X.K G W (bAnd tA tB)) := by
  refine pw_imp (pw_and ha hb) fun σ H Q ⟨ρ, sm, mh, r0, q⟩ => ?_
  refine rt_bnd r0 q fun k ρ1 H1 mh1 x1 r1 q1 => ?_
  cases k with
  | true => rw [if_pos rfl] at q1 ⊢; exact ⟨_, _, _, r1, q1⟩
  | false => rw [if_neg Bool.false_ne_true] at q1 ⊢; exact RO.ok (P := PB Q) q1 r1.hr
theorem m_or (ha : PT X a (RT X.K G W tA)) (hb : PW X (.BoolOp .Or (b :: rest) pos) (RT X.K G W tB)) : PW X (.BoolOp .Or (a :: b :: rest) pos) (RT X.K G W (bOr tA tB)) := by
  refine pw_imp (pw_or ha hb) fun σ H Q ⟨ρ, sm, mh, r0, q⟩ => ?_
  refine rt_bnd r0 q fun k ρ1 H1 mh1 x1 r1 q1 => ?_
  cases k with
  | true => rw [if_pos rfl] at q1 ⊢; exact RO.ok (P := PB Q) q1 r1.hr
  | false => rw [if_neg Bool.false_ne_true] at q1 ⊢; exact ⟨_, _, _, r1, q1⟩
theorem m_not (ha : PT X a (RT X.K G W tA)) : PT X (.UnaryOp .Not a pos) (RT X.K G W (bNot tA)) := by
  refine pt_imp (pt_not ha) fun σ H Q ⟨ρ, sm, mh, r0, q⟩ => ?_
  exact rt_bnd r0 q fun k ρ1 H1 mh1 x1 r1 q1 => RO.ok (P := PB Q) q1 r1.hr
theorem m_eone {op} {m : ME} (h : PE X a (RE X.K G W m)) : PE X (.BoolOp op [a] pos) (RE X.K G W m) := pe_one h
theorem m_eand (ha : PE X a (RE X.K G W ma)) (hb : PE X (.BoolOp .And (b :: rest) pos) (RE X.K G W mb)) : PE X (.BoolOp .And (a :: b :: rest) pos) (RE X.K G W (eAnd ma mb)) := by
  refine pe_imp (pe_and ha hb) fun σ H Q ⟨ρ, sm, mh, r0, q⟩ => ?_
  refine re_bnd r0 q fun x ρ1 H1 mh1 v x1 r1 rv q1 => ?_
  cases x with
  | bl k =>
    simp only [VR] at rv
    refine ⟨k, rv, ?_⟩
    cases k with
    | true => rw [if_pos rfl]; exact ⟨_, _, _, r1, q1⟩
    | false => rw [if_neg Bool.false_ne_true]; exact RO.ok (P := PV X.K G Q) q1 r1.hr _ (by simp [VR])
  | _ => exact False.elim q1
end
section
variable {X : Cx} {G : String → Option V} {W : WX} {e : Expr} {es : List Expr} {m : ME} {ms : MEs} {pos : Pos}
theorem m_anil : PA X [] (RA X.K G W aNil) := pa_imp pa_nil fun σ H Q ⟨ρ, sm, mh, r, q⟩ => RO.ok (P := PVs X.K G Q) q r.hr _ VRs.nil
theorem m_acons (ha : PE X e (RE X.K G W m)) (hr : PA X es (RA X.K G W ms)) (hs : starEach (e :: es) X.env = (false, eval e X.env) :: starEach es X.env := by rfl) : PA X (e :: es) (RA X.K G W (aCons m ms)) := by
  refine pa_imp (pa_cons ha hr hs) fun σ H Q ⟨ρ, sm, mh, r0, q⟩ => ?_
  refine re_bnd r0 q fun x ρ1 H1 mh1 v x1 r1 rv q1 => ?_
  exact ra_bnd r1 q1 fun xs ρ2 H2 mh2 vs x2 r2 rvs q2 => RO.ok (P := PVs X.K G Q) q2 r2.hr _ (VRs.cons (rv.ext x2) rvs)
end
def fLst (xs : List MV) (h : MH) : OV := if xs.length ≤ SZ then some (.ref h.length, h ++ [.lst xs]) else none
def fTup (xs : List MV) (h : MH) : OV := if xs.length ≤ SZ then some (.tup xs, h) else none
section
variable {X : Cx} {G : String → Option V} {W : WX} {e : Expr} {es : List Expr} {m : ME} {ms : MEs} {pos : Pos} {ρ : List Addr} {H : Hp} {mh : MH}
theorem new_lst {K : PySem.W.Frag} {xs : List MV} {vs : List V} {p : Addr} (hr : HR K G ρ H mh) (r : VRs K G ρ H xs vs) (hp : H p = none) :
    HR K G (ρ ++ [p]) (upd H p (.lst vs)) (mh ++ [.lst xs]) ∧ Ext K ρ H (ρ ++ [p]) (upd H p (.lst vs)) ∧ VR K G (ρ ++ [p]) (upd H p (.lst vs)) (.ref mh.length) (.ref p) := by
  have x : Ext K ρ H (ρ ++ [p]) (upd H p (.lst vs)) := ext_new hp
  obtain ⟨h1, h2⟩ := hr.new (u := .lst vs) (o := .lst xs) hp ⟨vs, upd_same, r.ext x⟩
  exact ⟨h1, h2, by simp only [VR]; exact ⟨p, rfl, by rw [← hr.len]; simp⟩⟩
theorem m_lst (h : PA X es (RA X.K G W ms)) : PE X (.List es pos) (RE X.K G W (eA fLst ms)) := by
  refine pe_imp (pe_lst h) fun σ H Q ⟨ρ, sm, mh, r0, q⟩ => ?_
  refine ra_bnd r0 q fun xs ρ1 H1 mh1 vs x1 r1 rvs q1 => ?_
  obtain ⟨z, h1, e, k⟩ := ro_lift q1
  unfold fLst at e
  split at e
  · rename_i hl
    obtain ⟨rfl, rfl⟩ := Prod.mk.inj (Option.some.inj e)
    refine ⟨by rw [SZ_eq, ← rvs.length]; exact hl, fun p hp => ?_⟩
    obtain ⟨a1, a2, a3⟩ := new_lst r1.hr rvs hp
    exact k _ _ a2 a1 _ a3
  · cases e
theorem new_tup {K : PySem.W.Frag} {xs : List MV} {vs : List V} {p : Addr} (hr : HR K G ρ H mh) (r : VRs K G ρ H xs vs) (hp : H p = none) :
    HR K G ρ (upd H p (.tup vs)) mh ∧ Ext K ρ H ρ (upd H p (.tup vs)) ∧ VR K G ρ (upd H p (.tup vs)) (.tup xs) (.ref p) := by
  have x : Ext K ρ H ρ (upd H p (.tup vs)) := ext_new0 hp
  refine ⟨⟨hr.len, hr.nd, fun i o e => ?_⟩, x, by simp only [VR]; exact ⟨p, vs, rfl, upd_same, r.ext x⟩⟩
  obtain ⟨a, ha, q⟩ := hr.obj i o e
  refine ⟨a, ha, q.keep x fun u hu => ?_⟩
  rw [upd_ne (ne_of_none hu hp)]
  exact hu
theorem m_tup {x1} (h : PA X es (RA X.K G W ms)) : PE X (.Tuple es x1 pos) (RE X.K G W (eA fTup ms)) := by
  refine pe_imp (pe_tup h) fun σ H Q ⟨ρ, sm, mh, r0, q⟩ => ?_
  refine ra_bnd r0 q fun xs ρ1 H1 mh1 vs x1 r1 rvs q1 => ?_
  obtain ⟨z, h1, e, k⟩ := ro_lift q1
  unfold fTup at e
  split at e
  · rename_i hl
    obtain ⟨rfl, rfl⟩ := Prod.mk.inj (Option.some.inj e)
    refine ⟨by rw [SZ_eq, ← rvs.length]; exact hl, fun p hp => ?_⟩
    obtain ⟨a1, a2, a3⟩ := new_tup r1.hr rvs hp
    exact k _ _ a2 a1 _ a3
  · cases e
end
end Mo
namespace Mo
open PySem L2
section
variable {X : Cx}
def InW (K : PySem.W.Frag) (x y : V) (H : Hp) (r : Bool) : Prop := ∃ (p : Addr) (ys : List V) (bs : List Bool), y = .ref p ∧ (SqL K H p ys ∨ SqT K H p ys) ∧ bs.length = ys.length ∧
  (∀ (j : Nat) (y : V) (b : Bool), ys[j]? = some y → bs[j]? = some b → EqW K H 7 y x b) ∧ r = bs.any id
def rInM (K : PySem.W.Frag) (neg : Bool) : R2 := fun x y H Q => ∃ r, InW K x y H r ∧ Q (.bl (if neg then !r else r)) H
open Classical in
noncomputable def evU (ys : List V) (bs : List Bool) (u : Value) : Bool := decide (∃ (j : Nat) (y : V), ys[j]? = some y ∧ RelV y u ∧ bs[j]? = some true)
open Classical in
theorem any_evU {ys : List V} {bs : List Bool} {is : List Value} (r : Vals ys is) (hl : bs.length = ys.length) : is.any (evU ys bs) = bs.any id := by
  have l := r.length
  rw [Bool.eq_iff_iff, List.any_eq_true, List.any_eq_true]
  constructor
  · rintro ⟨u, hu, h⟩
    obtain ⟨j, y, h1, h2, h3⟩ := of_decide_eq_true h
    exact ⟨true, List.mem_of_getElem? h3, rfl⟩
  · rintro ⟨b, hb, h⟩
    have hb' : b = true := h
    subst hb'
    obtain ⟨j, hj, e⟩ := List.mem_iff_getElem.mp hb
    have h1 : ys[j]? = some ys[j] := List.getElem?_eq_getElem (by omega)
    obtain ⟨u, h2, h3⟩ := r.get h1
    exact ⟨u, List.mem_of_getElem? h2, decide_eq_true ⟨j, _, h1, h3, by rw [List.getElem?_eq_getElem hj, e]⟩⟩
open Classical in
theorem evU_at {pins : List (Addr × Obj)} {σ : St} {H : Hp} {s : Shared} {x : V} {v : Value} {ys : List V} {bs : List Bool} {is : List Value} (I : Inv X pins σ H s) (rx : RelV x v) (r : Vals ys is) (hl : bs.length = ys.length)
    (he : ∀ (j : Nat) (y : V) (b : Bool), ys[j]? = some y → bs[j]? = some b → EqW X.K H 7 y x b) {A : Around} (hu : A.units + 7 < cLine) : ∀ u ∈ is, SeqAt.EqAt A s u v (evU ys bs u) := fun u hm => by
  by_cases h : ∃ (j : Nat) (y : V), ys[j]? = some y ∧ RelV y u ∧ bs[j]? = some true
  · have e : evU ys bs u = true := decide_eq_true h
    rw [e]
    obtain ⟨j, y, h1, h2, h3⟩ := h
    exact (he j y true h1 h3).at I hu h2 rx
  · have e : evU ys bs u = false := decide_eq_false h
    rw [e]
    obtain ⟨j, hj, q⟩ := List.mem_iff_getElem.mp hm
    have l := r.length
    have h1 : ys[j]? = some ys[j] := List.getElem?_eq_getElem (by omega)
    obtain ⟨w, h2, h3⟩ := r.get h1
    rw [List.getElem?_eq_getElem hj, q] at h2
    cases h2
    have h4 : bs[j]? = some bs[j] := List.getElem?_eq_getElem (by omega)
    have h5 : bs[j] = false := by
      cases q : bs[j] with
      | false => rfl
      | true => exact absurd ⟨j, _, h1, h3, by rw [h4, q]⟩ h
    rw [h5] at h4
    exact (he j _ false h1 h4).at I hu h3 rx
theorem op_inM (hu : X.A.units + 64 < cLine) : OpR X (compareOp .In) (rInM X.K false) := by
  intro pins s σ H x y v u Q I rx ry h
  obtain ⟨r, ⟨p, ys, bs, rfl, hq, hl, he, rfl⟩, q⟩ := h
  cases ry
  rcases hq with hq | hq
  · obtain ⟨its, r, pl, hz⟩ := I.list hq
    refine SeqAt.in_listAt (evU ys bs) pl.isList (fun w hw => evU_at I rx r hl he (by show X.A.units + 1 + 7 < cLine; omega) w (by simpa using hw)) ⟨.bl _, H, I, rfl, ?_⟩
    rw [show its.toArray.any (evU ys bs) = its.any (evU ys bs) by simp, any_evU r hl]
    exact q
  · obtain ⟨its, r, pl, hz⟩ := I.tuple hq
    refine SeqAt.in_tupleAt (evU ys bs) pl (fun w hw => evU_at I rx r hl he (by show X.A.units + 1 + 7 < cLine; omega) w (by simpa using hw)) ⟨.bl _, H, I, rfl, ?_⟩
    rw [show its.toArray.any (evU ys bs) = its.any (evU ys bs) by simp, any_evU r hl]
    exact q
theorem op_notInM (hu : X.A.units + 64 < cLine) : OpR X (compareOp .NotIn) (rInM X.K true) := by
  intro pins s σ H x y v u Q I rx ry h
  obtain ⟨r, ⟨p, ys, bs, rfl, hq, hl, he, rfl⟩, q⟩ := h
  cases ry
  rcases hq with hq | hq
  · obtain ⟨its, r, pl, hz⟩ := I.list hq
    refine SeqAt.notIn_listAt (evU ys bs) pl.isList (fun w hw => evU_at I rx r hl he (by show X.A.units + 1 + 7 < cLine; omega) w (by simpa using hw)) ⟨.bl _, H, I, rfl, ?_⟩
    rw [show its.toArray.any (evU ys bs) = its.any (evU ys bs) by simp, any_evU r hl]
    exact q
  · obtain ⟨its, r, pl, hz⟩ := I.tuple hq
    refine SeqAt.notIn_tupleAt (evU ys bs) pl (fun w hw => evU_at I rx r hl he (by show X.A.units + 1 + 7 < cLine; omega) w (by simpa using hw)) ⟨.bl _, H, I, rfl, ?_⟩
    rw [show its.toArray.any (evU ys bs) = its.any (evU ys bs) by simp, any_evU r hl]
    exact q
end
def insM (f : MV → Option Bool) : List MV → Option (List Bool)
  | [] => some []
  | y :: ys => match f y, insM f ys with
    | some b, some bs => some (b :: bs)
    | _, _ => none
def seqOf (h : MH) : MV → Option (List MV)
  | .ref i => match h[i]? with
    | some (.lst xs) => some xs
    | _ => none
  | .tup xs => some xs
  | .ktp xs => some xs
  | .frl xs => some xs
  | _ => none
def mIn (h : MH) (x y : MV) : Option Bool := match y with
  | .str z => match x with
    | .str c => match c.cps with
      | ⟨[n]⟩ => some (decide (n ∈ z.cps.toList))
      | _ => none
    | _ => none
  | y => match seqOf h y with
    | some ys => (insM (fun y => mEq 7 h y x) ys).map fun bs => bs.any id
    | none => none
section
variable {K : PySem.W.Frag} {G : String → Option V} {ρ : List Addr} {H : Hp} {mh : MH}
theorem seq_V (hr : HR K G ρ H mh) {y : MV} {v : V} {ys : List MV} (e : seqOf mh y = some ys) (r : VR K G ρ H y v) : ∃ p vs, v = .ref p ∧ (SqL K H p vs ∨ SqT K H p vs) ∧ VRs K G ρ H ys vs := by
  unfold seqOf at e
  split at e
  · split at e
    · rename_i q
      cases e
      obtain ⟨a, vs, rfl, _, h1, h2⟩ := hr.lst q r
      exact ⟨a, vs, rfl, .inl (SqL.of h1), h2⟩
    · cases e
  · cases e
    obtain ⟨a, vs, rfl, h1, h2⟩ := r.tup rfl
    exact ⟨a, vs, rfl, .inr h1, h2⟩
  · cases e
    obtain ⟨a, vs, rfl, h1, h2⟩ := r.tup rfl
    exact ⟨a, vs, rfl, .inr h1, h2⟩
  · cases e
    simp only [VR] at r
    obtain ⟨a, vs, rfl, h1, h2⟩ := r
    exact ⟨a, vs, rfl, .inl h1.sq, h2⟩
  · cases e
theorem insM_sound {f : MV → Option Bool} {P : V → Bool → Prop} (hf : ∀ {y v b}, f y = some b → VR K G ρ H y v → P v b) : ∀ {ys : List MV} {vs : List V} {bs : List Bool}, insM f ys = some bs → VRs K G ρ H ys vs →
    bs.length = vs.length ∧ ∀ (j : Nat) (y : V) (b : Bool), vs[j]? = some y → bs[j]? = some b → P y b
  | [], _, _, h, r => by simp only [VRs] at r; subst r; cases h; exact ⟨rfl, fun j y b e => by simp at e⟩
  | y :: ys, _, bs, h, r => by
    simp only [VRs] at r
    obtain ⟨v, vs, rfl, q, t⟩ := r
    simp only [insM] at h
    cases h1 : f y with
    | none => rw [h1] at h; simp at h
    | some a =>
      cases h2 : insM f ys with
      | none => rw [h1, h2] at h; simp at h
      | some cs =>
        rw [h1, h2] at h
        cases h
        obtain ⟨i1, i2⟩ := insM_sound hf h2 t
        refine ⟨by simp [i1], fun j y' b e1 e2 => ?_⟩
        cases j with
        | zero => simp at e1 e2; subst e1 e2; exact hf h1 q
        | succ j => simp at e1 e2; exact i2 j _ _ e1 e2
end
def ob (b : Option Bool) (h : MH) : OV := b.map fun b => (.bl b, h)
def fAdd (x y : MV) (h : MH) : OV := match x, y with
  | .int i, .int j => some (.int (i + j), h)
  | .str a, .str b => if a.length + b.length ≤ SZ then some (.str (a ++ b), h) else none
  | .ref i, .ref j => match h[i]?, h[j]? with
    | some (.lst xs), some (.lst ys) => if xs.length + ys.length ≤ SZ then some (.ref h.length, h ++ [.lst (xs ++ ys)]) else none
    | _, _ => none
  | _, _ => none
def fSub (x y : MV) (h : MH) : OV := match x, y with
  | .int i, .int j => some (.int (i - j), h)
  | _, _ => none
def fMul (x y : MV) (h : MH) : OV := match x, y with
  | .int i, .int j => if (-(2 ^ 64) < i ∧ i < 2 ^ 64) ∨ (-(2 ^ 64) < j ∧ j < 2 ^ 64) then some (.int (i * j), h) else none
  | _, _ => none
def fMod (x y : MV) (h : MH) : OV := match x, y with
  | .int i, .int j => if 0 < j then some (.int (i % j), h) else none
  | _, _ => none
def fDiv (x y : MV) (h : MH) : OV := match x, y with
  | .int i, .int j => if 0 < j ∧ j < 1073741824 then some (.int (i / j), h) else none
  | _, _ => none
def fPow (x y : MV) (h : MH) : OV := match x, y with
  | .int i, .int j => if 0 ≤ j ∧ j ≤ 1000000 ∧ i.natAbs < 2 ^ 64 then some (.int (i ^ j.toNat), h) else none
  | _, _ => none
def fNeg (x : MV) (h : MH) : OV := match x with
  | .int i => some (.int (-i), h)
  | _ => none
def fEq (x y : MV) (h : MH) : OV := ob (mRc h x y) h
def fNe (x y : MV) (h : MH) : OV := ob ((mRc h x y).map not) h
def fIn (x y : MV) (h : MH) : OV := ob (mIn h x y) h
def fNotIn (x y : MV) (h : MH) : OV := ob ((mIn h x y).map not) h
def fCmp (p : Int → Int → Bool) (x y : MV) (h : MH) : OV := match x, y with
  | .int i, .int j => some (.bl (p i j), h)
  | _, _ => none
abbrev fLt := fCmp fun i j => decide (i < j)
abbrev fGt := fCmp fun i j => decide (j < i)
def isN : MV → Bool | .non => true | _ => false
def fIsN (x y : MV) (h : MH) : OV := match y with
  | .non => some (.bl (isN x), h)
  | _ => none
def fNotN (x y : MV) (h : MH) : OV := match y with
  | .non => some (.bl (!isN x), h)
  | _ => none
section
variable {X : Cx} {G : String → Option V}
theorem s_add : R2S X.K G (fun x y H Q => (rI0 fun i j => .int (i + j)) x y H Q ∨ (fun x y H Q => ∃ i j, x = .str i ∧ y = .str j ∧ i.length + j.length ≤ sizeLine ∧ Q (.str (i ++ j)) H : R2) x y H Q ∨ rCat x y H Q) fAdd := by
  intro ρ H mh mh1 x y z v w Q hr rx ry e k
  unfold fAdd at e
  split at e
  · simp only [VR] at rx ry; subst rx ry; cases e
    exact .inl ⟨_, _, rfl, rfl, k _ _ Ext.refl hr _ (by simp [VR])⟩
  · split at e
    · simp only [VR] at rx ry; subst rx ry; cases e
      rename_i hz
      exact .inr (.inl ⟨_, _, rfl, rfl, by rw [SZ_eq]; exact hz, k _ _ Ext.refl hr _ (by simp [VR])⟩)
    · cases e
  · split at e
    · split at e
      · rename_i e1 e2 hz
        cases e
        obtain ⟨a, vs, rfl, _, h1, r1⟩ := hr.lst e1 rx
        obtain ⟨b, ws, rfl, _, h2, r2⟩ := hr.lst e2 ry
        refine .inr (.inr ⟨_, _, _, _, rfl, rfl, h1, h2, by rw [SZ_eq, ← r1.length, ← r2.length]; exact hz, fun p hp => ?_⟩)
        obtain ⟨a1, a2, a3⟩ := new_lst hr (r1.append r2) hp
        exact k _ _ a2 a1 _ a3
      · cases e
    · cases e
  · cases e
theorem o_add : OpR X (binaryOp .Add) (fun x y H Q => (rI0 fun i j => .int (i + j)) x y H Q ∨ (fun x y H Q => ∃ i j, x = .str i ∧ y = .str j ∧ i.length + j.length ≤ sizeLine ∧ Q (.str (i ++ j)) H : R2) x y H Q ∨ rCat x y H Q) := op_add.or (op_add_str.or op_cat)
theorem s_ints {C : Int → Int → Prop} {g : Int → Int → Int} {f : MV → MV → MH → OV} (hf : ∀ x y h z h1, f x y h = some (z, h1) → ∃ i j, x = .int i ∧ y = .int j ∧ C i j ∧ z = .int (g i j) ∧ h1 = h) : R2S X.K G (rI C fun i j => .int (g i j)) f := by
  intro ρ H mh mh1 x y z v w Q hr rx ry e k
  obtain ⟨i, j, rfl, rfl, hc, rfl, rfl⟩ := hf _ _ _ _ _ e
  simp only [VR] at rx ry; subst rx ry
  exact ⟨_, _, rfl, rfl, hc, k _ _ Ext.refl hr _ (by simp [VR])⟩
theorem s_mul : R2S X.K G (rI CMul fun i j => .int (i * j)) fMul := s_ints fun x y h z h1 e => by
  unfold fMul at e
  split at e
  · split at e
    · rename_i hc; cases e; exact ⟨_, _, rfl, rfl, hc, rfl, rfl⟩
    · cases e
  · cases e
theorem s_mod : R2S X.K G (rI (fun _ j => 0 < j) fun i j => .int (i % j)) fMod := s_ints fun x y h z h1 e => by
  unfold fMod at e
  split at e
  · split at e
    · rename_i hc; cases e; exact ⟨_, _, rfl, rfl, hc, rfl, rfl⟩
    · cases e
  · cases e
theorem s_div : R2S X.K G (rI CDiv fun i j => .int (i / j)) fDiv := s_ints fun x y h z h1 e => by
  unfold fDiv at e
  split at e
  · split at e
    · rename_i hc; cases e; exact ⟨_, _, rfl, rfl, hc, rfl, rfl⟩
    · cases e
  · cases e
theorem s_pow : R2S X.K G (rI CPow fun i j => .int (i ^ j.toNat)) fPow := s_ints fun x y h z h1 e => by
  unfold fPow at e
  split at e
  · split at e
    · rename_i hc; cases e; exact ⟨_, _, rfl, rfl, hc, rfl, rfl⟩
    · cases e
  · cases e
theorem s_cmp {p : Int → Int → Bool} : R2S X.K G (rI0 fun i j => .bl (p i j)) (fCmp p) := by
  intro ρ H mh mh1 x y z v w Q hr rx ry e k
  unfold fCmp at e
  split at e
  · simp only [VR] at rx ry; subst rx ry; cases e
    exact ⟨_, _, rfl, rfl, k _ _ Ext.refl hr _ (by simp [VR])⟩
  · cases e
theorem s_eq : R2S X.K G (rEqM X.K) fEq := by
  intro ρ H mh mh1 x y z v w Q hr rx ry e k
  unfold fEq ob at e
  cases h : mRc mh x y with
  | none => rw [h] at e; cases e
  | some b =>
    rw [h] at e; cases e
    exact ⟨b, mRc_sound hr h rx ry, k _ _ Ext.refl hr _ (by simp [VR])⟩
theorem s_ne : R2S X.K G (rNeM X.K) fNe := by
  intro ρ H mh mh1 x y z v w Q hr rx ry e k
  unfold fNe ob at e
  cases h : mRc mh x y with
  | none => rw [h] at e; cases e
  | some b =>
    rw [h] at e; cases e
    exact ⟨b, mRc_sound hr h rx ry, k _ _ Ext.refl hr _ (by simp [VR])⟩
theorem mIn_sound {K : PySem.W.Frag} {ρ : List Addr} {H : Hp} {mh : MH} {x y : MV} {v w : V} {b : Bool} (hr : HR K G ρ H mh) (e : mIn mh x y = some b) (rx : VR K G ρ H x v) (ry : VR K G ρ H y w) :
    (∃ (c : Nat) (z : Str), v = .str ⟨#[c]⟩ ∧ w = .str z ∧ b = decide (c ∈ z.cps.toList)) ∨ InW K v w H b := by
  unfold mIn at e
  split at e
  · split at e
    · split at e
      · rename_i z0 c n hn
        cases e
        simp only [VR] at rx ry
        subst ry
        refine .inl ⟨n, _, ?_, rfl, rfl⟩
        rw [rx]
        cases z0 with
        | mk cps =>
          have hn' : cps = #[n] := hn
          rw [hn']
      · cases e
    · cases e
  · split at e
    · rename_i ys hs
      cases hi : insM (fun y => mEq 7 mh y x) ys with
      | none => rw [hi] at e; cases e
      | some bs =>
        rw [hi] at e; cases e
        obtain ⟨p, vs, rfl, hq, r⟩ := seq_V hr hs ry
        obtain ⟨l, he⟩ := insM_sound (P := fun y b => EqW K H 7 y v b) (fun h r => mEq_sound hr h r rx) hi r
        exact .inr ⟨p, vs, bs, rfl, hq, l, he, rfl⟩
    · cases e
abbrev rInA (K : PySem.W.Frag) (neg : Bool) : R2 := fun x y H Q => (∃ (c : Nat) (z : Str), x = .str ⟨#[c]⟩ ∧ y = .str z ∧ Q (.bl (if neg then !decide (c ∈ z.cps.toList) else decide (c ∈ z.cps.toList))) H) ∨ rInM K neg x y H Q
theorem o_in (hu : X.A.units + 64 < cLine) : OpR X (compareOp .In) (rInA X.K false) := op_in_sign.or (op_inM hu)
theorem o_notIn (hu : X.A.units + 64 < cLine) : OpR X (compareOp .NotIn) (rInA X.K true) := op_notIn_sign.or (op_notInM hu)
theorem s_in : R2S X.K G (rInA X.K false) fIn := by
  intro ρ H mh mh1 x y z v w Q hr rx ry e k
  unfold fIn ob at e
  cases h : mIn mh x y with
  | none => rw [h] at e; cases e
  | some b =>
    rw [h] at e; cases e
    rcases mIn_sound hr h rx ry with ⟨c, z, rfl, rfl, rfl⟩ | q
    · exact .inl ⟨c, z, rfl, rfl, k _ _ Ext.refl hr _ (by simp [VR])⟩
    · exact .inr ⟨b, q, k _ _ Ext.refl hr _ (by simp [VR])⟩
theorem s_notIn : R2S X.K G (rInA X.K true) fNotIn := by
  intro ρ H mh mh1 x y z v w Q hr rx ry e k
  unfold fNotIn ob at e
  cases h : mIn mh x y with
  | none => rw [h] at e; cases e
  | some b =>
    rw [h] at e; cases e
    rcases mIn_sound hr h rx ry with ⟨c, z, rfl, rfl, rfl⟩ | q
    · exact .inl ⟨c, z, rfl, rfl, k _ _ Ext.refl hr _ (by simp [VR])⟩
    · exact .inr ⟨b, q, k _ _ Ext.refl hr _ (by simp [VR])⟩
theorem isN_V {K : PySem.W.Frag} {ρ : List Addr} {H : Hp} {x : MV} {v : V} (rx : VR K G ρ H x v) : isN x = decide (v = .non) := by
  cases x with
  | non => simp only [VR] at rx; subst rx; rfl
  | glo s => simp only [VR] at rx; obtain ⟨_, _, rfl⟩ := rx; simp [isN]
  | tup xs => obtain ⟨a, vs, rfl, _⟩ := rx.tup rfl; simp [isN]
  | ktp xs => obtain ⟨a, vs, rfl, _⟩ := rx.tup rfl; simp [isN]
  | frl xs => simp only [VR] at rx; obtain ⟨a, vs, rfl, _⟩ := rx; simp [isN]
  | ref i => simp only [VR] at rx; obtain ⟨a, rfl, _⟩ := rx; simp [isN]
  | bl _ => simp only [VR] at rx; subst rx; simp [isN]
  | int _ => simp only [VR] at rx; subst rx; simp [isN]
  | str _ => simp only [VR] at rx; subst rx; simp [isN]
  | byt _ => simp only [VR] at rx; subst rx; simp [isN]
  | ty _ => simp only [VR] at rx; subst rx; simp [isN]
  | exa _ _ _ => simp only [VR] at rx; obtain ⟨rfl, _⟩ := rx; simp [isN]
theorem s_isN : R2S X.K G (fun x y H Q => y = .non ∧ Q (.bl (decide (x = .non))) H) fIsN := by
  intro ρ H mh mh1 x y z v w Q hr rx ry e k
  unfold fIsN at e
  split at e
  · cases e
    simp only [VR] at ry
    refine ⟨ry, ?_⟩
    rw [← isN_V rx]
    exact k _ _ Ext.refl hr _ (by simp [VR])
  · cases e
theorem s_notN : R2S X.K G (fun x y H Q => y = .non ∧ Q (.bl (!decide (x = .non))) H) fNotN := by
  intro ρ H mh mh1 x y z v w Q hr rx ry e k
  unfold fNotN at e
  split at e
  · cases e
    simp only [VR] at ry
    refine ⟨ry, ?_⟩
    rw [← isN_V rx]
    exact k _ _ Ext.refl hr _ (by simp [VR])
  · cases e
end
end Mo
namespace Mo
open PySem L2
def keyM : MV → Option Key
  | .int i => some (.inl i)
  | .str x => some (.inr x)
  | _ => none
def keysM : List MV → Option (List Key)
  | [] => some []
  | x :: xs => match keyM x, keysM xs with
    | some k, some ks => some (k :: ks)
    | _, _ => none
def valM {κ : Type} [DecidableEq κ] (kvs : List (κ × MV)) (k : κ) : Option MV := (kvs.find? fun kv => decide (kv.1 = k)).map (·.2)
def putM {κ : Type} [DecidableEq κ] (kvs : List (κ × MV)) (k : κ) (v : MV) : List (κ × MV) :=
  if (kvs.any fun kv => decide (kv.1 = k)) = true then kvs.map (fun kv => if kv.1 = k then (kv.1, v) else kv) else kvs ++ [(k, v)]
section
variable {K : PySem.W.Frag} {G : String → Option V} {ρ : List Addr} {H : Hp} {mh : MH}
theorem keyM_V {x : MV} {v : V} {k : Key} (e : keyM x = some k) (r : VR K G ρ H x v) : v = kV k := by
  cases x <;> simp [keyM] at e <;> subst e <;> simp only [VR] at r <;> exact r
theorem keysM_V : ∀ {xs : List MV} {vs : List V} {ks : List Key}, keysM xs = some ks → VRs K G ρ H xs vs → vs = ks.map kV
  | [], _, _, e, r => by simp only [VRs] at r; subst r; cases e; rfl
  | x :: xs, _, ks, e, r => by
    simp only [VRs] at r
    obtain ⟨v, vs, rfl, q, t⟩ := r
    simp only [keysM] at e
    cases h1 : keyM x with
    | none => rw [h1] at e; simp at e
    | some a =>
      cases h2 : keysM xs with
      | none => rw [h1, h2] at e; simp at e
      | some b =>
        rw [h1, h2] at e; cases e
        rw [keyM_V h1 q, keysM_V h2 t]
        rfl
theorem KRs.length {κ : Type} : ∀ {xs : List (κ × MV)} {vs : List (κ × V)}, KRs K G ρ H id xs vs → xs.length = vs.length
  | [], _, h => by simp only [KRs] at h; subst h; rfl
  | x :: xs, _, h => by
    simp only [KRs] at h
    obtain ⟨v, r, rfl, _, t⟩ := h
    simp [KRs.length t]
theorem valM_V {κ : Type} [DecidableEq κ] {k : κ} : ∀ {xs : List (κ × MV)} {vs : List (κ × V)}, KRs K G ρ H id xs vs →
    (∀ x, valM xs k = some x → ∃ v, valV vs k = some v ∧ VR K G ρ H x v) ∧ (valM xs k = none → valV vs k = none)
  | [], _, h => by simp only [KRs] at h; subst h; exact ⟨fun x e => by simp [valM] at e, fun _ => rfl⟩
  | x :: xs, _, h => by
    simp only [KRs] at h
    obtain ⟨v, r, rfl, q, t⟩ := h
    obtain ⟨i1, i2⟩ := valM_V (k := k) t
    by_cases e : x.1 = k
    · have e1 : valM (x :: xs) k = some x.2 := by simp [valM, List.find?_cons, e]
      have e2 : valV ((id x.1, v) :: r) k = some v := valV_pos e
      rw [e1, e2]
      exact ⟨fun y h => by cases h; exact ⟨v, rfl, q⟩, fun h => by cases h⟩
    · have e1 : valM (x :: xs) k = valM xs k := by simp [valM, List.find?_cons, e]
      have e2 : valV ((id x.1, v) :: r) k = valV r k := valV_neg e
      rw [e1, e2]
      exact ⟨i1, i2⟩
theorem any_V {κ : Type} [DecidableEq κ] {k : κ} : ∀ {xs : List (κ × MV)} {vs : List (κ × V)}, KRs K G ρ H id xs vs → (xs.any fun kv => decide (kv.1 = k)) = (vs.any fun kv => decide (kv.1 = k))
  | [], _, h => by simp only [KRs] at h; subst h; rfl
  | x :: xs, _, h => by
    simp only [KRs] at h
    obtain ⟨v, r, rfl, q, t⟩ := h
    rw [List.any_cons, List.any_cons, any_V t]
    rfl
theorem map_V {κ : Type} [DecidableEq κ] {k : κ} {y : MV} {w : V} (hy : VR K G ρ H y w) : ∀ {xs : List (κ × MV)} {vs : List (κ × V)}, KRs K G ρ H id xs vs →
    KRs K G ρ H id (xs.map (fun kv => if kv.1 = k then (kv.1, y) else kv)) (vs.map (fun kv => if kv.1 = k then (kv.1, w) else kv))
  | [], _, h => by simp only [KRs] at h; subst h; rfl
  | x :: xs, _, h => by
    simp only [KRs] at h
    obtain ⟨v, r, rfl, q, t⟩ := h
    rw [List.map_cons, List.map_cons]
    refine ⟨if x.1 = k then w else v, _, ?_, ?_, map_V hy t⟩
    · by_cases e : x.1 = k
      · have e' : (id x.1, v).1 = k := e
        rw [if_pos e', if_pos e, if_pos e]
        first | done | rfl
      · have e' : ¬ (id x.1, v).1 = k := e
        rw [if_neg e', if_neg e, if_neg e]
        first | done | rfl
    · by_cases e : x.1 = k
      · rw [if_pos e, if_pos e]; exact hy
      · rw [if_neg e, if_neg e]; exact q
theorem KRs.append {κ κ' : Type} {j : κ → κ'} : ∀ {xs ys : List (κ × MV)} {vs ws : List (κ' × V)}, KRs K G ρ H j xs vs → KRs K G ρ H j ys ws → KRs K G ρ H j (xs ++ ys) (vs ++ ws)
  | [], _, _, _, h, k => by simp only [KRs] at h; subst h; exact k
  | x :: xs, _, _, _, h, k => by
    simp only [KRs] at h
    obtain ⟨v, r, rfl, q, t⟩ := h
    exact ⟨v, _, rfl, q, KRs.append t k⟩
theorem putM_V {κ : Type} [DecidableEq κ] {k : κ} {y : MV} {w : V} {xs : List (κ × MV)} {vs : List (κ × V)} (h : KRs K G ρ H id xs vs) (hy : VR K G ρ H y w) : KRs K G ρ H id (putM xs k y) (putK vs k w) := by
  unfold putM putK
  rw [any_V h]
  by_cases e : (vs.any fun kv => decide (kv.1 = k)) = true
  · rw [if_pos e, if_pos e]; exact map_V hy h
  · rw [if_neg e, if_neg e]; exact h.append ⟨w, [], rfl, hy, rfl⟩
theorem HR.dk (hr : HR K G ρ H mh) {i : Nat} {xs : List (Key × MV)} {v : V} (e : mh[i]? = some (.dk xs)) (r : VR K G ρ H (.ref i) v) : ∃ a vs, v = .ref a ∧ ρ[i]? = some a ∧ H a = some (.dK vs) ∧ KRs K G ρ H id xs vs := by
  simp only [VR] at r
  obtain ⟨a, rfl, ha⟩ := r
  obtain ⟨vs, h1, h2⟩ := hr.get e ha
  exact ⟨a, vs, rfl, ha, h1, h2⟩
theorem HR.dt (hr : HR K G ρ H mh) {i : Nat} {xs : List (List Key × MV)} {v : V} (e : mh[i]? = some (.dt xs)) (r : VR K G ρ H (.ref i) v) : ∃ a vs, v = .ref a ∧ ρ[i]? = some a ∧ H a = some (.dT vs) ∧ KRs K G ρ H id xs vs := by
  simp only [VR] at r
  obtain ⟨a, rfl, ha⟩ := r
  obtain ⟨vs, h1, h2⟩ := hr.get e ha
  exact ⟨a, vs, rfl, ha, h1, h2⟩
end
def fIx (x y : MV) (h : MH) : OV := match y with
  | .int i => match x with
    | .str z => if z.length ≤ SZ then (atI z.cps.toList i).map fun c => (.str ⟨#[c]⟩, h) else none
    | x => match seqOf h x with
      | some xs => (atI xs i).map fun v => (v, h)
      | none => none
  | _ => none
theorem atI_V {K : PySem.W.Frag} {G : String → Option V} {ρ : List Addr} {H : Hp} {xs : List MV} {vs : List V} {i : Int} {z : MV} (r : VRs K G ρ H xs vs) (e : atI xs i = some z) : ∃ v, atI vs i = some v ∧ VR K G ρ H z v := by
  unfold atI at e ⊢
  rw [← r.length]
  cases h : ixN xs.length i with
  | none => rw [h] at e; simp at e
  | some j => rw [h] at e; exact r.get e
section
variable {X : Cx} {G : String → Option V} {W : WX} {a b c : Expr} {ma mb mc : ME} {pos : Pos}
theorem s_ix : R2S X.K G (rIx X.K) fIx := by
  intro ρ H mh mh1 x y z v w Q hr rx ry e k
  unfold fIx at e
  split at e
  · rename_i i
    simp only [VR] at ry; subst ry
    split at e
    · rename_i z0
      simp only [VR] at rx; subst rx
      split at e
      · rename_i hz
        cases h : atI z0.cps.toList i with
        | none => rw [h] at e; cases e
        | some c =>
          rw [h] at e; cases e
          exact .inr (.inr ⟨_, _, c, rfl, rfl, by rw [SZ_eq]; exact hz, h, k _ _ Ext.refl hr _ (by simp [VR])⟩)
      · cases e
    · split at e
      · rename_i xs hs
        cases h : atI xs i with
        | none => rw [h] at e; cases e
        | some u =>
          rw [h] at e; cases e
          obtain ⟨p, vs, rfl, hq, r⟩ := seq_V hr hs rx
          obtain ⟨u1, h1, h2⟩ := atI_V r h
          rcases hq with hq | hq
          · exact .inl ⟨p, vs, i, u1, rfl, rfl, hq, h1, k _ _ Ext.refl hr _ h2⟩
          · exact .inr (.inl ⟨p, vs, i, u1, rfl, rfl, hq, h1, k _ _ Ext.refl hr _ h2⟩)
      · cases e
  · cases e
end
def dGet (h : MH) (x y : MV) : Option (Option MV) := match x with
  | .ref i => match h[i]? with
    | some (.dk kvs) => (keyM y).map fun k => valM kvs k
    | some (.fdk _ _ kvs) => (keyM y).map fun k => valM kvs k
    | some (.dt kvs) => match y with
      | .tup ys => (keysM ys).map fun k => valM kvs k
      | _ => none
    | _ => none
  | _ => none
def fDGet (x y : MV) (h : MH) : OV := match dGet h x y with
  | some (some v) => some (v, h)
  | _ => none
def fDIn (y x : MV) (h : MH) : OV := match dGet h x y with
  | some o => some (.bl o.isSome, h)
  | _ => none
def fDNotIn (y x : MV) (h : MH) : OV := match dGet h x y with
  | some o => some (.bl (!o.isSome), h)
  | _ => none
section
variable {X : Cx} {G : String → Option V} {W : WX} {a b c : Expr} {ma mb mc : ME} {pos : Pos}
theorem dGet_V {K : PySem.W.Frag} {ρ : List Addr} {H : Hp} {mh : MH} {x y : MV} {v w : V} {o : Option MV} (hr : HR K G ρ H mh) (e : dGet mh x y = some o) (rx : VR K G ρ H x v) (ry : VR K G ρ H y w) :
    ∃ a r, v = .ref a ∧ DGet H a w r ∧ (∀ z, o = some z → ∃ u, r = some u ∧ VR K G ρ H z u) ∧ (o = none → r = none) := by
  unfold dGet at e
  split at e
  · split at e
    · rename_i kvs h1
      obtain ⟨a, vs, rfl, _, h2, h3⟩ := hr.dk h1 rx
      cases h4 : keyM y with
      | none => rw [h4] at e; cases e
      | some k =>
        rw [h4] at e; cases e
        obtain ⟨q1, q2⟩ := valM_V (k := k) h3
        have := keyM_V h4 ry
        subst this
        exact ⟨a, _, rfl, DGet.k h2, q1, q2⟩
    · rename_i od vs kvs h1
      simp only [VR] at rx
      obtain ⟨a, rfl, ha⟩ := rx
      obtain ⟨h2, h3⟩ := hr.get h1 ha
      cases h4 : keyM y with
      | none => rw [h4] at e; cases e
      | some k =>
        rw [h4] at e; cases e
        obtain ⟨q1, q2⟩ := valM_V (k := k) h3
        have := keyM_V h4 ry
        subst this
        exact ⟨a, _, rfl, .inl ⟨_, k, .inr ⟨_, h2⟩, rfl, rfl⟩, q1, q2⟩
    · rename_i kvs h1
      obtain ⟨a, vs, rfl, _, h2, h3⟩ := hr.dt h1 rx
      split at e
      · rename_i ys
        cases h4 : keysM ys with
        | none => rw [h4] at e; cases e
        | some k =>
          rw [h4] at e; cases e
          obtain ⟨q1, q2⟩ := valM_V (k := k) h3
          simp only [VR] at ry
          obtain ⟨b, ws, rfl, h5, h6⟩ := ry
          have h7 := keysM_V h4 h6
          subst h7
          exact ⟨a, _, rfl, DGet.t h2 h5, q1, q2⟩
      · cases e
    · cases e
  · cases e
end
end Mo
namespace Mo
open PySem L2
def CallS (K : PySem.W.Frag) (G : String → Option V) (r : List V → Hp → VK → Prop) (f : List MV → MH → OV) : Prop :=
  ∀ {ρ : List Addr} {H : Hp} {mh mh1 : MH} {xs : List MV} {z : MV} {vs : List V} {Q : VK}, HR K G ρ H mh → VRs K G ρ H xs vs → f xs mh = some (z, mh1) →
    (∀ ρ1 H1, Ext K ρ H ρ1 H1 → HR K G ρ1 H1 mh1 → ∀ v1, VR K G ρ1 H1 z v1 → Q v1 H1) → r vs H Q
theorem VRs.one {K : PySem.W.Frag} {G : String → Option V} {ρ : List Addr} {H : Hp} {x : MV} {vs : List V} (h : VRs K G ρ H [x] vs) : ∃ v, vs = [v] ∧ VR K G ρ H x v := by
  simp only [VRs] at h
  obtain ⟨v, r, rfl, q, rfl⟩ := h
  exact ⟨v, rfl, q⟩
theorem VRs.two {K : PySem.W.Frag} {G : String → Option V} {ρ : List Addr} {H : Hp} {x y : MV} {vs : List V} (h : VRs K G ρ H [x, y] vs) : ∃ v w, vs = [v, w] ∧ VR K G ρ H x v ∧ VR K G ρ H y w := by
  simp only [VRs] at h
  obtain ⟨v, r, rfl, q, w, r', rfl, q', rfl⟩ := h
  exact ⟨v, w, rfl, q, q'⟩
section
variable {X : Cx} {G : String → Option V} {W : WX} {e : Expr} {es : List Expr} {ms : MEs} {x : Str} {p pos : Pos} {id T : String} {r : List V → Hp → VK → Prop} {f : List MV → MH → OV}
theorem cb_re (hs : CallS X.K G r f) (σ : St) (H : Hp) (Q : VK) (h : RE X.K G W (eA f ms) σ H Q) : tCB r (RA X.K G W ms) σ H Q := by
  obtain ⟨ρ, sm, mh, r0, q⟩ := h
  refine ra_bnd r0 q fun xs ρ1 H1 mh1 vs x1 r1 rvs q1 => ?_
  obtain ⟨z, h1, e, k⟩ := ro_lift q1
  exact hs r1.hr rvs e k
theorem m_callB (hc : CallR X (.builtin id) r) (hs : CallS X.K G r f) (hg : Gl X x) (hm : X.mg x = none) (hv : bootBuiltins x = some (.builtin id)) (ha : PA X (e :: es) (RA X.K G W ms)) (hn : x ≠ "__name__" := by decide) (hdb : (x == ("__debug__" : Str)) = false := by decide)
    (he : starEach (e :: es) X.env = (false, eval e X.env) :: starEach es X.env := by rfl) (hpl : (backTo pos (starEach es X.env)).any (·.1) = false := by rfl) : PE X (.Call (.Name x p) (e :: es) [] pos) (RE X.K G W (eA f ms)) :=
  pe_imp (pe_callB hc hg hm hv ha hn hdb he hpl) (cb_re hs)
theorem m_callTy (hc : CallR X (.type T) r) (hs : CallS X.K G r f) (hg : Gl X x) (hm : X.mg x = none) (hv : bootBuiltins x = some (.type T)) (ha : PA X (e :: es) (RA X.K G W ms)) (hn : x ≠ "__name__" := by decide) (hdb : (x == ("__debug__" : Str)) = false := by decide)
    (he : starEach (e :: es) X.env = (false, eval e X.env) :: starEach es X.env := by rfl) (hpl : (backTo pos (starEach es X.env)).any (·.1) = false := by rfl) : PE X (.Call (.Name x p) (e :: es) [] pos) (RE X.K G W (eA f ms)) :=
  pe_imp (pe_callTy hc hg hm hv ha hn hdb he hpl) (cb_re hs)
theorem CallR.or {fv : Value} {r r' : List V → Hp → VK → Prop} (h : CallR X fv r) (h' : CallR X fv r') : CallR X fv (fun xs H Q => r xs H Q ∨ r' xs H Q) := by
  intro pins s σ H xs us Q I rs q
  rcases q with q | q
  · exact h pins s σ H xs us Q I rs q
  · exact h' pins s σ H xs us Q I rs q
end
def fLen (xs : List MV) (h : MH) : OV := match xs with
  | [.str z] => if z.length ≤ SZ then some (.int z.length, h) else none
  | [.ref i] => match h[i]? with
    | some (.lst ys) => some (.int ys.length, h)
    | some (.dk ys) => some (.int ys.length, h)
    | _ => none
  | [.tup ys] => some (.int ys.length, h)
  | [.ktp ys] => some (.int ys.length, h)
  | [.frl ys] => some (.int ys.length, h)
  | _ => none
def fInt (xs : List MV) (h : MH) : OV := match xs with
  | [.int i] => some (.int i, h)
  | [.bl b] => some (.int (if b then 1 else 0), h)
  | _ => none
def fAbs (xs : List MV) (h : MH) : OV := match xs with
  | [.int i] => some (.int (if i < 0 then -i else i), h)
  | _ => none
section
variable {X : Cx} {G : String → Option V}
abbrev rLenA (K : PySem.W.Frag) : List V → Hp → VK → Prop := fun xs H Q => (∃ x n, xs = [x] ∧ LenV K x H n ∧ Q (.int n) H) ∨ ∃ a kvs, xs = [V.ref a] ∧ H a = some (.dK kvs) ∧ Q (.int kvs.length) H
theorem c_len : CallR X (.builtin "len") (rLenA X.K) := call_len.or call_lenD
theorem s_len : CallS X.K G (rLenA X.K) fLen := by
  intro ρ H mh mh1 xs z vs Q hr rvs e k
  unfold fLen at e
  split at e
  · obtain ⟨v, rfl, rv⟩ := rvs.one
    simp only [VR] at rv; subst rv
    split at e
    · rename_i hz
      cases e
      exact .inl ⟨_, _, rfl, ⟨by rw [SZ_eq]; exact hz, rfl⟩, k _ _ Ext.refl hr _ (by simp [VR])⟩
    · cases e
  · obtain ⟨v, rfl, rv⟩ := rvs.one
    split at e
    · rename_i q
      cases e
      obtain ⟨a, ws, rfl, _, h1, h2⟩ := hr.lst q rv
      exact .inl ⟨_, _, rfl, .inl ⟨_, SqL.of h1, h2.length⟩, k _ _ Ext.refl hr _ (by simp [VR])⟩
    · rename_i q
      cases e
      obtain ⟨a, ws, rfl, _, h1, h2⟩ := hr.dk q rv
      refine .inr ⟨_, _, rfl, h1, k _ _ Ext.refl hr _ ?_⟩
      simp only [VR]; rw [h2.length]
    · cases e
  · obtain ⟨v, rfl, rv⟩ := rvs.one
    cases e
    obtain ⟨a, ws, rfl, h1, h2⟩ := rv.tup rfl
    exact .inl ⟨_, _, rfl, .inr ⟨_, h1, h2.length⟩, k _ _ Ext.refl hr _ (by simp [VR])⟩
  · obtain ⟨v, rfl, rv⟩ := rvs.one
    cases e
    obtain ⟨a, ws, rfl, h1, h2⟩ := rv.tup rfl
    exact .inl ⟨_, _, rfl, .inr ⟨_, h1, h2.length⟩, k _ _ Ext.refl hr _ (by simp [VR])⟩
  · obtain ⟨v, rfl, rv⟩ := rvs.one
    cases e
    simp only [VR] at rv
    obtain ⟨a, ws, rfl, h1, h2⟩ := rv
    exact .inl ⟨_, _, rfl, .inl ⟨_, h1.sq, h2.length⟩, k _ _ Ext.refl hr _ (by simp [VR])⟩
  · cases e
theorem s_int : CallS X.K G (fun xs H Q => (∃ i, xs = [.int i] ∧ Q (.int i) H) ∨ ∃ k, xs = [.bl k] ∧ Q (.int (if k then 1 else 0)) H) fInt := by
  intro ρ H mh mh1 xs z vs Q hr rvs e k
  unfold fInt at e
  split at e
  · obtain ⟨v, rfl, rv⟩ := rvs.one
    simp only [VR] at rv; subst rv
    cases e
    exact .inl ⟨_, rfl, k _ _ Ext.refl hr _ (by simp [VR])⟩
  · obtain ⟨v, rfl, rv⟩ := rvs.one
    simp only [VR] at rv; subst rv
    cases e
    exact .inr ⟨_, rfl, k _ _ Ext.refl hr _ (by simp [VR])⟩
  · cases e
theorem s_abs : CallS X.K G (fun xs H Q => ∃ i, xs = [.int i] ∧ Q (.int (if i < 0 then -i else i)) H) fAbs := by
  intro ρ H mh mh1 xs z vs Q hr rvs e k
  unfold fAbs at e
  split at e
  · obtain ⟨v, rfl, rv⟩ := rvs.one
    simp only [VR] at rv; subst rv
    cases e
    exact ⟨_, rfl, k _ _ Ext.refl hr _ (by simp [VR])⟩
  · cases e
end
def tyM (h : MH) : MV → Option MV
  | .non => some (.ty "NoneType")
  | .bl _ => some (.ty "bool")
  | .int _ => some (.ty "int")
  | .str _ => some (.ty "str")
  | .byt _ => some (.ty "bytes")
  | .tup _ => some (.ty "tuple")
  | .ktp _ => some (.ty "tuple")
  | .ref i => match h[i]? with
    | some (.lst _) => some (.ty "list")
    | some (.dk _) => some (.ty "dict")
    | some (.dt _) => some (.ty "dict")
    | some (.ins c _) => some (.glo c)
    | _ => none
  | _ => none
def tabB (a b : String) : Option Bool := if a = b then some true else if a = "bool" ∧ b = "int" then some true else
  if ["NoneType", "bool", "int", "str", "bytes", "tuple", "list", "dict"].contains a ∧ ["bool", "int", "str", "bytes", "tuple", "list", "dict"].contains b then some false else none
abbrev Own := Bool × String → Bool × String → Option Bool
def isiM (own : Own) (t c : MV) : Option Bool := match t, c with
  | .ty a, .ty b => tabB a b
  | .ty a, .glo b => own (false, a) (true, b)
  | .glo a, .glo b => own (true, a) (true, b)
  | .glo a, .ty b => own (true, a) (false, b)
  | _, _ => none
def fIsi (own : Own) (xs : List MV) (h : MH) : OV := match xs with
  | [x, c] => match tyM h x with
    | some t => ob (isiM own t c) h
    | none => none
  | _ => none
def clsV (G : String → Option V) : MV → Option Value
  | .ty a => some (.type a)
  | .glo s => match G s with
    | some (.ref C) => some (.ref C)
    | _ => none
  | _ => none
structure IsiOk (K : PySem.W.Frag) (G : String → Option V) (own : Own) : Prop where
  gref : ∀ s v, G s = some v → ∃ C, v = .ref C
  ok : ∀ t c b tv cv, isiM own t c = some b → clsV G t = some tv → clsV G c = some cv → PySem.W.kitOne K tv cv = some b
  ins : ∀ s C c b, G s = some (.ref C) → isiM own (.glo s) c = some b → Cls K C ∧ PySem.W.findIn K (.ref C) "__class__" = some (some (.builtin "object.__class__")) ∧
    PySem.W.specialIn K (.builtin "object.__class__") "__get__" = some (some (.builtin "getset_descriptor.__get__")) ∧ PySem.W.takesIn K (.builtin "object.__class__") = some true ∧ PySem.W.mroIn K C (.type "object") = some true
section
variable {X : Cx} {G : String → Option V}
theorem cls_V {K : PySem.W.Frag} {own : Own} (T : IsiOk K G own) {ρ : List Addr} {H : Hp} {c : MV} {w : V} (hc : (∃ n, c = .ty n) ∨ ∃ s, c = .glo s) (r : VR K G ρ H c w) : ∃ cv, clsV G c = some cv ∧ ClsV w cv := by
  rcases hc with ⟨n, rfl⟩ | ⟨s, rfl⟩
  · simp only [VR] at r; subst r; exact ⟨_, rfl, .ty n⟩
  · simp only [VR] at r
    obtain ⟨C, rfl⟩ := T.gref s w r.1
    exact ⟨.ref C, by simp [clsV, r.1], .own C⟩
theorem isiM_cls {own : Own} {t c : MV} {b : Bool} (h : isiM own t c = some b) : (∃ n, c = .ty n) ∨ ∃ s, c = .glo s := by
  cases c with
  | ty n => exact .inl ⟨n, rfl⟩
  | glo s => exact .inr ⟨s, rfl⟩
  | _ => cases t <;> simp [isiM] at h
theorem ty_V {K : PySem.W.Frag} {own : Own} (T : IsiOk K G own) {ρ : List Addr} {H : Hp} {mh : MH} {x t c : MV} {v : V} {b : Bool} (hr : HR K G ρ H mh) (e : tyM mh x = some t) (rv : VR K G ρ H x v) (hb : isiM own t c = some b) :
    ∃ tv, clsV G t = some tv ∧ TyX K H v tv := by
  unfold tyM at e
  split at e
  · cases e; simp only [VR] at rv; subst rv; exact ⟨_, rfl, .base .non⟩
  · cases e; simp only [VR] at rv; subst rv; exact ⟨_, rfl, .base (.bl _)⟩
  · cases e; simp only [VR] at rv; subst rv; exact ⟨_, rfl, .base (.int _)⟩
  · cases e; simp only [VR] at rv; subst rv; exact ⟨_, rfl, .base (.str _)⟩
  · cases e; simp only [VR] at rv; subst rv; exact ⟨_, rfl, .byt _⟩
  · cases e; simp only [VR] at rv; obtain ⟨a, vs, rfl, h1, _⟩ := rv; exact ⟨_, rfl, .base (.tup h1)⟩
  · cases e; simp only [VR] at rv; obtain ⟨a, vs, rfl, h1, _⟩ := rv; obtain ⟨_, o, e1, e2, _⟩ := h1; exact ⟨_, rfl, .kTuple e1 e2⟩
  · split at e
    · rename_i q; cases e; obtain ⟨a, ws, rfl, _, h1, h2⟩ := hr.lst q rv; exact ⟨_, rfl, .base (.lst h1)⟩
    · rename_i q; cases e; obtain ⟨a, ws, rfl, _, h1, h2⟩ := hr.dk q rv; exact ⟨_, rfl, .base (.dK h1)⟩
    · rename_i q; cases e; obtain ⟨a, ws, rfl, _, h1, h2⟩ := hr.dt q rv; exact ⟨_, rfl, .base (.dT h1)⟩
    · rename_i q; cases e
      simp only [VR] at rv
      obtain ⟨a, rfl, ha⟩ := rv
      obtain ⟨C, dx, vs, h1, h2, _⟩ := hr.get q ha
      obtain ⟨i1, i2, i3, i4, i5⟩ := T.ins _ C c b h1 hb
      exact ⟨.ref C, by simp [clsV, h1], .base (.ins h2 i1 i2 i3 i4 i5)⟩
    · cases e
  · cases e
theorem s_isi {own : Own} (T : IsiOk X.K G own) : CallS X.K G (rIsi X.K) (fIsi own) := by
  intro ρ H mh mh1 xs z vs Q hr rvs e k
  unfold fIsi at e
  split at e
  · rename_i x c
    obtain ⟨v, w, rfl, rv, rw'⟩ := rvs.two
    cases h1 : tyM mh x with
    | none => rw [h1] at e; cases e
    | some t =>
      rw [h1] at e
      cases h2 : isiM own t c with
      | none => simp only [h2] at e; cases e
      | some b =>
        simp only [h2] at e; cases e
        obtain ⟨cv, c1, c2⟩ := cls_V T (isiM_cls h2) rw'
        obtain ⟨tv, t1, t2⟩ := ty_V T hr h1 rv h2
        exact ⟨v, w, tv, cv, b, rfl, c2, t2, T.ok t c b tv cv h2 t1 c1, k _ _ Ext.refl hr _ (by simp [VR])⟩
  · cases e
end
def call (n : Nat) (f : MF) (ms : MEs) : ME := fun s h => (ms s h).bnd fun xs h1 => if xs.length = n then f xs h1 else .no
theorem ro_any {α : Type} {K : PySem.W.Frag} {G : String → Option V} {W : WX} {σ : St} {P : α → List Addr → Hp → Prop} {ρ : List Addr} {H : Hp} {r : Rz α} (h : RO K G W σ P ρ H r) : RO K G (fun cls d _ H => W cls d σ H) [] P ρ H r := by
  cases r with
  | ok v m => exact h
  | err e m => exact h
  | no => exact h
section
variable {X : Cx} {G : String → Option V} {W : WX} {e : Expr} {es : List Expr} {ms : MEs} {x : Str} {p pos : Pos} {k n : Nat} {fa : Addr} {fd : FuncData} {ps : List Str} {f : MF}
theorem call_re {σ : St} {H : Hp} {Q : VK} (h : RE X.K G W (call n f ms) σ H Q) : RA X.K G W ms σ H fun vs H1 => SpM X.K G n f vs H1 Q (WE W σ) := by
  obtain ⟨ρ, sm, mh, r0, q⟩ := h
  refine ra_bnd r0 q fun xs ρ1 H1 mh1 vs x1 r1 rvs q1 => ?_
  by_cases hl : xs.length = n
  · rw [if_pos hl] at q1
    exact ⟨ρ1, xs, mh1, r1.hr, rvs, by rw [← rvs.length]; exact hl, ro_any q1⟩
  · rw [if_neg hl] at q1; exact False.elim q1
theorem m_call (F : FnOk X.prog X.w X.K X.mg X.base (L2.CX X.prog X.w) k fa fd ps (SpM X.K G n f)) (hr : Room k X.A) (hg : Gl X x) (hm : X.mg x = some (.ref fa)) (hk : PySem.W.keepIn X.K (.ref fa) = true) (hb : Binds X.K fd ps []) (tk : Takes X W)
    (ha : PA X (e :: es) (RA X.K G W ms)) (hdb : (x == ("__debug__" : Str)) = false := by decide) (he : starEach (e :: es) X.env = (false, eval e X.env) :: starEach es X.env := by rfl) (hpl : (backTo pos (starEach es X.env)).any (·.1) = false := by rfl) :
    PE X (.Call (.Name x p) (e :: es) [] pos) (RE X.K G W (call n f ms)) :=
  pe_imp (pe_callS F hr hg hm hk hb (fun σ => passAt tk σ) ha hdb he hpl) fun _ _ _ h => call_re h
end
def Rz.bnS {α : Type} (r : Rz α) (s : Lo) (k : α → MH → SR) : SR := match r with
  | .ok v h => k v h
  | .err e h => .err e s h
  | .no => .no
def sNx : MS := fun s h => .nx s h
def sSeq (a b : MS) : MS := fun s h => match a s h with
  | .nx s1 h1 => b s1 h1
  | r => r
abbrev MG := MV → Lo → Option Lo
def gN (i : Nat) : MG := fun v s => some (s.set i (some v))
def setAll : List Nat → List MV → Lo → Option Lo
  | [], [], s => some s
  | i :: is, v :: vs, s => setAll is vs (s.set i (some v))
  | _, _, _ => none
def gT (is : List Nat) : MG := fun v s => (asT v).bind fun xs => setAll is xs s
def sAsg (e : ME) (g : MG) : MS := fun s h => (e s h).bnS s fun v h1 => match g v s with
  | some s1 => .nx s1 h1
  | none => .no
def sExp (e : ME) : MS := fun s h => (e s h).bnS s fun _ h1 => .nx s h1
def sRet (e : ME) : MS := fun s h => (e s h).bnS s fun v h1 => .rt v h1
def sRetN : MS := fun _ h => .rt .non h
def sIf (c : MB) (a b : MS) : MS := fun s h => (c s h).bnS s fun k h1 => if k = true then a s h1 else b s h1
def sBrk : MS := fun s h => .bk s h
def sCnt : MS := fun s h => .ct s h
section
variable {K : PySem.W.Frag} {G : String → Option V} {W : WX} {D : Ends} {ρ : List Addr} {H : Hp} {sm : Lo} {σ : St} {mh : MH}
theorem res_bnd {m : ME} {k : MV → MH → SR} {Q : VK} (r : Rl K G ρ H sm σ mh) (h : RSE K G W D ρ H ((m sm mh).bnS sm k))
    (hq : ∀ v ρ1 H1 mh1 x, Ext K ρ H ρ1 H1 → Rl K G ρ1 H1 sm σ mh1 → VR K G ρ1 H1 v x → RSE K G W D ρ1 H1 (k v mh1) → Q x H1) : RE K G W m σ H Q := by
  refine ⟨ρ, sm, mh, r, ?_⟩
  cases e : m sm mh with
  | ok v m1 => rw [e] at h; exact fun ρ1 H1 x hr w rv => hq v ρ1 H1 m1 w x (r.at x hr) rv (h.mono x)
  | err v m1 => rw [e] at h; exact fun ρ1 H1 cls d x hr er => h ρ1 H1 σ cls d x hr (r.sr.ext x) er
  | no => rw [e] at h; exact h
theorem rts_bnd {m : MB} {k : Bool → MH → SR} {Q : Bool → Hp → Prop} (r : Rl K G ρ H sm σ mh) (h : RSE K G W D ρ H ((m sm mh).bnS sm k))
    (hq : ∀ v ρ1 H1 mh1, Ext K ρ H ρ1 H1 → Rl K G ρ1 H1 sm σ mh1 → RSE K G W D ρ1 H1 (k v mh1) → Q v H1) : RT K G W m σ H Q := by
  refine ⟨ρ, sm, mh, r, ?_⟩
  cases e : m sm mh with
  | ok v m1 => rw [e] at h; exact fun ρ1 H1 x hr => hq v ρ1 H1 m1 x (r.at x hr) (h.mono x)
  | err v m1 => rw [e] at h; exact fun ρ1 H1 cls d x hr er => h ρ1 H1 σ cls d x hr (r.sr.ext x) er
  | no => rw [e] at h; exact h
theorem ras_bnd {m : MEs} {k : List MV → MH → SR} {Q : List V → Hp → Prop} (r : Rl K G ρ H sm σ mh) (h : RSE K G W D ρ H ((m sm mh).bnS sm k))
    (hq : ∀ v ρ1 H1 mh1 x, Ext K ρ H ρ1 H1 → Rl K G ρ1 H1 sm σ mh1 → VRs K G ρ1 H1 v x → RSE K G W D ρ1 H1 (k v mh1) → Q x H1) : RA K G W m σ H Q := by
  refine ⟨ρ, sm, mh, r, ?_⟩
  cases e : m sm mh with
  | ok v m1 => rw [e] at h; exact fun ρ1 H1 x hr w rv => hq v ρ1 H1 m1 w x (r.at x hr) rv (h.mono x)
  | err v m1 => rw [e] at h; exact fun ρ1 H1 cls d x hr er => h ρ1 H1 σ cls d x hr (r.sr.ext x) er
  | no => rw [e] at h; exact h
theorem RSE.nx {s1 : Lo} {m1 : MH} {σ1 : St} (h : RSE K G W D ρ H (.nx s1 m1)) (hr : HR K G ρ H m1) (sr : SRl K G ρ H s1 σ1) : D.nx σ1 H := h ρ H σ1 Ext.refl hr sr
theorem RSE.rt {v : MV} {m1 : MH} {w : V} (h : RSE K G W D ρ H (.rt v m1)) (hr : HR K G ρ H m1) (rv : VR K G ρ H v w) : D.rt w H := h ρ H w Ext.refl hr rv
theorem SRl.set {i : Nat} {x : MV} {v : V} (h : SRl K G ρ H sm σ) (r : VR K G ρ H x v) : SRl K G ρ H (sm.set i (some x)) (σ.set i (some v)) := by
  refine ⟨by simp [h.1], fun j y e => ?_⟩
  by_cases hj : i = j
  · subst hj
    by_cases hl : i < sm.length
    · rw [List.getElem?_set_self hl] at e
      cases e
      exact ⟨v, List.getElem?_set_self (by rw [← h.1]; exact hl), r⟩
    · rw [List.getElem?_eq_none (by simp; omega)] at e; cases e
  · rw [List.getElem?_set_ne hj] at e
    obtain ⟨w, a, b⟩ := h.2 j y e
    exact ⟨w, by rw [List.getElem?_set_ne hj]; exact a, b⟩
end
def GS (K : PySem.W.Frag) (G : String → Option V) (t : TG) (g : MG) : Prop :=
  ∀ {ρ : List Addr} {H : Hp} {sm s1 : Lo} {σ : St} {x : MV} {v : V} {mh : MH} {Q : St → Hp → Prop}, HR K G ρ H mh → SRl K G ρ H sm σ → VR K G ρ H x v → g x sm = some s1 → (∀ σ1, SRl K G ρ H s1 σ1 → Q σ1 H) → t v σ H Q
def GSs (K : PySem.W.Frag) (G : String → Option V) (t : TGs) (is : List Nat) : Prop :=
  ∀ {ρ : List Addr} {H : Hp} {sm s1 : Lo} {σ : St} {xs : List MV} {vs : List V} {mh : MH} {Q : St → Hp → Prop}, HR K G ρ H mh → SRl K G ρ H sm σ → VRs K G ρ H xs vs → setAll is xs sm = some s1 → (∀ σ1, SRl K G ρ H s1 σ1 → Q σ1 H) → t vs σ H Q
section
variable {K : PySem.W.Frag} {G : String → Option V}
theorem gs_name {i : Nat} : GS K G (gName i) (gN i) := by
  intro ρ H sm s1 σ x v mh Q hr sr rv e k
  cases e
  exact k _ (sr.set rv)
theorem gss_nil : GSs K G gNil [] := by
  intro ρ H sm s1 σ xs vs mh Q hr sr rvs e k
  cases xs with
  | nil => simp only [VRs] at rvs; subst rvs; cases e; exact ⟨rfl, k _ sr⟩
  | cons x xs => cases e
theorem gss_cons {i : Nat} {is : List Nat} {u : TGs} (h : GSs K G u is) : GSs K G (gCons (gName i) u) (i :: is) := by
  intro ρ H sm s1 σ xs vs mh Q hr sr rvs e k
  cases xs with
  | nil => cases e
  | cons x xs =>
    simp only [VRs] at rvs
    obtain ⟨v, r, rfl, q, t⟩ := rvs
    exact ⟨v, r, rfl, h hr (sr.set q) t e k⟩
theorem setAll_len : ∀ {is : List Nat} {xs : List MV} {s s1 : Lo}, setAll is xs s = some s1 → xs.length = is.length
  | [], [], _, _, _ => rfl
  | i :: is, x :: xs, s, s1, h => by simp [setAll_len (is := is) (xs := xs) h]
  | [], _ :: _, _, _, h => by cases h
  | _ :: _, [], _, _, h => by cases h
theorem gs_tup {is : List Nat} {u : TGs} (h : GSs K G u is) : GS K G (gTup K is.length u) (gT is) := by
  intro ρ H sm s1 σ x v mh Q hr sr rv e k
  unfold gT at e
  cases e1 : asT x with
  | none => rw [e1] at e; cases e
  | some xs =>
    rw [e1] at e
    have e' : setAll is xs sm = some s1 := e
    obtain ⟨a, vs, rfl, h1, h2⟩ := rv.tup e1
    exact ⟨a, vs, rfl, h1, by rw [← h2.length, setAll_len e'], h hr sr h2 e' k⟩
end
section
variable {X : Cx} {G : String → Option V} {W : WX} {st : Stmt} {rest : List Stmt} {a b : MS} {e : Expr} {m : ME} {pos : Pos}
theorem m_snil : PSs X [] (RS X.K G W sNx) := pss_imp pss_nil fun D σ H ⟨ρ, sm, mh, r, q⟩ => RSE.nx (σ1 := σ) q r.hr r.sr
theorem m_scons (h1 : PS X st (RS X.K G W a)) (h2 : PSs X rest (RS X.K G W b)) : PSs X (st :: rest) (RS X.K G W (sSeq a b)) := by
  refine pss_imp (pss_cons h1 h2) fun D σ H ⟨ρ, sm, mh, r, q⟩ => ⟨ρ, sm, mh, r, ?_⟩
  unfold sSeq at q
  cases e : a sm mh with
  | nx s m => rw [e] at q; exact fun ρ1 H1 σ1 x hr sr => ⟨ρ1, s, m, ⟨hr, sr⟩, RSE.mono x q⟩
  | rt v m => rw [e] at q; exact q
  | bk s m => rw [e] at q; exact q
  | ct s m => rw [e] at q; exact q
  | err v s m => rw [e] at q; exact q
  | no => rw [e] at q; exact q
theorem m_sone (h1 : PS X st (RS X.K G W a)) : PSs X [st] (RS X.K G W a) := pss_one h1
theorem m_expr (he : PE X e (RE X.K G W m)) (hs : swapsWith e none pos.line X.env = pure false := by rfl) : PS X (.Expr e pos) (RS X.K G W (sExp m)) :=
  ps_imp (ps_expr he hs) fun D σ H ⟨ρ, sm, mh, r, q⟩ => res_bnd r q fun v ρ1 H1 mh1 x x1 r1 rv q1 => RSE.nx (σ1 := σ) q1 r1.hr r1.sr
theorem m_ret (he : PE X e (RE X.K G W m)) : PS X (.Return (some e) pos) (RS X.K G W (sRet m)) :=
  ps_imp (ps_ret he) fun D σ H ⟨ρ, sm, mh, r, q⟩ => res_bnd r q fun v ρ1 H1 mh1 x x1 r1 rv q1 => RSE.rt q1 r1.hr rv
theorem m_if {c : Expr} {as bs : List Stmt} {mc : MB} (hc : PT X c (RT X.K G W mc)) (ha : PSs X as (RS X.K G W a)) (hb : PSs X bs (RS X.K G W b)) : PS X (.If c as bs pos) (RS X.K G W (sIf mc a b)) := by
  refine ps_imp (ps_if hc ha hb) fun D σ H ⟨ρ, sm, mh, r, q⟩ => rts_bnd r q fun k ρ1 H1 mh1 x1 r1 q1 => ?_
  cases k with
  | true => rw [if_pos rfl] at q1 ⊢; exact ⟨_, _, _, r1, q1⟩
  | false => rw [if_neg Bool.false_ne_true] at q1 ⊢; exact ⟨_, _, _, r1, q1⟩
theorem asg_re {te : TE} {t : TG} {g : MG} (hg : GS X.K G t g) (i : ∀ σ H Q, RE X.K G W m σ H Q → te σ H Q) (D : Ends) (σ : St) (H : Hp) (h : RS X.K G W (sAsg m g) D σ H) : tAsg te t D σ H := by
  obtain ⟨ρ, sm, mh, r, q⟩ := h
  refine i σ H _ (res_bnd r q fun v ρ1 H1 mh1 x x1 r1 rv q1 => ?_)
  cases e : g v sm with
  | none => rw [e] at q1; exact False.elim q1
  | some s1 =>
    rw [e] at q1
    exact hg r1.hr r1.sr rv e fun σ1 sr => RSE.nx (σ1 := σ1) q1 r1.hr sr
theorem m_set {i : Nat} {x : Str} {pos' : Pos} (hN : X.N.Nodup) (hi : X.N[i]? = some x) (hx : L2.Loc X.env.scope x) (he : PE X e (RE X.K G W m)) (hs : swapsWith e (some (.Name x pos')) pos.line X.env = pure false := by rfl) (hf : X.fn x = true ∨ X.env.scope.names.lookup x = some .local := by first | exact .inl rfl | exact .inr rfl | assumption) :
    PS X (.Assign [.Name x pos'] e pos) (RS X.K G W (sAsg m (gN i))) := ps_imp (ps_set hN hi hx he hs hf) fun D σ H h => asg_re gs_name (fun _ _ _ q => q) D σ H h
end
def mDef (n : Nat) (b : MS) : MF := fun xs h => match b (xs.map some ++ List.replicate (n - xs.length) none) h with
  | .nx _ h1 => .ok .non h1
  | .rt v h1 => .ok v h1
  | .err e _ h1 => .err e h1
  | _ => .no
section
variable {P : Program} {w : World} {K : PySem.W.Frag} {mg : Str → Option Value} {base : Heap} {G : String → Option V}
theorem VRs.at {ρ : List Addr} {H : Hp} {xs : List MV} {vs : List V} (r : VRs K G ρ H xs vs) {n : Nat} : SRl K G ρ H (xs.map some ++ List.replicate (n - xs.length) none) (vs.map some ++ List.replicate (n - vs.length) none) := by
  have hl := r.length
  refine ⟨by simp [hl], fun i x e => ?_⟩
  by_cases hi : i < xs.length
  · rw [List.getElem?_append_left (by simpa using hi), List.getElem?_map] at e
    cases e1 : xs[i]? with
    | none => rw [e1] at e; cases e
    | some y =>
      rw [e1] at e
      cases e
      obtain ⟨v, h1, h2⟩ := r.get e1
      exact ⟨v, by rw [List.getElem?_append_left (by rw [List.length_map]; omega), List.getElem?_map, h1]; rfl, h2⟩
  · rw [List.getElem?_append_right (by simpa using hi)] at e
    have := List.mem_of_getElem? e
    simp at this
end
end Mo
namespace Mo
open PySem L2
abbrev Itm := Nat → MH → Option (Option MV)
def forG (get : Itm) (g : MG) (b : MS) : Nat → Nat → MS
  | 0, _, _, _ => .no
  | n + 1, i, s, h => match get i h with
    | none => .no
    | some none => .nx s h
    | some (some x) => match g x s with
      | none => .no
      | some s1 => match b s1 h with
        | .nx s2 h2 => forG get g b n (i + 1) s2 h2
        | .ct s2 h2 => forG get g b n (i + 1) s2 h2
        | .bk s2 h2 => .nx s2 h2
        | r => r
structure ItS (K : PySem.W.Frag) (G : String → Option V) (ρ0 : List Addr) (H0 : Hp) (J : It) (get : Itm) : Prop where
  stop : ∀ {i ρ H mh}, Ext K ρ0 H0 ρ H → HR K G ρ H mh → get i mh = some none → J.stop i H
  go : ∀ {i ρ H mh x}, Ext K ρ0 H0 ρ H → HR K G ρ H mh → get i mh = some (some x) → J.go i H
  yld : ∀ {i ρ H mh x y H'}, Ext K ρ0 H0 ρ H → HR K G ρ H mh → get i mh = some (some x) → J.yld i H y H' → ∃ ρ', Ext K ρ H ρ' H' ∧ HR K G ρ' H' mh ∧ VR K G ρ' H' x y
section
variable {K : PySem.W.Frag} {G : String → Option V} {W : WX}
theorem for_sim {ρ0 ρ : List Addr} {H0 H : Hp} {J : It} {get : Itm} {t : TG} {g : MG} {b : MS} {D : Ends} {n : Nat} {sm : Lo} {σ : St} {mh : MH} (T : ItS K G ρ0 H0 J get) (hg : GS K G t g) (x0 : Ext K ρ0 H0 ρ H) (r0 : Rl K G ρ H sm σ mh)
    (h : RSE K G W D ρ H (forG get g b n 0 sm mh)) :
    ∃ W' : Nat → Nat → St → Hp → Prop, (∃ m, W' 0 m σ H) ∧ ∀ i m σ H, W' i m σ H →
      (J.stop i H ∧ D.nx σ H) ∨ (J.go i H ∧ ∃ N : St → Hp → Prop, (∀ σ' H', N σ' H' → ∃ m', m' < m ∧ W' (i + 1) m' σ' H') ∧ ∀ x H', J.yld i H x H' → t x σ H' fun σ2 H2 => RS K G W b { D with nx := N, ct := N, bk := D.nx } σ2 H2) := by
  refine ⟨fun i m σ H => ∃ ρ sm mh, Ext K ρ0 H0 ρ H ∧ Rl K G ρ H sm σ mh ∧ RSE K G W D ρ H (forG get g b m i sm mh), ⟨n, ρ, sm, mh, x0, r0, h⟩, ?_⟩
  rintro i m σ H ⟨ρ, sm, mh, x, r, q⟩
  cases m with
  | zero => exact False.elim q
  | succ m =>
    unfold forG at q
    cases e : get i mh with
    | none => rw [e] at q; exact False.elim q
    | some o =>
      rw [e] at q
      cases o with
      | none => exact .inl ⟨T.stop x r.hr e, RSE.nx (σ1 := σ) q r.hr r.sr⟩
      | some v =>
        refine .inr ⟨T.go x r.hr e, fun σ' H' => ∃ ρ sm mh, Ext K ρ0 H0 ρ H' ∧ Rl K G ρ H' sm σ' mh ∧ RSE K G W D ρ H' (forG get g b m (i + 1) sm mh), fun σ' H' z => ⟨m, Nat.lt_succ_self _, z⟩, fun y H' hy => ?_⟩
        obtain ⟨ρ', x', hr', rv⟩ := T.yld x r.hr e hy
        dsimp only at q
        cases e2 : g v sm with
        | none => rw [e2] at q; exact False.elim q
        | some s1 =>
          rw [e2] at q
          refine hg hr' (r.sr.ext x') rv e2 fun σ1 sr1 => ⟨ρ', s1, mh, ⟨hr', sr1⟩, ?_⟩
          dsimp only at q
          cases e3 : b s1 mh with
          | nx s2 h2 => rw [e3] at q; exact fun ρ1 H1 σ2 x1 hr1 sr2 => ⟨ρ1, s2, h2, (x.trans x').trans x1, ⟨hr1, sr2⟩, (RSE.mono (x'.trans x1) q)⟩
          | ct s2 h2 => rw [e3] at q; exact fun ρ1 H1 σ2 x1 hr1 sr2 => ⟨ρ1, s2, h2, (x.trans x').trans x1, ⟨hr1, sr2⟩, (RSE.mono (x'.trans x1) q)⟩
          | bk s2 h2 => rw [e3] at q; exact fun ρ1 H1 σ2 x1 hr1 sr2 => q ρ1 H1 σ2 (x'.trans x1) hr1 sr2
          | rt v2 h2 => rw [e3] at q; exact fun ρ1 H1 σ2 x1 hr1 sr2 => q ρ1 H1 σ2 (x'.trans x1) hr1 sr2
          | err v2 s2 h2 => rw [e3] at q; exact fun ρ1 H1 σ2 c d x1 hr1 sr2 er => q ρ1 H1 σ2 c d (x'.trans x1) hr1 sr2 er
          | no => rw [e3] at q; exact False.elim q
end
def getSeq (v : MV) : Itm := fun i h => (seqOf h v).map fun xs => xs[i]?
def getL (xs : List MV) : Itm := fun i _ => some xs[i]?
def getR (lo : Int) (n : Nat) : Itm := fun i _ => some (if i < n then some (.int (lo + i)) else none)
section
variable {K : PySem.W.Frag} {G : String → Option V} {ρ0 : List Addr} {H0 : Hp}
theorem its_list {v : MV} {a : Addr} (hv : VR K G ρ0 H0 v (.ref a)) (hn : asT v = none) : ItS K G ρ0 H0 (Itl K a) (getSeq v) := by
  have key : ∀ {ρ H mh xs}, Ext K ρ0 H0 ρ H → HR K G ρ H mh → seqOf mh v = some xs → ∃ vs, SqL K H a vs ∧ VRs K G ρ H xs vs := fun {ρ H mh xs} x hr e => by
    cases v with
    | ref i =>
      simp only [seqOf] at e
      split at e
      · rename_i q
        cases e
        obtain ⟨b, vs, e1, _, h1, h2⟩ := hr.lst q (hv.ext x)
        cases e1
        exact ⟨vs, SqL.of h1, h2⟩
      · cases e
    | frl ys =>
      simp only [seqOf] at e; cases e
      have := hv.ext x
      simp only [VR] at this
      obtain ⟨b, vs, e1, h1, h2⟩ := this
      cases e1
      exact ⟨vs, h1.sq, h2⟩
    | tup _ => simp [asT] at hn
    | ktp _ => simp [asT] at hn
    | _ => simp [seqOf] at e
  have get : ∀ {i mh o}, getSeq v i mh = some o → ∃ xs, seqOf mh v = some xs ∧ xs[i]? = o := fun {i mh o} e => by
    unfold getSeq at e
    cases h : seqOf mh v with
    | none => rw [h] at e; cases e
    | some xs => rw [h] at e; exact ⟨xs, rfl, Option.some.inj e⟩
  refine ⟨fun {i ρ H mh} x hr e => ?_, fun {i ρ H mh z} x hr e => ?_, fun {i ρ H mh z y H'} x hr e hy => ?_⟩
  · obtain ⟨xs, e1, e2⟩ := get e
    obtain ⟨vs, h1, h2⟩ := key x hr e1
    exact ⟨vs, h1, by rw [← h2.length]; exact List.getElem?_eq_none_iff.mp e2⟩
  · obtain ⟨xs, e1, e2⟩ := get e
    obtain ⟨vs, h1, h2⟩ := key x hr e1
    obtain ⟨u, h3, _⟩ := h2.get e2
    exact ⟨vs, u, h1, h3⟩
  · obtain ⟨xs, e1, e2⟩ := get e
    obtain ⟨vs, h1, h2⟩ := key x hr e1
    obtain ⟨u, h3, h4⟩ := h2.get e2
    obtain ⟨rfl, h5⟩ := hy
    have := h5 vs h1
    rw [h3] at this; cases this
    exact ⟨ρ, Ext.refl, hr, h4⟩
theorem its_tup {v : MV} {a : Addr} {xs : List MV} (hv : VR K G ρ0 H0 v (.ref a)) (hn : asT v = some xs) : ItS K G ρ0 H0 (Itt K a) (getL xs) := by
  have key : ∀ {ρ H}, Ext K ρ0 H0 ρ H → ∃ vs, SqT K H a vs ∧ VRs K G ρ H xs vs := fun {ρ H} x => by
    obtain ⟨b, vs, e, h1, h2⟩ := (hv.ext x).tup hn
    cases e
    exact ⟨vs, h1, h2⟩
  refine ⟨fun {i ρ H mh} x hr e => ?_, fun {i ρ H mh z} x hr e => ?_, fun {i ρ H mh z y H'} x hr e hy => ?_⟩
  · obtain ⟨vs, h1, h2⟩ := key x
    exact ⟨vs, h1, by rw [← h2.length]; exact List.getElem?_eq_none_iff.mp (Option.some.inj e)⟩
  · obtain ⟨vs, h1, h2⟩ := key x
    obtain ⟨u, h3, _⟩ := h2.get (Option.some.inj e)
    exact ⟨vs, u, h1, h3⟩
  · obtain ⟨vs, h1, h2⟩ := key x
    obtain ⟨u, h3, h4⟩ := h2.get (Option.some.inj e)
    obtain ⟨rfl, h5⟩ := hy
    have := h5 vs h1
    rw [h3] at this; cases this
    exact ⟨ρ, Ext.refl, hr, h4⟩
theorem its_rng {lo : Int} {n : Nat} : ItS K G ρ0 H0 (Itr lo n) (getR lo n) := by
  refine ⟨fun {i ρ H mh} x hr e => ?_, fun {i ρ H mh z} x hr e => ?_, fun {i ρ H mh z y H'} x hr e hy => ?_⟩
  · unfold getR at e
    split at e
    · cases e
    · rename_i h; exact Nat.le_of_not_lt h
  · unfold getR at e
    split at e
    · rename_i h; exact h
    · cases e
  · unfold getR at e
    split at e
    · cases e
      obtain ⟨rfl, rfl⟩ := hy
      exact ⟨ρ, Ext.refl, hr, by simp [VR]⟩
    · cases e
def chars (z : Str) : List MV := z.cps.toList.map fun c => .str ⟨#[c]⟩
theorem its_str {z : Str} : ItS K G ρ0 H0 (Its z) (getL (chars z)) := by
  have ln : (chars z).length = z.cps.size := by simp [chars]
  refine ⟨fun {i ρ H mh} x hr e => ?_, fun {i ρ H mh u} x hr e => ?_, fun {i ρ H mh u y H'} x hr e hy => ?_⟩
  · have h := List.getElem?_eq_none_iff.mp (Option.some.inj e)
    rw [ln] at h; exact h
  · have h := (List.getElem?_eq_some_iff.mp (Option.some.inj e)).1
    rw [ln] at h; exact h
  · have e' := Option.some.inj e
    obtain ⟨rfl, c, h1, rfl⟩ := hy
    refine ⟨ρ, Ext.refl, hr, ?_⟩
    unfold chars at e'
    rw [List.getElem?_map, Array.getElem?_toList, h1] at e'
    cases e'
    simp [VR]
end
def sFor (it : ME) (g : MG) (b : MS) : MS := fun s h => (it s h).bnS s fun v h1 => match v with
  | .str z => forG (getL (chars z)) g b (z.length + 1) 0 s h1
  | v => match asT v with
    | some xs => forG (getL xs) g b (xs.length + 1) 0 s h1
    | none => match seqOf h1 v with
      | some xs => forG (getSeq v) g b (xs.length + 1) 0 s h1
      | none => .no
def rng1 (xs : List MV) : Option (Int × Nat) := match xs with
  | [.int j] => if -(2 ^ 62) ≤ j ∧ j < 2 ^ 62 then some (0, j.toNat) else none
  | _ => none
def sForR (rg : List MV → Option (Int × Nat)) (as : MEs) (g : MG) (b : MS) : MS := fun s h => (as s h).bnS s fun xs h1 => match rg xs with
  | some (lo, n) => forG (getR lo n) g b (n + 1) 0 s h1
  | none => .no
section
variable {X : Cx} {G : String → Option V} {W : WX} {tg iter a b' : Expr} {body : List Stmt} {m : ME} {ms : MEs} {t : TG} {g : MG} {b : MS} {mc : MB} {pos p cpos : Pos}
theorem ps_alt {st : Stmt} {t t' : TS} (h : PS X st t) (h' : PS X st t') : PS X st (fun D σ H => t D σ H ∨ t' D σ H) :=
  ⟨fun pins s σ H D I q => q.elim (fun q => h.run pins s σ H D I q) fun q => h'.run pins s σ H D I q⟩
theorem m_for (hp : PassesOwn (model X.prog X.w) X.A X.env X.xe) (hc : X.calm = true) (hi : PE X iter (RE X.K G W m)) (hg : PG X tg t) (hgs : GS X.K G t g) (hb : PSs X body (RS X.K G W b))
    (hs : ∀ x, foldedSetIterable iter X.env x = pure x := by intro _; rfl) : PS X (.For tg iter body [] pos) (RS X.K G W (sFor m g b)) := by
  refine ps_imp (ps_alt (ps_for hp hc (pi_list hi) hg hb hs) (ps_alt (ps_for hp hc (pi_tup hi) hg hb hs) (ps_for hp hc (pi_str hi) hg hb hs))) fun D σ H ⟨ρ, sm, mh, r, q⟩ => ?_
  unfold sFor at q
  cases e : m sm mh with
  | no => rw [e] at q; exact False.elim q
  | err v m1 =>
    rw [e] at q
    refine .inl ⟨ρ, sm, mh, r, ?_⟩
    rw [e]
    exact fun ρ1 H1 cls d x hr er => q ρ1 H1 σ cls d x hr (r.sr.ext x) er
  | ok v m1 =>
    have run : ∀ {Q : VK}, (∀ ρ1 H1 w, Ext X.K ρ H ρ1 H1 → Rl X.K G ρ1 H1 sm σ m1 → VR X.K G ρ1 H1 v w → Q w H1) → RE X.K G W m σ H Q := fun {Q} k => by
      refine ⟨ρ, sm, mh, r, ?_⟩
      rw [e]
      exact fun ρ1 H1 x hr w rv => k ρ1 H1 w x (r.at x hr) rv
    rw [e] at q
    dsimp only [Rz.bnS] at q
    split at q
    · rename_i z
      refine .inr (.inr (run fun ρ1 H1 w x1 r1 rv => ?_))
      simp only [VR] at rv
      subst rv
      exact ⟨z, rfl, for_sim its_str hgs (Ext.refl (ρ := ρ1)) r1 (RSE.mono x1 q)⟩
    · split at q
      · rename_i xs hx
        refine .inr (.inl (run fun ρ1 H1 w x1 r1 rv => ?_))
        obtain ⟨a, vs, rfl, h1, h2⟩ := rv.tup hx
        exact ⟨a, rfl, ⟨vs, h1⟩, for_sim (its_tup rv hx) hgs (Ext.refl (ρ := ρ1)) r1 (RSE.mono x1 q)⟩
      · rename_i hx
        split at q
        · rename_i xs hq
          refine .inl (run fun ρ1 H1 w x1 r1 rv => ?_)
          obtain ⟨a, vs, rfl, h1, h2⟩ := seq_V r1.hr hq rv
          refine ⟨a, rfl, ?_, for_sim (its_list rv hx) hgs (Ext.refl (ρ := ρ1)) r1 (RSE.mono x1 q)⟩
          rcases h1 with h1 | h1
          · exact ⟨vs, h1⟩
          · have z : ∃ vs, SqL X.K H1 a vs := by
              cases v with
              | ref i =>
                simp only [seqOf] at hq
                split at hq
                · rename_i q2
                  obtain ⟨b, ws, e1, _, h3, _⟩ := r1.hr.lst q2 rv
                  cases e1
                  exact ⟨ws, SqL.of h3⟩
                · cases hq
              | frl ys =>
                simp only [VR] at rv
                obtain ⟨b, ws, e1, h3, _⟩ := rv
                cases e1
                exact ⟨ws, h3.sq⟩
              | tup _ => simp [asT] at hx
              | ktp _ => simp [asT] at hx
              | _ => simp [seqOf] at hq
            exact z
        · exact False.elim q
theorem m_forR1 (hp : PassesOwn (model X.prog X.w) X.A X.env X.xe) (hc : X.calm = true) (hgl : Gl X "range") (hm : X.mg "range" = none) (ha : PA X [a] (RA X.K G W ms)) (hg : PG X tg t) (hgs : GS X.K G t g) (hb : PSs X body (RS X.K G W b))
    (hs : starEach [a] X.env = [(false, eval a X.env)] := by rfl) (hs2 : ∀ x, foldedSetIterable (.Call (.Name "range" p) [a] [] cpos) X.env x = pure x := by intro _; rfl) :
    PS X (.For tg (.Call (.Name "range" p) [a] [] cpos) body [] pos) (RS X.K G W (sForR rng1 ms g b)) := by
  refine ps_imp (ps_for hp hc (pi_range1 hgl hm ha hs) hg hb hs2) fun D σ H ⟨ρ, sm, mh, r, q⟩ => ?_
  refine ras_bnd r q fun xs ρ1 H1 mh1 vs x1 r1 rvs q1 => ?_
  unfold rng1 at q1
  split at q1
  · rename_i e
    split at e
    · rename_i j
      obtain ⟨v, rfl, rv⟩ := rvs.one
      simp only [VR] at rv
      subst rv
      split at e
      · rename_i hj
        cases e
        exact ⟨j, rfl, hj.1, hj.2, for_sim its_rng hgs (Ext.refl (ρ := ρ1)) r1 q1⟩
      · cases e
    · cases e
  · exact False.elim q1
end
theorem law_sp {K : PySem.W.Frag} {G : String → Option V} {f : MF} {H : Hp} {a : Addr} {ns : List Int} (hO : Only H) (hS : SqL K H a (ns.map V.int)) (h : ∃ h1, f [.frl (ns.map MV.int)] [] = .ok (.bl true) h1) :
    SpM K G 1 f [.ref a] H (fun v _ => v = .bl true) fun _ _ _ => False := by
  obtain ⟨h1, e⟩ := h
  have allI : ∀ (ns : List Int), VRs K G [] H (ns.map MV.int) (ns.map V.int) := by
    intro ns
    induction ns with
    | nil => exact VRs.nil
    | cons n ns ih => exact VRs.cons (by simp [VR]) ih
  have fr : FrL K H a (ns.map V.int) := by
    rcases hS with (q | q) | q
    · rcases hO a with z | ⟨o, xs, z⟩
      · rw [z] at q; cases q
      · rw [z] at q; cases q
    · exact .inl q
    · exact .inr q
  refine ⟨[], [.frl (ns.map MV.int)], [], ⟨rfl, List.nodup_nil, fun i o e => by simp at e⟩, VRs.cons (by simp only [VR]; exact ⟨a, _, rfl, fr, allI ns⟩) VRs.nil, rfl, ?_⟩
  rw [e]
  exact fun ρ1 H1 x hr v rv => by simpa [VR] using rv
end Mo
namespace Mo
open PySem L2
def eMt (g : MV → MH → Bool) (f : MV → List MV → MH → OV) (a : ME) (as : MEs) : ME := fun s h => (a s h).bnd fun x h1 => if g x h1 = true then (as s h1).bnd fun xs h2 => lift (f x xs h2) else .no
def MtS (K : PySem.W.Frag) (G : String → Option V) (r : V → List V → Hp → VK → Prop) (f : MV → List MV → MH → OV) : Prop :=
  ∀ {ρ : List Addr} {H : Hp} {mh mh1 : MH} {x z : MV} {xs : List MV} {v : V} {vs : List V} {Q : VK}, HR K G ρ H mh → VR K G ρ H x v → VRs K G ρ H xs vs → f x xs mh = some (z, mh1) →
    (∀ ρ1 H1, Ext K ρ H ρ1 H1 → HR K G ρ1 H1 mh1 → ∀ v1, VR K G ρ1 H1 z v1 → Q v1 H1) → r v vs H Q
def TyS (K : PySem.W.Frag) (G : String → Option V) (T : String) (g : MV → MH → Bool) : Prop := ∀ {ρ : List Addr} {H : Hp} {mh : MH} {x : MV} {v : V}, HR K G ρ H mh → VR K G ρ H x v → g x mh = true → tyV K T v H
def isL (x : MV) (h : MH) : Bool := match x with
  | .ref i => match h[i]? with
    | some (.lst _) => true
    | _ => false
  | .frl _ => true
  | _ => false
def isS (x : MV) (_ : MH) : Bool := match x with
  | .str _ => true
  | _ => false
section
variable {X : Cx} {G : String → Option V} {W : WX} {o e : Expr} {es : List Expr} {mo : ME} {ms : MEs} {name : Str} {apos cpos : Pos} {T id : String} {r : V → List V → Hp → VK → Prop} {f : MV → List MV → MH → OV} {g : MV → MH → Bool}
theorem t_lst {K : PySem.W.Frag} : TyS K G "list" isL := by
  intro ρ H mh x v hr rv h
  unfold isL at h
  split at h
  · split at h
    · rename_i q
      obtain ⟨a, vs, rfl, _, h1, _⟩ := hr.lst q rv
      exact .inl ⟨rfl, _, SqL.of h1⟩
    · cases h
  · simp only [VR] at rv
    obtain ⟨a, vs, rfl, h1, _⟩ := rv
    exact .inl ⟨rfl, _, h1.sq⟩
  · cases h
theorem t_str {K : PySem.W.Frag} : TyS K G "str" isS := by
  intro ρ H mh x v hr rv h
  unfold isS at h
  split at h
  · simp only [VR] at rv; subst rv; exact rfl
  · cases h
theorem bm_run {σ : St} {H : Hp} {Q : VK} {P : V → Hp → Prop} (hT : TyS X.K G T g) (h : RE X.K G W (eMt g f mo ms) σ H Q)
    (k : ∀ ρ H mh sm x v, Rl X.K G ρ H sm σ mh → VR X.K G ρ H x v → tyV X.K T v H → RO X.K G W σ (PV X.K G Q) ρ H ((ms sm mh).bnd fun xs h2 => lift (f x xs h2)) → P v H) : RE X.K G W mo σ H P := by
  obtain ⟨ρ, sm, mh, r0, q⟩ := h
  refine re_bnd r0 q fun x ρ1 H1 mh1 v x1 r1 rv q1 => ?_
  by_cases hg : g x mh1 = true
  · rw [if_pos hg] at q1; exact k ρ1 H1 mh1 sm x v r1 rv (hT r1.hr rv hg) q1
  · rw [if_neg hg] at q1; exact False.elim q1
theorem m_bm (pa : PlainAttrs T) (slot : Slot T name id) (hty : typeOf (.builtin id) = pure (.type "method_descriptor")) (hm : MtR X id r) (hT : TyS X.K G T g) (hs : MtS X.K G r f) (ho : PE X o (RE X.K G W mo)) (ha : PA X (e :: es) (RA X.K G W ms))
    (hbase : attributeBase o name X.env (eval o X.env) = eval o X.env := by rfl)
    (hfew : ((backTo cpos (starEach (e :: es) X.env)).all (fun x => !x.1) && (backToKw cpos (keywordEach [] X.env)).all (fun x => x.1.isSome)
      && decide ((e :: es).length + ([] : List Keyword).length + (if ([] : List Keyword).isEmpty then 0 else 1) < 30)) = true := by rfl)
    (hline : (apos.endLine == cpos.line) = true := by rfl) (hst : starEach (e :: es) X.env = (false, eval e X.env) :: starEach es X.env := by rfl) (hplain : (backTo cpos (starEach es X.env)).any (·.1) = false := by rfl) :
    PE X (.Call (.Attribute o name apos) (e :: es) [] cpos) (RE X.K G W (eMt g f mo ms)) := by
  refine pe_imp (pe_bm pa slot hty hm ho ha hbase hfew hline hst hplain) fun σ H Q h => ?_
  refine bm_run hT h fun ρ1 H1 mh1 sm x v r1 rv ty q1 => ⟨ty, ?_⟩
  refine ra_bnd r1 q1 fun xs ρ2 H2 mh2 vs x2 r2 rvs q2 => ?_
  obtain ⟨z, h1, e, k⟩ := ro_lift q2
  exact hs r2.hr (rv.ext x2) rvs e k
theorem m_bm0 (pa : PlainAttrs T) (slot : Slot T name id) (hty : typeOf (.builtin id) = pure (.type "method_descriptor")) (hm : MtR X id r) (hT : TyS X.K G T g) (hs : MtS X.K G r f) (ho : PE X o (RE X.K G W mo))
    (hbase : attributeBase o name X.env (eval o X.env) = eval o X.env := by rfl) (hline : (apos.endLine == cpos.line) = true := by rfl) :
    PE X (.Call (.Attribute o name apos) [] [] cpos) (RE X.K G W (eMt g f mo aNil)) := by
  refine pe_imp (pe_bm0 pa slot hty hm ho hbase hline) fun σ H Q h => ?_
  refine bm_run hT h fun ρ1 H1 mh1 sm x v r1 rv ty q1 => ⟨ty, ?_⟩
  obtain ⟨z, h1, e, k⟩ := ro_lift q1
  exact hs r1.hr rv VRs.nil e k
end
def lstOp (f : List MV → List MV → Option (MV × List MV)) (x : MV) (xs : List MV) (h : MH) : OV := match x with
  | .ref i => match h[i]? with
    | some (.lst ys) => (f ys xs).map fun p => (p.1, h.set i (.lst p.2))
    | _ => none
  | _ => none
def oAppend (ys xs : List MV) : Option (MV × List MV) := match xs with
  | [y] => if ys.length < SZ then some (.non, ys ++ [y]) else none
  | _ => none
abbrev fAppend := lstOp oAppend
section
variable {K : PySem.W.Frag} {G : String → Option V} {ρ : List Addr} {H : Hp} {mh : MH}
theorem put_lst (hr : HR K G ρ H mh) {i : Nat} {ys zs : List MV} {a : Addr} {vs ws : List V} (e : mh[i]? = some (.lst ys)) (ha : ρ[i]? = some a) (hH : H a = some (.lst vs)) (r : VRs K G ρ H zs ws) :
    HR K G ρ (upd H a (.lst ws)) (mh.set i (.lst zs)) ∧ Ext K ρ H ρ (upd H a (.lst ws)) :=
  hr.write e ha ⟨ws, upd_same, r.ext (ext_write hH (by simp [Plain]))⟩
theorem s_append : MtS K G rAppend fAppend := by
  intro ρ H mh mh1 x z xs v vs Q hr rv rvs e k
  unfold fAppend lstOp at e
  split at e
  · split at e
    · rename_i ys q
      cases h : oAppend ys xs with
      | none => rw [h] at e; cases e
      | some p =>
        rw [h] at e; cases e
        unfold oAppend at h
        split at h
        · split at h
          · rename_i hl
            cases h
            obtain ⟨w, rfl, rw'⟩ := rvs.one
            obtain ⟨a, us, rfl, ha, h1, h2⟩ := hr.lst q rv
            obtain ⟨a1, a2⟩ := put_lst hr q ha h1 (h2.append (VRs.cons rw' VRs.nil))
            exact ⟨a, us, w, rfl, rfl, h1, by rw [SZ_eq, ← h2.length]; exact hl, k _ _ a2 a1 _ (by simp [VR])⟩
          · cases h
        · cases h
    · cases e
  · cases e
end
end Mo
namespace Mo
open PySem L2
section
variable {s s1 : Lo} {h h1 : MH} {x y v : MV} {e : MX}
def K2 (r : Rz MV) (f : MV → MV → MH → OV) (b : ME) (s : Lo) : Rz MV := r.bnd fun x h1 => (b s h1).bnd fun y h2 => lift (f x y h2)
def K3 (r : Rz MV) (f : MV → MV → MH → OV) (x : MV) : Rz MV := r.bnd fun y h2 => lift (f x y h2)
def KA (r : Rz (List MV)) (f : List MV → MH → OV) : Rz MV := r.bnd fun xs h => lift (f xs h)
def KC (r : Rz MV) (t : MEs) (s : Lo) : Rz (List MV) := r.bnd fun x h1 => (t s h1).bnd fun xs h2 => .ok (x :: xs) h2
def KC2 (r : Rz (List MV)) (x : MV) : Rz (List MV) := r.bnd fun xs h2 => .ok (x :: xs) h2
def KM (r : Rz MV) (g : MV → MH → Bool) (f : MV → List MV → MH → OV) (as : MEs) (s : Lo) : Rz MV := r.bnd fun x h1 => if g x h1 = true then (as s h1).bnd fun xs h2 => lift (f x xs h2) else .no
def KM2 (r : Rz (List MV)) (f : MV → List MV → MH → OV) (x : MV) : Rz MV := r.bnd fun xs h2 => lift (f x xs h2)
def KCl (r : Rz (List MV)) (n : Nat) (f : MF) : Rz MV := r.bnd fun xs h1 => if xs.length = n then f xs h1 else .no
def KBB (r : Rz MV) : Rz Bool := r.bnd fun x h1 => match asB x with
  | some b => .ok b h1
  | none => .no
def KBT (r : Rz MV) : Rz Bool := r.bnd fun x h1 => match tru h1 x with
  | some b => .ok b h1
  | none => .no
def KIf (r : Rz Bool) (a b : ME) (s : Lo) : Rz MV := r.bnd fun k h1 => if k = true then a s h1 else b s h1
def KAn (r : Rz Bool) (b : MB) (s : Lo) : Rz Bool := r.bnd fun k h1 => if k = true then b s h1 else .ok false h1
def KOr (r : Rz Bool) (b : MB) (s : Lo) : Rz Bool := r.bnd fun k h1 => if k = true then .ok true h1 else b s h1
def KNo (r : Rz Bool) : Rz Bool := r.bnd fun k h1 => .ok (!k) h1
def KEA (r : Rz MV) (b : ME) (s : Lo) : Rz MV := r.bnd fun x h1 => match asB x with
  | some k => if k = true then b s h1 else .ok (.bl false) h1
  | none => .no
def KEO (r : Rz MV) (b : ME) (s : Lo) : Rz MV := r.bnd fun x h1 => match asB x with
  | some k => if k = true then .ok (.bl true) h1 else b s h1
  | none => .no
def KEN (r : Rz MV) : Rz MV := r.bnd fun x h1 => match asB x with
  | some k => .ok (.bl (!k)) h1
  | none => .no
@[simp] theorem eC_ev : eC v s h = .ok v h := rfl
@[simp] theorem e2_ev {f a b} : e2 f a b s h = K2 (a s h) f b s := rfl
@[simp] theorem K2_ok {f b} : K2 (.ok x h) f b s = K3 (b s h) f x := rfl
@[simp] theorem K2_err {f b} : K2 (.err e h) f b s = .err e h := rfl
@[simp] theorem K3_ok {f} : K3 (.ok y h) f x = lift (f x y h) := rfl
@[simp] theorem K3_err {f} : K3 (.err e h) f x = .err e h := rfl
@[simp] theorem lift_some : lift (some (v, h)) = .ok v h := rfl
@[simp] theorem eA_ev {f as} : eA f as s h = KA (as s h) f := rfl
@[simp] theorem KA_ok {f xs} : KA (.ok xs h) f = lift (f xs h) := rfl
@[simp] theorem KA_err {f} : KA (.err e h) f = .err e h := rfl
@[simp] theorem aNil_ev : aNil s h = .ok [] h := rfl
@[simp] theorem aCons_ev {a r} : aCons a r s h = KC (a s h) r s := rfl
@[simp] theorem KC_ok {t} : KC (.ok x h) t s = KC2 (t s h) x := rfl
@[simp] theorem KC_err {t} : KC (.err e h) t s = .err e h := rfl
@[simp] theorem KC2_ok {xs} : KC2 (.ok xs h) x = .ok (x :: xs) h := rfl
@[simp] theorem KC2_err : KC2 (.err e h) x = .err e h := rfl
@[simp] theorem eMt_ev {g f a as} : eMt g f a as s h = KM (a s h) g f as s := rfl
@[simp] theorem KM_ok {g f as} : KM (.ok x h) g f as s = if g x h = true then KM2 (as s h) f x else .no := rfl
@[simp] theorem KM2_ok {f xs} : KM2 (.ok xs h) f x = lift (f x xs h) := rfl
@[simp] theorem call_ev {n f ms} : call n f ms s h = KCl (ms s h) n f := rfl
@[simp] theorem KCl_ok {n f xs} : KCl (.ok xs h) n f = if xs.length = n then f xs h else .no := rfl
@[simp] theorem KCl_err {n f} : KCl (.err e h) n f = .err e h := rfl
@[simp] theorem bB_ev {a} : bB a s h = KBB (a s h) := rfl
@[simp] theorem KBB_ok {b} : KBB (.ok (.bl b) h) = .ok b h := rfl
@[simp] theorem KBB_err : KBB (.err e h) = .err e h := rfl
@[simp] theorem bT_ev {a} : bT a s h = KBT (a s h) := rfl
@[simp] theorem KBT_bl {b} : KBT (.ok (.bl b) h) = .ok b h := rfl
@[simp] theorem KBT_non : KBT (.ok .non h) = .ok false h := rfl
@[simp] theorem KBT_err : KBT (.err e h) = .err e h := rfl
@[simp] theorem eIf_ev {c a b} : eIf c a b s h = KIf (c s h) a b s := rfl
@[simp] theorem KIf_ok {k a b} : KIf (.ok k h) a b s = if k = true then a s h else b s h := rfl
@[simp] theorem bAnd_ev {a b} : bAnd a b s h = KAn (a s h) b s := rfl
@[simp] theorem KAn_ok {k b} : KAn (.ok k h) b s = if k = true then b s h else .ok false h := rfl
@[simp] theorem bOr_ev {a b} : bOr a b s h = KOr (a s h) b s := rfl
@[simp] theorem KOr_ok {k b} : KOr (.ok k h) b s = if k = true then .ok true h else b s h := rfl
@[simp] theorem bNot_ev {a} : bNot a s h = KNo (a s h) := rfl
@[simp] theorem KNo_ok {k} : KNo (.ok k h) = .ok (!k) h := rfl
@[simp] theorem eAnd_ev {a b} : eAnd a b s h = KEA (a s h) b s := rfl
@[simp] theorem KEA_ok {k b} : KEA (.ok (.bl k) h) b s = if k = true then b s h else .ok (.bl false) h := rfl
@[simp] theorem eOr_ev {a b} : eOr a b s h = KEO (a s h) b s := rfl
@[simp] theorem KEO_ok {k b} : KEO (.ok (.bl k) h) b s = if k = true then .ok (.bl true) h else b s h := rfl
@[simp] theorem eNot_ev {a} : eNot a s h = KEN (a s h) := rfl
@[simp] theorem KEN_ok {k} : KEN (.ok (.bl k) h) = .ok (.bl (!k)) h := rfl
def SR.nxt (r : SR) (b : MS) : SR := match r with
  | .nx s1 h1 => b s1 h1
  | r => r
def KSet (r : Rz MV) (s : Lo) (i : Nat) : SR := r.bnS s fun v h1 => .nx (s.set i (some v)) h1
def KAsg (r : Rz MV) (s : Lo) (g : MG) : SR := r.bnS s fun v h1 => match g v s with
  | some s1 => .nx s1 h1
  | none => .no
def KExp (r : Rz MV) (s : Lo) : SR := r.bnS s fun _ h1 => .nx s h1
def KRet (r : Rz MV) (s : Lo) : SR := r.bnS s fun v h1 => .rt v h1
def KSIf (r : Rz Bool) (s : Lo) (a b : MS) : SR := r.bnS s fun k h1 => if k = true then a s h1 else b s h1
@[simp] theorem sNx_ev : sNx s h = .nx s h := rfl
@[simp] theorem sSeq_ev {a b} : sSeq a b s h = (a s h).nxt b := by unfold sSeq SR.nxt; cases a s h <;> rfl
@[simp] theorem nxt_nx {b} : (SR.nx s h).nxt b = b s h := rfl
@[simp] theorem nxt_rt {b} : (SR.rt v h).nxt b = .rt v h := rfl
@[simp] theorem nxt_bk {b} : (SR.bk s h).nxt b = .bk s h := rfl
@[simp] theorem nxt_ct {b} : (SR.ct s h).nxt b = .ct s h := rfl
@[simp] theorem nxt_err {b} : (SR.err e s h).nxt b = .err e s h := rfl
@[simp] theorem sAsgN_ev {a i} : sAsg a (gN i) s h = KSet (a s h) s i := rfl
@[simp] theorem KSet_ok {i} : KSet (.ok v h) s i = .nx (s.set i (some v)) h := rfl
@[simp] theorem KSet_err {i} : KSet (.err e h) s i = .err e s h := rfl
@[simp] theorem sAsgT_ev {a is} : sAsg a (gT is) s h = KAsg (a s h) s (gT is) := rfl
@[simp] theorem KAsgT_tup {xs is} : KAsg (.ok (.tup xs) h) s (gT is) = match setAll is xs s with
  | some s1 => .nx s1 h
  | none => .no := rfl
@[simp] theorem KAsgT_ktp {xs is} : KAsg (.ok (.ktp xs) h) s (gT is) = match setAll is xs s with
  | some s1 => .nx s1 h
  | none => .no := rfl
@[simp] theorem sExp_ev {a} : sExp a s h = KExp (a s h) s := rfl
@[simp] theorem KExp_ok : KExp (.ok v h) s = .nx s h := rfl
@[simp] theorem KExp_err : KExp (.err e h) s = .err e s h := rfl
@[simp] theorem sRet_ev {a} : sRet a s h = KRet (a s h) s := rfl
@[simp] theorem KRet_ok : KRet (.ok v h) s = .rt v h := rfl
@[simp] theorem KRet_err : KRet (.err e h) s = .err e s h := rfl
@[simp] theorem sRetN_ev : sRetN s h = .rt .non h := rfl
@[simp] theorem sIf_ev {c a b} : sIf c a b s h = KSIf (c s h) s a b := rfl
@[simp] theorem KSIf_ok {k a b} : KSIf (.ok k h) s a b = if k = true then a s h else b s h := rfl
@[simp] theorem KSIf_err {a b} : KSIf (.err e h) s a b = .err e s h := rfl
@[simp] theorem sBrk_ev : sBrk s h = .bk s h := rfl
@[simp] theorem sCnt_ev : sCnt s h = .ct s h := rfl
def KF (o : Option (Option MV)) (get : Itm) (g : MG) (b : MS) (n i : Nat) (s : Lo) (h : MH) : SR := match o with
  | none => .no
  | some none => .nx s h
  | some (some x) => match g x s with
    | none => .no
    | some s1 => match b s1 h with
      | .nx s2 h2 => forG get g b n (i + 1) s2 h2
      | .ct s2 h2 => forG get g b n (i + 1) s2 h2
      | .bk s2 h2 => .nx s2 h2
      | r => r
def KFB (r : SR) (get : Itm) (g : MG) (b : MS) (n i : Nat) : SR := match r with
  | .nx s2 h2 => forG get g b n (i + 1) s2 h2
  | .ct s2 h2 => forG get g b n (i + 1) s2 h2
  | .bk s2 h2 => .nx s2 h2
  | r => r
theorem forG_ev {get g b n i} : forG get g b (n + 1) i s h = KF (get i h) get g b n i s h := rfl
@[simp] theorem KF_stop {get g b n i} : KF (some none) get g b n i s h = .nx s h := rfl
@[simp] theorem KF_go {get j b n i} : KF (some (some x)) get (gN j) b n i s h = KFB (b (s.set j (some x)) h) get (gN j) b n i := by
  show (match b (s.set j (some x)) h with
      | .nx s2 h2 => forG get (gN j) b n (i + 1) s2 h2
      | .ct s2 h2 => forG get (gN j) b n (i + 1) s2 h2
      | .bk s2 h2 => .nx s2 h2
      | r => r) = _
  unfold KFB
  cases b (s.set j (some x)) h <;> rfl
@[simp] theorem KFB_nx {get g b n i} : KFB (.nx s h) get g b n i = forG get g b n (i + 1) s h := rfl
@[simp] theorem KFB_ct {get g b n i} : KFB (.ct s h) get g b n i = forG get g b n (i + 1) s h := rfl
@[simp] theorem KFB_bk {get g b n i} : KFB (.bk s h) get g b n i = .nx s h := rfl
@[simp] theorem KFB_rt {get g b n i} : KFB (.rt v h) get g b n i = .rt v h := rfl
@[simp] theorem KFB_err {get g b n i} : KFB (.err e s h) get g b n i = .err e s h := rfl
def KFR (r : Rz (List MV)) (rg : List MV → Option (Int × Nat)) (g : MG) (b : MS) (s : Lo) : SR := r.bnS s fun xs h1 => match rg xs with
  | some (lo, n) => forG (getR lo n) g b (n + 1) 0 s h1
  | none => .no
@[simp] theorem sForR_ev {rg as g b} : sForR rg as g b s h = KFR (as s h) rg g b s := rfl
theorem KFR_ok {rg g b xs lo n} (e : rg xs = some (lo, n)) : KFR (.ok xs h) rg g b s = forG (getR lo n) g b (n + 1) 0 s h := by
  show (match rg xs with
  | some (lo, n) => forG (getR lo n) g b (n + 1) 0 s h
  | none => .no) = _
  rw [e]
theorem KFR_1 {g b j} : KFR (.ok [.int j] h) rng1 g b s = if -(2 ^ 62) ≤ j ∧ j < 2 ^ 62 then forG (getR 0 j.toNat) g b (j.toNat + 1) 0 s h else .no := by
  unfold KFR rng1 Rz.bnS
  by_cases c : -(2 ^ 62) ≤ j ∧ j < 2 ^ 62
  · simp only [if_pos c]
  · simp only [if_neg c]
@[simp] theorem getR_ev {lo : Int} {n i : Nat} : getR lo n i h = some (if i < n then some (.int (lo + i)) else none) := rfl
@[simp] theorem getL_ev {xs : List MV} {i : Nat} : getL xs i h = some xs[i]? := rfl
def KD (r : SR) : Rz MV := match r with
  | .nx _ h1 => .ok .non h1
  | .rt v h1 => .ok v h1
  | .err e _ h1 => .err e h1
  | _ => .no
theorem mDef_ev {n b xs} : mDef n b xs h = KD (b (xs.map some ++ List.replicate (n - xs.length) none) h) := by unfold mDef KD; rfl
@[simp] theorem KD_nx : KD (.nx s h) = .ok .non h := rfl
@[simp] theorem KD_rt : KD (.rt v h) = .ok v h := rfl
@[simp] theorem KD_err : KD (.err e s h) = .err e h := rfl
@[simp] theorem fAdd_int {i j} : fAdd (.int i) (.int j) h = some (.int (i + j), h) := rfl
@[simp] theorem fSub_int {i j} : fSub (.int i) (.int j) h = some (.int (i - j), h) := rfl
@[simp] theorem fCmp_int {p i j} : fCmp p (.int i) (.int j) h = some (.bl (p i j), h) := rfl
@[simp] theorem fInt_int {i} : fInt [.int i] h = some (.int i, h) := rfl
@[simp] theorem fAbs_int {i} : fAbs [.int i] h = some (.int (if i < 0 then -i else i), h) := rfl
@[simp] theorem fLen_frl {ys} : fLen [.frl ys] h = some (.int ys.length, h) := rfl
@[simp] theorem fLen_tup {ys} : fLen [.tup ys] h = some (.int ys.length, h) := rfl
@[simp] theorem fLen_ktp {ys} : fLen [.ktp ys] h = some (.int ys.length, h) := rfl
theorem fMod_int {i j : Int} (hj : 0 < j) : fMod (.int i) (.int j) h = some (.int (i % j), h) := by simp [fMod, hj]
@[simp] theorem fMod_lit {i : Int} {n : Nat} [NeZero n] : fMod (.int i) (.int (no_index (OfNat.ofNat n))) h = some (.int (i % (OfNat.ofNat n)), h) := fMod_int (by
  have : n ≠ 0 := NeZero.ne n
  show (0 : Int) < ((n : Nat) : Int)
  omega)
@[simp] theorem ob_some {b} : ob (some b) h = some (.bl b, h) := rfl
@[simp] theorem mEq_ss {n a b} : mEq n h (.str a) (.str b) = some (a == b) := by cases n <;> rfl
@[simp] theorem mEq_ii {n a b} : mEq n h (.int a) (.int b) = some (a == b) := by cases n <;> rfl
@[simp] theorem mEq_bb {n a b} : mEq n h (.bl a) (.bl b) = some (a == b) := by cases n <;> rfl
@[simp] theorem mEq_nn {n} : mEq n h .non .non = some true := by cases n <;> rfl
@[simp] theorem mEq_ns {n a} : mEq n h .non (.str a) = some false := by cases n <;> rfl
@[simp] theorem mEq_sn {n a} : mEq n h (.str a) .non = some false := by cases n <;> rfl
@[simp] theorem mEq_ni {n a} : mEq n h .non (.int a) = some false := by cases n <;> rfl
@[simp] theorem mEq_in {n a} : mEq n h (.int a) .non = some false := by cases n <;> rfl
@[simp] theorem mEq_is {n a b} : mEq n h (.int a) (.str b) = some false := by cases n <;> rfl
@[simp] theorem mEq_si {n a b} : mEq n h (.str a) (.int b) = some false := by cases n <;> rfl
@[simp] theorem mEq_tt {n xs ys} : mEq (n + 1) h (.tup xs) (.tup ys) = eqs (mEq n h) xs ys := rfl
@[simp] theorem mEq_kt {n xs ys} : mEq (n + 1) h (.ktp xs) (.tup ys) = eqs (mEq n h) xs ys := rfl
@[simp] theorem mEq_tk {n xs ys} : mEq (n + 1) h (.tup xs) (.ktp ys) = eqs (mEq n h) xs ys := rfl
@[simp] theorem mRc_ss {a b} : mRc h (.str a) (.str b) = some (a == b) := rfl
@[simp] theorem mRc_ii {a b} : mRc h (.int a) (.int b) = some (a == b) := rfl
@[simp] theorem mRc_bb {a b} : mRc h (.bl a) (.bl b) = some (a == b) := rfl
@[simp] theorem mRc_nn : mRc h .non .non = some true := rfl
@[simp] theorem mRc_ns {a} : mRc h .non (.str a) = some false := rfl
@[simp] theorem mRc_sn {a} : mRc h (.str a) .non = some false := rfl
@[simp] theorem mRc_tt {xs ys} : mRc h (.tup xs) (.tup ys) = eqs (mEq 7 h) xs ys := rfl
@[simp] theorem mRc_kt {xs ys} : mRc h (.ktp xs) (.tup ys) = eqs (mEq 7 h) xs ys := rfl
@[simp] theorem mRc_tk {xs ys} : mRc h (.tup xs) (.ktp ys) = eqs (mEq 7 h) xs ys := rfl
def KQ (o r : Option Bool) : Option Bool := match o, r with
  | some a, some b => some (a && b)
  | _, _ => none
@[simp] theorem eqs_nil {f} : eqs f [] [] = some true := rfl
@[simp] theorem eqs_cons {f ys} {xs : List MV} : eqs f (x :: xs) (y :: ys) = KQ (f x y) (eqs f xs ys) := rfl
@[simp] theorem eqs_nc {f ys} : eqs f [] (y :: ys) = some false := rfl
@[simp] theorem eqs_cn {f} {xs : List MV} : eqs f (x :: xs) [] = some false := rfl
@[simp] theorem KQ_some {a b} : KQ (some a) (some b) = some (a && b) := rfl
def KI (o r : Option Bool) : Option Bool := match o, r with
  | some a, some b => some (a || b)
  | _, _ => none
def inL (f : MV → Option Bool) (ys : List MV) : Option Bool := (insM f ys).map fun bs => bs.any id
@[simp] theorem KI_some {a b} : KI (some a) (some b) = some (a || b) := rfl
@[simp] theorem inL_nil {f} : inL f [] = some false := rfl
@[simp] theorem inL_cons {f ys} : inL f (y :: ys) = KI (f y) (inL f ys) := by
  unfold inL KI
  simp only [insM]
  cases f y <;> cases insM f ys <;> simp
@[simp] theorem fEq_ev : fEq x y h = ob (mRc h x y) h := rfl
@[simp] theorem fNe_ev : fNe x y h = ob ((mRc h x y).map not) h := rfl
@[simp] theorem fIn_ktp {ys} : fIn x (.ktp ys) h = ob (inL (fun y => mEq 7 h y x) ys) h := rfl
@[simp] theorem fIn_tup {ys} : fIn x (.tup ys) h = ob (inL (fun y => mEq 7 h y x) ys) h := rfl
theorem fIn_ref {i ys} (e : h[i]? = some (.lst ys)) : fIn x (.ref i) h = ob (inL (fun y => mEq 7 h y x) ys) h := by
  simp [fIn, mIn, seqOf, e, inL]
@[simp] theorem fNotIn_ktp {ys} : fNotIn x (.ktp ys) h = ob ((inL (fun y => mEq 7 h y x) ys).map not) h := rfl
@[simp] theorem fNotIn_tup {ys} : fNotIn x (.tup ys) h = ob ((inL (fun y => mEq 7 h y x) ys).map not) h := rfl
theorem fNotIn_ref {i ys} (e : h[i]? = some (.lst ys)) : fNotIn x (.ref i) h = ob ((inL (fun y => mEq 7 h y x) ys).map not) h := by
  simp [fNotIn, mIn, seqOf, e, inL]
@[simp] theorem fIsN_non : fIsN .non .non h = some (.bl true, h) := rfl
@[simp] theorem fIsN_str {a} : fIsN (.str a) .non h = some (.bl false, h) := rfl
@[simp] theorem fIsN_tup {a} : fIsN (.tup a) .non h = some (.bl false, h) := rfl
@[simp] theorem fIsN_ref {a} : fIsN (.ref a) .non h = some (.bl false, h) := rfl
@[simp] theorem fIsN_glo {a} : fIsN (.glo a) .non h = some (.bl false, h) := rfl
@[simp] theorem fNotN_glo {a} : fNotN (.glo a) .non h = some (.bl true, h) := rfl
@[simp] theorem fIsN_int {a} : fIsN (.int a) .non h = some (.bl false, h) := rfl
@[simp] theorem fNotN_non : fNotN .non .non h = some (.bl false, h) := rfl
@[simp] theorem fNotN_str {a} : fNotN (.str a) .non h = some (.bl true, h) := rfl
@[simp] theorem fNotN_tup {a} : fNotN (.tup a) .non h = some (.bl true, h) := rfl
@[simp] theorem fNotN_ref {a} : fNotN (.ref a) .non h = some (.bl true, h) := rfl
@[simp] theorem fNotN_int {a} : fNotN (.int a) .non h = some (.bl true, h) := rfl
theorem atI_ofNat {α : Type} {xs : List α} {n : Nat} : atI xs (n : Int) = xs[n]? := by
  unfold atI ixN
  by_cases hn : n < xs.length
  · rw [if_pos (by omega), if_pos (by omega)]; simp
  · rw [if_pos (by omega), if_neg (by omega), List.getElem?_eq_none (by omega)]; rfl
@[simp] theorem atI_lit {α : Type} {xs : List α} {n : Nat} : atI xs (no_index (OfNat.ofNat n : Int)) = xs[(OfNat.ofNat n : Nat)]? := atI_ofNat
@[simp] theorem atI_0 {α : Type} {xs : List α} : atI xs (0 : Int) = xs[0]? := atI_ofNat (n := 0)
@[simp] theorem atI_1 {α : Type} {xs : List α} : atI xs (1 : Int) = xs[1]? := atI_ofNat (n := 1)
def KX (o : Option MV) (h : MH) : OV := o.map fun v => (v, h)
@[simp] theorem KX_some : KX (some v) h = some (v, h) := rfl
@[simp] theorem fIx_frl {xs i} : fIx (.frl xs) (.int i) h = KX (atI xs i) h := rfl
@[simp] theorem fIx_tup {xs i} : fIx (.tup xs) (.int i) h = KX (atI xs i) h := rfl
@[simp] theorem fIx_ktp {xs i} : fIx (.ktp xs) (.int i) h = KX (atI xs i) h := rfl
theorem fIx_ref {xs j i} (e : h[j]? = some (.lst xs)) : fIx (.ref j) (.int i) h = KX (atI xs i) h := by
  simp [fIx, seqOf, e, KX]
@[simp] theorem fLst_0 : fLst [] h = some (.ref h.length, h ++ [.lst []]) := rfl
@[simp] theorem fLst_c {xs} : fLst (x :: xs) h = if (x :: xs).length ≤ SZ then some (.ref h.length, h ++ [.lst (x :: xs)]) else none := rfl
@[simp] theorem fTup_c {xs} : fTup (x :: xs) h = if (x :: xs).length ≤ SZ then some (.tup (x :: xs), h) else none := rfl
theorem isL_ref {i ys} (e : h[i]? = some (.lst ys)) : isL (.ref i) h = true := by simp [isL, e]
theorem fAppend_ref {i ys} (e : h[i]? = some (.lst ys)) (hl : ys.length < SZ) : fAppend (.ref i) [y] h = some (.non, h.set i (.lst (ys ++ [y]))) := by
  simp [fAppend, lstOp, oAppend, e, hl]
theorem at_app {α : Type} {h l : List α} {k : Nat} : (h ++ l)[h.length + k]? = l[k]? := by
  rw [List.getElem?_append_right (by omega)]; congr 1; omega
theorem at_app0 {α : Type} {h l : List α} : (h ++ l)[h.length]? = l[0]? := by simpa using at_app (h := h) (l := l) (k := 0)
theorem set_app {α : Type} {h l : List α} {k : Nat} {o : α} : (h ++ l).set (h.length + k) o = h ++ l.set k o := by
  rw [List.set_append_right _ _ (by omega)]; congr 2; omega
theorem set_app0 {α : Type} {h l : List α} {o : α} : (h ++ l).set h.length o = h ++ l.set 0 o := by simpa using set_app (h := h) (l := l) (k := 0) (o := o)
end
end Mo
namespace Mo
open PySem L2
def spLaw (K : PySem.W.Frag) : Sp := fun vs H Q _ => ∃ (a : Addr) (ns : List Int), vs = [.ref a] ∧ Only H ∧ SqL K H a (ns.map V.int) ∧ ns.length ≤ 63 ∧ ∀ v H', v = .bl true → Q v H'
theorem spLaw_of {K : PySem.W.Frag} {G : String → Option V} {f : MF} (h : ∀ ns : List Int, ns.length ≤ 63 → ∃ h1, f [.frl (ns.map MV.int)] [] = .ok (.bl true) h1) (vs : List V) (H : Hp) (Q : VK) (E : XK) (q : spLaw K vs H Q E) : SpM K G 1 f vs H Q E := by
  obtain ⟨a, ns, rfl, hO, hS, hl, k⟩ := q
  obtain ⟨ρ, xs, mh, h1, h2, h3, h4⟩ := law_sp (G := G) (f := f) hO hS (h ns hl)
  refine ⟨ρ, xs, mh, h1, h2, h3, ?_⟩
  cases e : f xs mh with
  | ok v m => rw [e] at h4; exact fun ρ1 H1 x hr v1 rv => k v1 H1 (h4 ρ1 H1 x hr v1 rv)
  | err v m => rw [e] at h4; exact fun ρ1 H1 c d x hr er => (h4 ρ1 H1 c d x hr er).elim
  | no => rw [e] at h4; exact h4
theorem no_out {P : Program} {w : World} {H : Hp} {s : Shared} {e : Value} {s' : Shared} (h : L2.CX P w [] H s (fun _ _ _ => False) e s') : False := by
  obtain ⟨_, _, _, _, _, _, _, _, _, _, _, _, z⟩ := h
  exact z
def tyNames : List String := ["NoneType", "bool", "int", "str", "bytes", "tuple", "list", "dict"]
theorem tabB_all : (tyNames.all fun a => tyNames.all fun b => match tabB a b with
    | some r => kitB a b == some r
    | none => true) = true := by decide +kernel
theorem tabB_dom {a b : String} {r : Bool} (h : tabB a b = some r) : a = b ∨ (a ∈ tyNames ∧ b ∈ tyNames) := by
  unfold tabB at h
  split at h
  · exact .inl (by assumption)
  · split at h
    · rename_i q
      exact .inr (by rw [q.1, q.2]; decide)
    · split at h
      · rename_i q
        refine .inr ⟨?_, ?_⟩
        · exact List.contains_iff_mem.mp q.1
        · have := List.contains_iff_mem.mp q.2
          exact List.mem_cons_of_mem _ this
      · cases h
theorem tabB_ok {K : PySem.W.Frag} {a b : String} {r : Bool} (h : tabB a b = some r) : PySem.W.kitOne K (.type a) (.type b) = some r := by
  rcases tabB_dom h with e | ⟨ha, hb⟩
  · subst e
    have : r = true := by
      unfold tabB at h
      rw [if_pos rfl] at h
      exact (Option.some.inj h).symm
    subst this
    unfold PySem.W.kitOne
    rw [if_pos (by simp)]
  · have h1 := List.all_eq_true.mp tabB_all a ha
    have h2 := List.all_eq_true.mp h1 b hb
    rw [h] at h2
    exact kit_ty (beq_iff_eq.mp h2)
def ownOf (tab : OTab) : Own := fun t c => (tab.find? fun e => decide (e.1 = t ∧ e.2.1 = c)).map (·.2.2)
def gOf (K : PySem.W.Frag) : String → Option V := fun s => some (.ref (He.ga K (Str.ofString s)))
theorem ownOf_mem {tab : OTab} {t c : Bool × String} {b : Bool} (h : ownOf tab t c = some b) : (t, c, b) ∈ tab := by
  unfold ownOf at h
  cases e : tab.find? (fun e => decide (e.1 = t ∧ e.2.1 = c)) with
  | none => rw [e] at h; cases h
  | some q =>
    rw [e] at h
    have h1 := List.find?_some e
    have h2 := List.mem_of_find?_eq_some e
    simp only [decide_eq_true_eq] at h1
    obtain ⟨rfl, rfl⟩ := h1
    cases h
    exact h2
theorem isi_tab {K : PySem.W.Frag} {tab : OTab} (h : isiB K tab = true) : IsiOk K (gOf K) (ownOf tab) := by
  have hk : ∀ t c b, ownOf tab t c = some b → PySem.W.kitOne K (valT K t) (valT K c) = some b := fun t c b e => by
    have := List.all_eq_true.mp h _ (ownOf_mem e)
    simp only [Bool.and_eq_true, decide_eq_true_eq] at this
    exact this.1
  refine ⟨fun s v h => ⟨_, (Option.some.inj h).symm⟩, fun t c b tv cv e ht hc => ?_, fun s C c b hs e => ?_⟩
  · cases t with
    | ty a =>
      simp only [clsV, Option.some.injEq] at ht
      subst ht
      cases c with
      | ty n =>
        simp only [clsV, Option.some.injEq] at hc
        subst hc
        exact tabB_ok e
      | glo n =>
        simp only [clsV, gOf, Option.some.injEq] at hc
        subst hc
        exact hk (false, a) (true, n) b e
      | _ => simp [isiM] at e
    | glo a =>
      simp only [clsV, gOf, Option.some.injEq] at ht
      subst ht
      cases c with
      | ty n =>
        simp only [clsV, Option.some.injEq] at hc
        subst hc
        exact hk (true, a) (false, n) b e
      | glo n =>
        simp only [clsV, gOf, Option.some.injEq] at hc
        subst hc
        exact hk (true, a) (true, n) b e
      | _ => simp [isiM] at e
    | _ => cases c <;> simp [isiM] at e
  · have he : ∃ c', ownOf tab (true, s) c' = some b := by
      cases c with
      | ty n => exact ⟨_, e⟩
      | glo n => exact ⟨_, e⟩
      | _ => simp [isiM] at e
    obtain ⟨c', e'⟩ := he
    have := List.all_eq_true.mp h _ (ownOf_mem e')
    simp only [gOf, Option.some.injEq, V.ref.injEq] at hs
    subst hs
    simp only [Bool.and_eq_true, decide_eq_true_eq, Bool.not_true, Bool.false_or] at this
    obtain ⟨_, a1, a2, ⟨⟨⟨⟨a3, a4⟩, a5⟩, a6⟩, a7⟩, a8⟩ := this
    exact ⟨⟨a1, a2, a3, He.eqO_ok a4⟩, He.eqO_ok a5, He.eqO_ok a6, a7, a8⟩
theorem tup_kt {K : PySem.W.Frag} {x : Str} {vs : List He.Dv} (h : tupBD K x vs = true) : KtT K (He.ga K x) (vs.map (He.Dv.v K)) := by
  obtain ⟨h1, h2⟩ := He.ba h
  refine ⟨?_, ?_⟩
  · rcases He.tupB_ok h1 (fun _ => none) with q | q
    · rcases q with q | ⟨o, q⟩ <;> cases q
    · exact q
  · unfold tupD at h2
    split at h2
    · rename_i o e
      obtain ⟨h3, h4⟩ := He.ba h2
      exact ⟨o, e, of_decide_eq_true h3, by simpa using h4⟩
    · cases h2
end Mo
namespace Mo
open PySem L2
def putFM (f : Str) (v : MV) : List (Str × MV) → List (Str × MV)
  | [] => [(f, v)]
  | (g, x) :: r => if g = f then (g, v) :: r else (g, x) :: putFM f v r
section
variable {K : PySem.W.Frag} {G : String → Option V} {ρ : List Addr} {H : Hp} {mh : MH}
theorem lookupF_V {f : Str} : ∀ {xs : List (Str × MV)} {vs : List (Str × V)}, FRs K G ρ H xs vs →
    (∀ x, xs.lookup f = some x → ∃ v, vs.lookup f = some v ∧ VR K G ρ H x v) ∧ (xs.lookup f = none → vs.lookup f = none)
  | [], _, h => by simp only [FRs, KRs] at h; subst h; exact ⟨fun x e => by simp at e, fun _ => rfl⟩
  | x :: xs, _, h => by
    simp only [FRs, KRs] at h
    obtain ⟨v, r, rfl, q, t⟩ := h
    obtain ⟨i1, i2⟩ := lookupF_V (f := f) t
    obtain ⟨g, y⟩ := x
    cases e : f == g with
    | true =>
      simp only [List.lookup, id, e]
      exact ⟨fun z h => by cases h; exact ⟨v, rfl, q⟩, fun h => by cases h⟩
    | false =>
      simp only [List.lookup, id, e]
      exact ⟨i1, i2⟩
theorem putF_V {f : Str} {y : MV} {w : V} (hy : VR K G ρ H y w) : ∀ {xs : List (Str × MV)} {vs : List (Str × V)}, FRs K G ρ H xs vs → FRs K G ρ H (putFM f y xs) (putF f w vs)
  | [], _, h => by simp only [FRs, KRs] at h; subst h; exact ⟨w, [], rfl, hy, rfl⟩
  | (g, x) :: xs, _, h => by
    simp only [FRs, KRs] at h
    obtain ⟨v, r, rfl, q, t⟩ := h
    by_cases e : g = f
    · subst e
      simp only [putFM, putF, id, if_true]
      exact ⟨w, r, rfl, hy, t⟩
    · simp only [putFM, putF, id, if_neg e]
      exact ⟨v, _, rfl, q, putF_V hy t⟩
theorem HR.ins (hr : HR K G ρ H mh) {i : Nat} {c : String} {fs : List (Str × MV)} {v : V} (e : mh[i]? = some (.ins c fs)) (r : VR K G ρ H (.ref i) v) :
    ∃ a C dx vs, v = .ref a ∧ ρ[i]? = some a ∧ G c = some (.ref C) ∧ H a = some (.ins C dx vs) ∧ FRs K G ρ H fs vs := by
  simp only [VR] at r
  obtain ⟨a, rfl, ha⟩ := r
  obtain ⟨C, dx, vs, h1, h2, h3⟩ := hr.get e ha
  exact ⟨a, C, dx, vs, rfl, ha, h1, h2, h3⟩
end
def FldOk (K : PySem.W.Frag) (G : String → Option V) (f : Str) (cs : List String) : Prop := ∀ c ∈ cs, ∀ C, G c = some (.ref C) → Cls K C ∧ NoAttr K C f
def fFld (f : Str) (cs : List String) (x : MV) (h : MH) : OV := match x with
  | .ref i => match h[i]? with
    | some (.ins c fs) => if c ∈ cs then (fs.lookup f).map fun v => (v, h) else none
    | _ => none
  | _ => none
def putI (f : Str) (cs : List String) (o v : MV) (h : MH) : Option MH := match o with
  | .ref i => match h[i]? with
    | some (.ins c fs) => if c ∈ cs ∧ fs.length < 1000 then some (h.set i (.ins c (putFM f v fs))) else none
    | _ => none
  | _ => none
def sFldM (o e : ME) (f : Str) (cs : List String) : MS := fun s h => (e s h).bnS s fun v h1 => (o s h1).bnS s fun x h2 => match putI f cs x v h2 with
  | some h3 => .nx s h3
  | none => .no
section
variable {X : Cx} {G : String → Option V} {W : WX} {o e value : Expr} {f : Str} {cs : List String} {pos pos' : Pos} {mo me : ME} {D : Ends}
theorem m_fld (hC : FldOk X.K G f cs) (he : PE X e (RE X.K G W me)) (hb : attributeBase e f X.env (eval e X.env) = eval e X.env := by rfl) : PE X (.Attribute e f pos) (RE X.K G W (e1 (fFld f cs) me)) := by
  refine pe_imp (pe_fld he hb) fun σ H Q ⟨ρ, sm, mh, r0, q⟩ => ?_
  refine re_bnd r0 q fun x ρ1 H1 mh1 v x1 r1 rv q1 => ?_
  obtain ⟨z, h1, e1, k⟩ := ro_lift q1
  unfold fFld at e1
  split at e1
  · split at e1
    · rename_i c fs q2
      split at e1
      · rename_i hc
        obtain ⟨a, C, dx, vs, rfl, ha, g1, g2, g3⟩ := r1.hr.ins q2 rv
        obtain ⟨c1, c2⟩ := hC c hc C g1
        cases h : fs.lookup f with
        | none => rw [h] at e1; cases e1
        | some y =>
          rw [h] at e1; cases e1
          obtain ⟨w, l1, l2⟩ := (lookupF_V g3).1 _ h
          exact ⟨a, C, dx, vs, w, rfl, g2, c1, c2, l1, k _ _ Ext.refl r1.hr _ l2⟩
      · cases e1
    · cases e1
  · cases e1
theorem m_sfld (hC : FldOk X.K G f cs) (ho : PE X o (RE X.K G W mo)) (hv : PE X value (RE X.K G W me)) (hs : swapsWith value (some (.Attribute o f pos')) pos.line X.env = pure false := by rfl) : PS X (.Assign [.Attribute o f pos'] value pos) (RS X.K G W (sFldM mo me f cs)) := by
  refine ps_imp (ps_fld ho hv hs) fun D σ H ⟨ρ, sm, mh, r0, q⟩ => ?_
  refine res_bnd r0 q fun y ρ1 H1 mh1 w x1 r1 rw1 q1 => ?_
  refine res_bnd r1 q1 fun x ρ2 H2 mh2 v x2 r2 rv q2 => ?_
  have rw2 := rw1.ext x2
  unfold putI at q2
  split at q2
  · rename_i h3 e1
    split at e1
    · split at e1
      · rename_i c fs q3
        split at e1
        · rename_i hc
          cases e1
          obtain ⟨a, C, dx, vs, rfl, ha, g1, g2, g3⟩ := r2.hr.ins q3 rv
          obtain ⟨c1, c2⟩ := hC c hc.1 C g1
          have hx : Ext X.K ρ2 H2 ρ2 (upd H2 a (.ins C dx (putF f w vs))) := ext_write g2 (by simp [Plain])
          obtain ⟨a1, a2⟩ := r2.hr.write (u := .ins C dx (putF f w vs)) (o1 := .ins c (putFM f y fs)) q3 ha ⟨C, dx, _, g1, upd_same, (putF_V rw2 g3).ext hx⟩
          refine ⟨a, C, dx, vs, rfl, g2, c1, c2, by rw [← KRs.length g3]; exact hc.2, q2 _ _ _ a2 a1 (r2.sr.ext a2)⟩
        · cases e1
      · cases e1
    · cases e1
  · exact False.elim q2
end
end Mo
namespace Mo
open PySem L2
def pickL {α : Type} (pat : List (Nat × Nat)) (us mv ws : List α) : List α := pat.filterMap fun p => match p.1 with
  | 0 => us[p.2]?
  | 1 => mv[p.2]?
  | _ => ws[p.2]?
theorem Vals.none_of {xs : List V} {us : List Value} (r : Vals xs us) {i : Nat} (h : xs[i]? = none) : us[i]? = none := by
  rw [List.getElem?_eq_none_iff] at h ⊢
  rw [← r.length]; exact h
theorem Vals.pick {vs mz zs : List V} {us mv ws : List Value} (a : Vals vs us) (b : Vals mz mv) (c : Vals zs ws) : ∀ (pat : List (Nat × Nat)), Vals (pickL pat vs mz zs) (pickL pat us mv ws)
  | [] => .nil
  | (k, i) :: r => by
    have ih := Vals.pick a b c r
    unfold pickL at ih ⊢
    rw [List.filterMap_cons, List.filterMap_cons]
    have key : ∀ {xs : List V} {ys : List Value}, Vals xs ys → (xs[i]? = none ∧ ys[i]? = none) ∨ ∃ x y, xs[i]? = some x ∧ ys[i]? = some y ∧ RelV x y := fun {xs ys} q => by
      cases h : xs[i]? with
      | none => exact .inl ⟨rfl, Vals.none_of q h⟩
      | some x => obtain ⟨y, h1, h2⟩ := Vals.get q h; exact .inr ⟨x, y, rfl, h1, h2⟩
    match k with
    | 0 => rcases key a with ⟨h1, h2⟩ | ⟨x, y, h1, h2, h3⟩ <;> simp only [h1, h2] <;> first | exact ih | exact .cons h3 ih
    | 1 => rcases key b with ⟨h1, h2⟩ | ⟨x, y, h1, h2, h3⟩ <;> simp only [h1, h2] <;> first | exact ih | exact .cons h3 ih
    | n + 2 => rcases key c with ⟨h1, h2⟩ | ⟨x, y, h1, h2, h3⟩ <;> simp only [h1, h2] <;> first | exact ih | exact .cons h3 ih
section
variable {K : PySem.W.Frag} {G : String → Option V} {ρ : List Addr} {H : Hp}
theorem VRs.none_of {xs : List MV} {us : List V} (r : VRs K G ρ H xs us) {i : Nat} (h : xs[i]? = none) : us[i]? = none := by
  rw [List.getElem?_eq_none_iff] at h ⊢
  rw [← r.length]; exact h
theorem VRs.pick {vs mz zs : List MV} {us mv ws : List V} (a : VRs K G ρ H vs us) (b : VRs K G ρ H mz mv) (c : VRs K G ρ H zs ws) : ∀ (pat : List (Nat × Nat)), VRs K G ρ H (pickL pat vs mz zs) (pickL pat us mv ws)
  | [] => VRs.nil
  | (k, i) :: r => by
    have ih := VRs.pick a b c r
    unfold pickL at ih ⊢
    rw [List.filterMap_cons, List.filterMap_cons]
    have key : ∀ {xs : List MV} {ys : List V}, VRs K G ρ H xs ys → (xs[i]? = none ∧ ys[i]? = none) ∨ ∃ x y, xs[i]? = some x ∧ ys[i]? = some y ∧ VR K G ρ H x y := fun {xs ys} q => by
      cases h : xs[i]? with
      | none => exact .inl ⟨rfl, VRs.none_of q h⟩
      | some x => obtain ⟨y, h1, h2⟩ := VRs.get q h; exact .inr ⟨x, y, rfl, h1, h2⟩
    match k with
    | 0 => rcases key a with ⟨h1, h2⟩ | ⟨x, y, h1, h2, h3⟩ <;> simp only [h1, h2] <;> first | exact ih | exact VRs.cons h3 ih
    | 1 => rcases key b with ⟨h1, h2⟩ | ⟨x, y, h1, h2, h3⟩ <;> simp only [h1, h2] <;> first | exact ih | exact VRs.cons h3 ih
    | n + 2 => rcases key c with ⟨h1, h2⟩ | ⟨x, y, h1, h2, h3⟩ <;> simp only [h1, h2] <;> first | exact ih | exact VRs.cons h3 ih
end
structure GR (K : PySem.W.Frag) (G : String → Option V) (gM : List MV → List MV → List MV) (gV : List V → List V → List V) : Prop where
  rel : ∀ {ρ : List Addr} {H : Hp} {xs ys : List MV} {vs zs : List V}, VRs K G ρ H xs vs → VRs K G ρ H ys zs → VRs K G ρ H (gM xs ys) (gV vs zs)
def gPos : List MV → List MV → List MV := fun xs _ => xs
theorem GR.pos {K : PySem.W.Frag} {G : String → Option V} : GR K G gPos fun vs _ => vs := ⟨fun a _ => a⟩
def gPat (pat : List (Nat × Nat)) (ds : List MV) : List MV → List MV → List MV := fun xs ys => pickL pat xs ds ys
theorem GR.pat {K : PySem.W.Frag} {G : String → Option V} {pat : List (Nat × Nat)} {ds : List MV} {vs : List V} (h : ∀ ρ H, VRs K G ρ H ds vs) : GR K G (gPat pat ds) fun us ws => pickL pat us vs ws := ⟨fun a b => VRs.pick a (h _ _) b pat⟩
theorem KBn.pos {K : PySem.W.Frag} {fd : FuncData} {ps : List Str} {n : Nat} (h : Binds K fd ps []) (hn : ps.length = n) : KBn K fd ps n [] (fun us _ => us) fun vs _ => vs :=
  ⟨fun s us ws X l1 l2 => by
    have := h s us X (by rw [List.append_nil, l1, hn])
    rw [List.append_nil] at this
    exact this, fun a _ => a⟩
section
variable {X : Cx} {G : String → Option V} {W : WX} {e : Expr} {es : List Expr} {kws : List Keyword} {m : ME} {ms mk : MEs} {pos kpos : Pos} {nm : Option Str}
theorem pk_imp {t t' : TA} (h : PK X kws t) (i : ∀ σ H Q, t' σ H Q → t σ H Q) : PK X kws t' := ⟨fun pos pins s σ H Q I q => h.run pos pins s σ H Q I (i σ H Q q)⟩
theorem m_pknil : PK X [] (RA X.K G W aNil) := pk_imp pk_nil fun σ H Q ⟨ρ, sm, mh, r, q⟩ => RO.ok (P := PVs X.K G Q) q r.hr _ VRs.nil
theorem m_pkcons (ha : PE X e (RE X.K G W m)) (hr : PK X kws (RA X.K G W ms)) : PK X (⟨nm, e, kpos⟩ :: kws) (RA X.K G W (aCons m ms)) := by
  refine pk_imp (pk_cons ha hr) fun σ H Q ⟨ρ, sm, mh, r0, q⟩ => ?_
  refine re_bnd r0 q fun x ρ1 H1 mh1 v x1 r1 rv q1 => ?_
  exact ra_bnd r1 q1 fun xs ρ2 H2 mh2 vs x2 r2 rvs q2 => RO.ok (P := PVs X.K G Q) q2 r2.hr _ (VRs.cons (rv.ext x2) rvs)
end
def tMakeS (C : Addr) (n m : Nat) (sp : Sp) (gV : List V → List V → List V) (W : WX) (t tk : TA) : TE := fun σ H Q => t σ H fun vs H1 => tk σ H1 fun zs H2 => vs.length = n ∧ zs.length = m ∧ ∀ x dx, H2 x = none → H2 dx = none → dx ≠ x →
  sp (gV (.ref x :: vs) zs) (upd (upd H2 dx (.own x)) x (.ins C dx [])) (fun v H3 => v = .non ∧ Q (.ref x) H3) (WE W σ)
section
variable {X : Cx} {CX : CXT} {k n : Nat} {f C : Addr} {fd : FuncData} {ps ks : List Str} {sp : Sp} {W : WX} {x : Str} {p pos : Pos} {e : Expr} {es : List Expr} {kws : List Keyword} {t tk : TA} {g : List Value → List Value → List Value} {gV : List V → List V → List V}
theorem run_makeS {E : XK} {pins : List (Addr × Obj)} {σ : St} {H : Hp} {s : Shared} {Q : VK} {us ws : List Value} {vs zs : List V} (M : Mk X.K C f) (F : FnOk X.prog X.w X.K X.mg X.base CX k f fd ps sp) (hr : Room (k + 1) X.A) (hb : KBn X.K fd ps (n + 1) ks g gV) (hx : PassesAt CX X σ E)
    (I : Inv X pins σ H s) (r : Vals vs us) (rz : Vals zs ws) (l1 : vs.length = n) (l2 : zs.length = ks.length)
    (h : ∀ x dx, H x = none → H dx = none → dx ≠ x → sp (gV (.ref x :: vs) zs) (upd (upd H dx (.own x)) x (.ins C dx [])) (fun v H2 => v = .non ∧ Q (.ref x) H2) E) :
    PySem.wpAny (model X.prog X.w) X.A (PySem.call (.ref C) us (ks.zip ws)) (EP X pins σ Q) X.xe s := by
  have hq := h (s.heap.objs.size + 1) s.heap.objs.size (I.hok.fresh (Nat.le_succ _)) (I.hok.fresh (Nat.le_refl _)) (Nat.ne_of_lt (Nat.lt_succ_self _))
  have I2 := Inv.made (C := C) I
  have r1 : Vals (V.ref (s.heap.objs.size + 1) :: vs) (Value.ref (s.heap.objs.size + 1) :: us) := .cons rfl r
  have r2 := hb.rel r1 rz
  have n1 : (Value.ref (s.heap.objs.size + 1) :: us).length = n + 1 := by
    rw [List.length_cons, ← r.length, l1]
  refine PySem.wpAny_call (L2.make_map (f := f) I.kIn M.makes M.init (beq_iff_eq.mp M.fn) (PySem.codeAny_mono (F.run _ X.stack _ _ ⟨Value.ref (s.heap.objs.size + 1) :: us, ks.zip ws⟩ (g (Value.ref (s.heap.objs.size + 1) :: us) ws) _ _ E (hr.make C us (ks.zip ws))
    (I2.env0.make C us (ks.zip ws)) (hb.to _ (Value.ref (s.heap.objs.size + 1) :: us) ws I2.kIn n1 (rz.length.symm.trans l2)) r2 hq) fun r s' hq' => ?_))
  cases r with
  | error e => exact hx pins _ _ e s' I2 hq'
  | ok fl =>
    cases fl with
    | ret u =>
      obtain ⟨v, H', I3, rv, ev, q3⟩ := I2.after hq'
      subst ev
      exact ⟨rv, ⟨V.ref (s.heap.objs.size + 1), H', I3, rfl, q3⟩⟩
    | next => exact False.elim hq'
    | brk => exact False.elim hq'
    | cont => exact False.elim hq'
theorem pe_makeS (M : Mk X.K C f) (F : FnOk X.prog X.w X.K X.mg X.base CX k f fd ps sp) (hr : Room (k + 1) X.A) (hg : Gl X x) (hm : X.mg x = some (.ref C)) (hb : KBn X.K fd ps (n + 1) [] g gV) (hx : ∀ σ, PassesAt CX X σ (WE W σ)) (ha : PA X (e :: es) t)
    (hdb : (x == ("__debug__" : Str)) = false := by decide) (he : starEach (e :: es) X.env = (false, eval e X.env) :: starEach es X.env := by rfl) (hpl : (backTo pos (starEach es X.env)).any (·.1) = false := by rfl) :
    PE X (.Call (.Name x p) (e :: es) [] pos) (tMakeS C n 0 sp gV W t tNil) := by
  refine ⟨fun pins s σ H Q I h => ?_⟩
  refine wpAny_Call_Name_kw (ld_glob I hg hm ?_ hdb)
  refine PySem.W.callWith_K (h₀ := X.base) I.ok.mod.kin M.kp (thn (ha.run pos pins s σ H _ I h) fun us s1 ⟨vs, H1, I1, r, q⟩ => ⟨I1.kIn, ?_⟩) he hpl
  exact run_makeS (ks := []) (us := us) (ws := []) (vs := vs) (zs := []) M F hr hb (hx σ) I1 r .nil q.1 rfl q.2.2
theorem pe_makeS0 (M : Mk X.K C f) (F : FnOk X.prog X.w X.K X.mg X.base CX k f fd ps sp) (hr : Room (k + 1) X.A) (hg : Gl X x) (hm : X.mg x = some (.ref C)) (hb : KBn X.K fd ps 1 [] g gV) (hx : ∀ σ, PassesAt CX X σ (WE W σ))
    (hdb : (x == ("__debug__" : Str)) = false := by decide) : PE X (.Call (.Name x p) [] [] pos) (tMakeS C 0 0 sp gV W tNil tNil) := by
  refine ⟨fun pins s σ H Q I h => ?_⟩
  refine wpAny_Call_Name_kw (ld_glob I hg hm ?_ hdb)
  exact PySem.W.callWith_K0 I.kIn M.kp (run_makeS (ks := []) (us := []) (ws := []) (vs := []) (zs := []) M F hr hb (hx σ) I .nil .nil rfl rfl h.2.2)
theorem pe_makeSK0 (M : Mk X.K C f) (F : FnOk X.prog X.w X.K X.mg X.base CX k f fd ps sp) (hr : Room (k + 1) X.A) (hg : Gl X x) (hm : X.mg x = some (.ref C)) (hb : KBn X.K fd ps 1 ks g gV) (hx : ∀ σ, PassesAt CX X σ (WE W σ)) (hkw : PK X kws tk)
    (hall : (backToKw pos (keywordEach kws X.env)).all (·.1.isSome) = true := by rfl) (hks : (backToKw pos (keywordEach kws X.env)).filterMap (·.1) = ks := by rfl) (hdb : (x == ("__debug__" : Str)) = false := by decide)
    (hpl : ((backTo pos (starEach [] X.env)).any (·.1) || (backToKw pos (keywordEach kws X.env)).any (·.1.isNone)) = false := by rfl) :
    PE X (.Call (.Name x p) [] kws pos) (tMakeS C 0 ks.length sp gV W tNil tk) := by
  refine ⟨fun pins s σ H Q I h => ?_⟩
  refine wpAny_Call_Name_kw (ld_glob I hg hm ?_ hdb)
  refine PySem.W.callWith_KW0 (h₀ := X.base) I.ok.mod.kin M.kp hall ?_ hpl
  refine thn (hkw.run pos pins s σ H _ I h) fun ws s2 ⟨zs, H2, I2, rz, l1, l2, q2⟩ => ⟨I2.kIn, ?_⟩
  rw [hks]
  exact run_makeS (us := []) (vs := []) M F hr hb (hx σ) I2 .nil rz rfl l2 q2
theorem pe_makeSK (M : Mk X.K C f) (F : FnOk X.prog X.w X.K X.mg X.base CX k f fd ps sp) (hr : Room (k + 1) X.A) (hg : Gl X x) (hm : X.mg x = some (.ref C)) (hb : KBn X.K fd ps (n + 1) ks g gV) (hx : ∀ σ, PassesAt CX X σ (WE W σ)) (ha : PA X (e :: es) t) (hkw : PK X kws tk)
    (hall : (backToKw pos (keywordEach kws X.env)).all (·.1.isSome) = true := by rfl) (hks : (backToKw pos (keywordEach kws X.env)).filterMap (·.1) = ks := by rfl) (hdb : (x == ("__debug__" : Str)) = false := by decide)
    (he : starEach (e :: es) X.env = (false, eval e X.env) :: starEach es X.env := by rfl) (hpl : ((backTo pos (starEach (e :: es) X.env)).any (·.1) || (backToKw pos (keywordEach kws X.env)).any (·.1.isNone)) = false := by rfl) :
    PE X (.Call (.Name x p) (e :: es) kws pos) (tMakeS C n ks.length sp gV W t tk) := by
  refine ⟨fun pins s σ H Q I h => ?_⟩
  refine wpAny_Call_Name_kw (ld_glob I hg hm ?_ hdb)
  refine PySem.W.callWith_KW (h₀ := X.base) I.ok.mod.kin M.kp hall (thn (ha.run pos pins s σ H _ I h) fun us s1 ⟨vs, H1, I1, r, q⟩ => ?_) hpl he
  refine thn (hkw.run pos pins s1 σ H1 _ I1 q) fun ws s2 ⟨zs, H2, I2, rz, l1, l2, q2⟩ => ⟨I2.kIn, ?_⟩
  rw [hks]
  exact run_makeS M F hr hb (hx σ) I2 r rz l1 l2 q2
end
def eMk (c : String) (n l N : Nat) (f : MF) (g : List MV → List MV → List MV) (ms mk : MEs) : ME := fun s h => (ms s h).bnd fun xs h1 => (mk s h1).bnd fun ys h2 =>
  if xs.length = n ∧ ys.length = l ∧ (g (.ref h2.length :: xs) ys).length = N then (f (g (.ref h2.length :: xs) ys) (h2 ++ [.ins c []])).bnd fun v h3 => match v with
    | .non => .ok (.ref h2.length) h3
    | _ => .no
  else .no
section
variable {X : Cx} {G : String → Option V} {W : WX} {e : Expr} {es : List Expr} {ms mk : MEs} {x : Str} {p pos : Pos} {k n l : Nat} {fa C : Addr} {fd : FuncData} {ps ks : List Str} {f : MF} {c : String} {kws : List Keyword} {g : List Value → List Value → List Value} {gM : List MV → List MV → List MV} {gV : List V → List V → List V}
theorem new_ins {K : PySem.W.Frag} {ρ : List Addr} {H : Hp} {mh : MH} {p dx : Addr} (hr : HR K G ρ H mh) (hG : G c = some (.ref C)) (hp : H p = none) (hd : H dx = none) (hn : dx ≠ p) :
    HR K G (ρ ++ [p]) (upd (upd H dx (.own p)) p (.ins C dx [])) (mh ++ [.ins c []]) ∧ Ext K ρ H (ρ ++ [p]) (upd (upd H dx (.own p)) p (.ins C dx [])) ∧ VR K G (ρ ++ [p]) (upd (upd H dx (.own p)) p (.ins C dx [])) (.ref mh.length) (.ref p) := by
  have x0 : Ext K ρ H ρ (upd H dx (.own p)) := ext_new0 hd
  have h0 : HR K G ρ (upd H dx (.own p)) mh := ⟨hr.len, hr.nd, fun i o e => by
    obtain ⟨a, ha, q⟩ := hr.obj i o e
    exact ⟨a, ha, q.keep x0 fun u hu => by rw [upd_ne (ne_of_none hu hd)]; exact hu⟩⟩
  have hp' : upd H dx (.own p) p = none := by rw [upd_ne (Ne.symm hn)]; exact hp
  have x1 : Ext K ρ (upd H dx (.own p)) (ρ ++ [p]) (upd (upd H dx (.own p)) p (.ins C dx [])) := ext_new hp'
  obtain ⟨h1, h2⟩ := h0.new (u := .ins C dx []) (o := .ins c []) hp' ⟨C, dx, [], hG, upd_same, rfl⟩
  exact ⟨h1, x0.trans h2, by simp only [VR]; exact ⟨p, rfl, by rw [← hr.len]; simp⟩⟩
theorem ro_anyS {α : Type} {K : PySem.W.Frag} {G : String → Option V} {W : WX} {σ : St} {P : α → List Addr → Hp → Prop} {ρ : List Addr} {H : Hp} {r : Rz α} (h : RO K G W σ P ρ H r) : RO K G (fun cls d _ H => WE W σ cls d H) [] P ρ H r := by
  cases r with
  | ok v m => exact h
  | err e m => exact h
  | no => exact h
theorem make_re {σ : St} {H : Hp} {Q : VK} (hG : G c = some (.ref C)) (hg : GR X.K G gM gV) (h : RE X.K G W (eMk c n l ps.length f gM ms mk) σ H Q) :
    tMakeS C n l (SpM X.K G ps.length f) gV W (RA X.K G W ms) (RA X.K G W mk) σ H Q := by
  obtain ⟨ρ, sm, mh, r0, q⟩ := h
  refine ra_bnd r0 q fun xs ρ1 H1 mh1 vs x1 r1 rvs q1 => ?_
  refine ra_bnd r1 q1 fun ys ρ2 H2 mh2 zs x2 r2 rzs q2 => ?_
  split at q2
  · rename_i hl
    obtain ⟨l1, l2, l3⟩ := hl
    refine ⟨by rw [← rvs.length]; exact l1, by rw [← rzs.length]; exact l2, fun a dx ha hd hn => ?_⟩
    obtain ⟨a1, a2, a3⟩ := new_ins r2.hr hG ha hd hn
    have rel := hg.rel (VRs.cons a3 ((rvs.ext x2).ext a2)) (rzs.ext a2)
    refine ⟨_, _, _, a1, rel, by rw [← rel.length]; exact l3, ?_⟩
    have q3 := RO.ext q2 a2
    refine (ro_anyS q3.bnd).mono Ext.refl fun v ρ3 H3 z w rv => ?_
    obtain ⟨mh3, x3, hr3, z⟩ := z
    split at z
    · simp only [VR] at rv
      exact ⟨rv, RO.ok (P := PV X.K G Q) z hr3 _ (VR.ext x3 a3)⟩
    · exact z.elim
  · exact q2.elim
theorem ra_nil {σ : St} {H : Hp} {Q : List V → Hp → Prop} (h : RA X.K G W aNil σ H Q) : tNil σ H Q := by
  obtain ⟨ρ, sm, mh, r0, q⟩ := h
  exact RO.ok (P := PVs X.K G Q) q r0.hr _ VRs.nil
theorem m_make (hG : G c = some (.ref C)) (hgr : GR X.K G gM gV) (M : Mk X.K C fa) (F : FnOk X.prog X.w X.K X.mg X.base (L2.CX X.prog X.w) k fa fd ps (SpM X.K G ps.length f)) (hr : Room (k + 1) X.A) (hg : Gl X x) (hm : X.mg x = some (.ref C)) (hb : KBn X.K fd ps (n + 1) [] g gV) (tk : Takes X W)
    (ha : PA X (e :: es) (RA X.K G W ms)) (hdb : (x == ("__debug__" : Str)) = false := by decide) (he : starEach (e :: es) X.env = (false, eval e X.env) :: starEach es X.env := by rfl) (hpl : (backTo pos (starEach es X.env)).any (·.1) = false := by rfl) :
    PE X (.Call (.Name x p) (e :: es) [] pos) (RE X.K G W (eMk c n 0 ps.length f gM ms aNil)) :=
  pe_imp (pe_makeS M F hr hg hm hb (fun σ => passAt tk σ) ha hdb he hpl) fun σ H Q h => by
    have := make_re hG hgr h
    obtain ⟨ρ, sm, mh, r0, q⟩ := this
    exact ⟨ρ, sm, mh, r0, q.mono Ext.refl fun v ρ H z vs rv => ra_nil (z vs rv)⟩
theorem m_make0 (hG : G c = some (.ref C)) (hgr : GR X.K G gM gV) (M : Mk X.K C fa) (F : FnOk X.prog X.w X.K X.mg X.base (L2.CX X.prog X.w) k fa fd ps (SpM X.K G ps.length f)) (hr : Room (k + 1) X.A) (hg : Gl X x) (hm : X.mg x = some (.ref C)) (hb : KBn X.K fd ps 1 [] g gV) (tk : Takes X W)
    (hdb : (x == ("__debug__" : Str)) = false := by decide) : PE X (.Call (.Name x p) [] [] pos) (RE X.K G W (eMk c 0 0 ps.length f gM aNil aNil)) :=
  pe_imp (pe_makeS0 M F hr hg hm hb (fun σ => passAt tk σ) hdb) fun σ H Q h => by
    have := make_re hG hgr h
    have h1 : RA X.K G W aNil σ H (fun zs H2 => ([] : List V).length = 0 ∧ zs.length = 0 ∧ ∀ x dx, H2 x = none → H2 dx = none → dx ≠ x →
      SpM X.K G ps.length f (gV (.ref x :: []) zs) (upd (upd H2 dx (.own x)) x (.ins C dx [])) (fun v H3 => v = .non ∧ Q (.ref x) H3) (WE W σ)) := ra_nil this
    have h2 := ra_nil h1
    exact h2
theorem m_makeK0 (hG : G c = some (.ref C)) (hgr : GR X.K G gM gV) (M : Mk X.K C fa) (F : FnOk X.prog X.w X.K X.mg X.base (L2.CX X.prog X.w) k fa fd ps (SpM X.K G ps.length f)) (hr : Room (k + 1) X.A) (hg : Gl X x) (hm : X.mg x = some (.ref C)) (hb : KBn X.K fd ps 1 ks g gV) (tk : Takes X W) (hkw : PK X kws (RA X.K G W mk))
    (hall : (backToKw pos (keywordEach kws X.env)).all (·.1.isSome) = true := by rfl) (hks : (backToKw pos (keywordEach kws X.env)).filterMap (·.1) = ks := by rfl) (hdb : (x == ("__debug__" : Str)) = false := by decide)
    (hpl : ((backTo pos (starEach [] X.env)).any (·.1) || (backToKw pos (keywordEach kws X.env)).any (·.1.isNone)) = false := by rfl) :
    PE X (.Call (.Name x p) [] kws pos) (RE X.K G W (eMk c 0 ks.length ps.length f gM aNil mk)) :=
  pe_imp (pe_makeSK0 M F hr hg hm hb (fun σ => passAt tk σ) hkw hall hks hdb hpl) fun σ H Q h => ra_nil (make_re hG hgr h)
theorem m_makeK (hG : G c = some (.ref C)) (hgr : GR X.K G gM gV) (M : Mk X.K C fa) (F : FnOk X.prog X.w X.K X.mg X.base (L2.CX X.prog X.w) k fa fd ps (SpM X.K G ps.length f)) (hr : Room (k + 1) X.A) (hg : Gl X x) (hm : X.mg x = some (.ref C)) (hb : KBn X.K fd ps (n + 1) ks g gV) (tk : Takes X W) (ha : PA X (e :: es) (RA X.K G W ms)) (hkw : PK X kws (RA X.K G W mk))
    (hall : (backToKw pos (keywordEach kws X.env)).all (·.1.isSome) = true := by rfl) (hks : (backToKw pos (keywordEach kws X.env)).filterMap (·.1) = ks := by rfl) (hdb : (x == ("__debug__" : Str)) = false := by decide)
    (he : starEach (e :: es) X.env = (false, eval e X.env) :: starEach es X.env := by rfl) (hpl : ((backTo pos (starEach (e :: es) X.env)).any (·.1) || (backToKw pos (keywordEach kws X.env)).any (·.1.isNone)) = false := by rfl) :
    PE X (.Call (.Name x p) (e :: es) kws pos) (RE X.K G W (eMk c n ks.length ps.length f gM ms mk)) :=
  pe_imp (pe_makeSK M F hr hg hm hb (fun σ => passAt tk σ) ha hkw hall hks hdb he hpl) fun σ H Q h => make_re hG hgr h
end
section
variable {X : Cx} {CX : CXT} {k n : Nat} {f C : Addr} {fd : FuncData} {ps : List Str} {sp : Sp} {E : St → XK} {x m : Str} {p pos apos : Pos} {o e : Expr} {es : List Expr} {ta : TE} {t : TA}
def tMethS (C : Addr) (m : Str) (sp : Sp) (E : St → XK) (ta : TE) (t : TA) : TE := fun σ H Q => ta σ H fun x H1 => ∃ a dx fs, x = .ref a ∧ H1 a = some (.ins C dx fs) ∧ fs.lookup m = none ∧
  t σ H1 fun vs H2 => sp (x :: vs) H2 Q (E σ)
theorem pe_methS1 {pl : Sem Bool} (he : PE X o ta) (c : Cls X.K C) (hm : Meth X.K C m f) (F : FnOk X.prog X.w X.K X.mg X.base CX k f fd ps sp) (hr : Room k X.A) (hb : Binds X.K fd ps []) (hx : ∀ σ, PassesAt CX X σ (E σ)) (ha : PA X (e :: es) t)
    (hst : starEach (e :: es) X.env = (false, eval e X.env) :: starEach es X.env := by rfl) (hpl : (backTo pos (starEach es X.env)).any (·.1) = false := by rfl)
    (ht : eval (.Call (.Attribute o m apos) (e :: es) [] pos) X.env = (do
      let ov ← eval o X.env
      standAt apos.atName
      let (f, first) ← holding [ov] (getMethod ov m pl)
      callWith pos f first (backTo pos (starEach (e :: es) X.env)) (backToKw pos (keywordEach [] X.env))) := by rfl) :
    PE X (.Call (.Attribute o m apos) (e :: es) [] pos) (tMethS C m sp E ta t) := by
  refine ⟨fun pins s σ H Q I h => ?_⟩
  refine PySem.W.methodCall_KW (pl := pl) (thn (he.run pins s σ H _ I h) fun u s1 ⟨x, H1, I1, rx, a, dx, fs, ex, ea, l, q⟩ => ?_) ht
  subst ex
  obtain rfl : u = Value.ref a := rx
  refine getmeth_ok I1 ea c hm l ?_
  refine PySem.W.callWith_K (first := [.ref a]) (h₀ := X.base) I.ok.mod.kin hm.kp (thn (ha.run pos pins s1 σ H1 _ I1 q) fun us s2 ⟨vs, H2, I2, r, q2⟩ => ⟨I2.kIn, ?_⟩) hst hpl
  exact run_fnS (us := .ref a :: us) (vs := .ref a :: vs) F hr hb (hx σ) I2 (.cons rfl r) q2
theorem pe_methS0 {pl : Sem Bool} (he : PE X o ta) (c : Cls X.K C) (hm : Meth X.K C m f) (F : FnOk X.prog X.w X.K X.mg X.base CX k f fd ps sp) (hr : Room k X.A) (hb : Binds X.K fd ps []) (hx : ∀ σ, PassesAt CX X σ (E σ))
    (ht : eval (.Call (.Attribute o m apos) [] [] pos) X.env = (do
      let ov ← eval o X.env
      standAt apos.atName
      let (f, first) ← holding [ov] (getMethod ov m pl)
      callWith pos f first (backTo pos (starEach [] X.env)) (backToKw pos (keywordEach [] X.env))) := by rfl) :
    PE X (.Call (.Attribute o m apos) [] [] pos) (tMethS C m sp E ta tNil) := by
  refine ⟨fun pins s σ H Q I h => ?_⟩
  refine PySem.W.methodCall_KW (pl := pl) (thn (he.run pins s σ H _ I h) fun u s1 ⟨x, H1, I1, rx, a, dx, fs, ex, ea, l, q⟩ => ?_) ht
  subst ex
  obtain rfl : u = Value.ref a := rx
  refine getmeth_ok I1 ea c hm l ?_
  exact PySem.W.callWith_K0 (first := [.ref a]) I1.kIn hm.kp (run_fnS (us := [.ref a]) (vs := [.ref a]) F hr hb (hx σ) I1 (.cons rfl .nil) q)
end
def eMeth (c : String) (m : Str) (n : Nat) (f : MF) (a : ME) (as : MEs) : ME := fun s h => (a s h).bnd fun x h1 => match x with
  | .ref i => match h1[i]? with
    | some (.ins c' fs) => if c' = c ∧ fs.lookup m = none then (as s h1).bnd fun xs h2 => if xs.length + 1 = n then f (x :: xs) h2 else .no else .no
    | _ => .no
  | _ => .no
section
variable {X : Cx} {G : String → Option V} {W : WX} {o e : Expr} {es : List Expr} {mo : ME} {ms : MEs} {x m : Str} {p pos apos : Pos} {k : Nat} {fa C : Addr} {fd : FuncData} {ps : List Str} {f : MF} {c : String}
theorem meth_re {σ : St} {H : Hp} {Q : VK} (hG : G c = some (.ref C)) (h : RE X.K G W (eMeth c m ps.length f mo ms) σ H Q) : tMethS C m (SpM X.K G ps.length f) (WE W) (RE X.K G W mo) (RA X.K G W ms) σ H Q := by
  obtain ⟨ρ, sm, mh, r0, q⟩ := h
  refine re_bnd r0 q fun x ρ1 H1 mh1 v x1 r1 rv q1 => ?_
  split at q1
  · rename_i i
    split at q1
    · rename_i c' fs q2
      split at q1
      · rename_i hc
        obtain ⟨rfl, hl⟩ := hc
        obtain ⟨a, C', dx, vs, rfl, ha, g1, g2, g3⟩ := r1.hr.ins q2 rv
        rw [hG] at g1; cases g1
        refine ⟨a, dx, vs, rfl, g2, (lookupF_V g3).2 hl, ?_⟩
        refine ra_bnd r1 q1 fun xs ρ2 H2 mh2 us x2 r2 rvs q3 => ?_
        split at q3
        · rename_i hn
          have rel := VRs.cons (rv.ext x2) rvs
          exact ⟨_, _, _, r2.hr, rel, by rw [← rel.length]; exact hn, ro_anyS q3⟩
        · exact q3.elim
      · exact q1.elim
    · exact q1.elim
  · exact q1.elim
theorem m_meth {pl : Sem Bool} (hG : G c = some (.ref C)) (ho : PE X o (RE X.K G W mo)) (hc : Cls X.K C) (hm : Meth X.K C m fa) (F : FnOk X.prog X.w X.K X.mg X.base (L2.CX X.prog X.w) k fa fd ps (SpM X.K G ps.length f)) (hr : Room k X.A) (hb : Binds X.K fd ps []) (tk : Takes X W) (ha : PA X (e :: es) (RA X.K G W ms))
    (hst : starEach (e :: es) X.env = (false, eval e X.env) :: starEach es X.env := by rfl) (hpl : (backTo pos (starEach es X.env)).any (·.1) = false := by rfl)
    (ht : eval (.Call (.Attribute o m apos) (e :: es) [] pos) X.env = (do
      let ov ← eval o X.env
      standAt apos.atName
      let (f, first) ← holding [ov] (getMethod ov m pl)
      callWith pos f first (backTo pos (starEach (e :: es) X.env)) (backToKw pos (keywordEach [] X.env))) := by rfl) :
    PE X (.Call (.Attribute o m apos) (e :: es) [] pos) (RE X.K G W (eMeth c m ps.length f mo ms)) :=
  pe_imp (pe_methS1 (pl := pl) ho hc hm F hr hb (fun σ => passAt tk σ) ha hst hpl ht) fun σ H Q h => meth_re hG h
theorem m_meth0 {pl : Sem Bool} (hG : G c = some (.ref C)) (ho : PE X o (RE X.K G W mo)) (hc : Cls X.K C) (hm : Meth X.K C m fa) (F : FnOk X.prog X.w X.K X.mg X.base (L2.CX X.prog X.w) k fa fd ps (SpM X.K G ps.length f)) (hr : Room k X.A) (hb : Binds X.K fd ps []) (tk : Takes X W)
    (ht : eval (.Call (.Attribute o m apos) [] [] pos) X.env = (do
      let ov ← eval o X.env
      standAt apos.atName
      let (f, first) ← holding [ov] (getMethod ov m pl)
      callWith pos f first (backTo pos (starEach [] X.env)) (backToKw pos (keywordEach [] X.env))) := by rfl) :
    PE X (.Call (.Attribute o m apos) [] [] pos) (RE X.K G W (eMeth c m ps.length f mo aNil)) :=
  pe_imp (pe_methS0 (pl := pl) ho hc hm F hr hb (fun σ => passAt tk σ) ht) fun σ H Q h => by
    have h1 := meth_re hG h
    obtain ⟨ρ, sm, mh, r0, q⟩ := h1
    refine ⟨ρ, sm, mh, r0, q.mono Ext.refl fun v ρ H z w rv => ?_⟩
    obtain ⟨a, dx, fs, z1, z2, z3, z4⟩ := z w rv
    exact ⟨a, dx, fs, z1, z2, z3, ra_nil z4⟩
end
end Mo
namespace Mo
open PySem L2
def sNo : MS := fun _ _ => .no
def eNo : ME := fun _ _ => .no
section
variable {X : Cx} {G : String → Option V} {W : WX} {a : Expr} {ma : ME} {pos : Pos}
end
abbrev MP := Lo → MH → Rz (Option Int)
def pNo : MP := fun _ h => .ok none h
def pIs (e : ME) : MP := fun s h => (e s h).bnd fun v h1 => match v with
  | .int i => .ok (some i) h1
  | _ => .no
def cutM (xs : List MV) (lo hi : Option Int) : List MV := (xs.drop (HT.sIx xs.length 0 lo)).take (HT.sIx xs.length xs.length hi - HT.sIx xs.length 0 lo)
def fSl (x : MV) (lo hi : Option Int) (h : MH) : OV := match x with
  | .str z => if z.length ≤ SZ then some (.str (cutS z lo hi), h) else none
  | .ref i => match h[i]? with
    | some (.lst xs) => some (.ref h.length, h ++ [.lst (cutM xs lo hi)])
    | _ => none
  | .frl xs => some (.ref h.length, h ++ [.lst (cutM xs lo hi)])
  | .tup xs => if ¬ (HT.sIx xs.length 0 lo = 0 ∧ HT.sIx xs.length xs.length hi = xs.length) then some (.tup (cutM xs lo hi), h) else none
  | .ktp xs => if ¬ (HT.sIx xs.length 0 lo = 0 ∧ HT.sIx xs.length xs.length hi = xs.length) then some (.tup (cutM xs lo hi), h) else none
  | _ => none
def eSl (a : ME) (l u : MP) : ME := fun s h => (a s h).bnd fun x h1 => (l s h1).bnd fun lo h2 => (u s h2).bnd fun hi h3 => lift (fSl x lo hi h3)
def RP (K : PySem.W.Frag) (G : String → Option V) (W : WX) (m : MP) : TO := fun σ H Q => ∃ ρ sm mh, Rl K G ρ H sm σ mh ∧ RO K G W σ (fun o _ H1 => Q o H1) ρ H (m sm mh)
section
variable {X : Cx} {G : String → Option V} {W : WX} {a e : Expr} {ma m : ME} {lo hi : Option Expr} {l u : MP} {pos p2 : Pos}
theorem po_imp {e : Option Expr} {t t' : TO} (h : PO X e t) (i : ∀ σ H Q, t' σ H Q → t σ H Q) : PO X e t' := ⟨fun pins s σ H Q I q => h.run pins s σ H Q I (i σ H Q q)⟩
theorem rp_bnd {K : PySem.W.Frag} {ρ : List Addr} {H : Hp} {sm : Lo} {σ : St} {mh : MH} {β : Type} {P : β → List Addr → Hp → Prop} {m : MP} {k : Option Int → MH → Rz β} {Q : Option Int → Hp → Prop} (r : Rl K G ρ H sm σ mh) (h : RO K G W σ P ρ H ((m sm mh).bnd k))
    (hq : ∀ v ρ1 H1 mh1, Ext K ρ H ρ1 H1 → Rl K G ρ1 H1 sm σ mh1 → RO K G W σ P ρ1 H1 (k v mh1) → Q v H1) : RP K G W m σ H Q :=
  ⟨ρ, sm, mh, r, h.bnd.mono Ext.refl fun v ρ1 H1 ⟨mh1, x, hr, z⟩ => hq v ρ1 H1 mh1 x (r.at x hr) z⟩
theorem m_pno : PO X none (RP X.K G W pNo) := po_imp po_none fun σ H Q ⟨ρ, sm, mh, r, q⟩ => RO.ok (P := fun o _ H1 => Q o H1) q r.hr
theorem m_pis (h : PE X e (RE X.K G W m)) : PO X (some e) (RP X.K G W (pIs m)) := by
  refine po_imp (po_some h) fun σ H Q ⟨ρ, sm, mh, r, q⟩ => ?_
  refine re_bnd r q fun x ρ1 H1 mh1 v x1 r1 rv q1 => ?_
  cases x with
  | int i => simp only [VR] at rv; exact ⟨i, rv, RO.ok (P := fun o _ H1 => Q o H1) q1 r1.hr⟩
  | _ => exact q1.elim
theorem cutM_V {K : PySem.W.Frag} {ρ : List Addr} {H : Hp} {xs : List MV} {vs : List V} {lo hi : Option Int} (r : VRs K G ρ H xs vs) : VRs K G ρ H (cutM xs lo hi) (cutV vs lo hi) := by
  unfold cutM cutV
  rw [r.length]
  exact VRs.take _ (VRs.drop _ r)
abbrev rSlA (K : PySem.W.Frag) : V → Option Int → Option Int → Hp → VK → Prop := fun x lo hi H Q => rSlL K x lo hi H Q ∨ (fun x lo hi H Q => rSlT K x lo hi H Q ∨ rSlS x lo hi H Q : V → Option Int → Option Int → Hp → VK → Prop) x lo hi H Q
theorem sl_all : SlR X (rSlA X.K) := sl_list.or (sl_tup.or sl_str)
theorem m_slice (ha : PE X a (RE X.K G W ma)) (hl : PO X lo (RP X.K G W l)) (hu : PO X hi (RP X.K G W u)) : PE X (.Subscript a (.Slice lo hi none p2) pos) (RE X.K G W (eSl ma l u)) := by
  refine pe_imp (pe_slice sl_all ha hl hu) fun σ H Q ⟨ρ, sm, mh, r0, q⟩ => ?_
  refine re_bnd r0 q fun x ρ1 H1 mh1 v x1 r1 rv q1 => ?_
  refine rp_bnd r1 q1 fun lo ρ2 H2 mh2 x2 r2 q2 => ?_
  refine rp_bnd r2 q2 fun hi ρ3 H3 mh3 x3 r3 q3 => ?_
  have rv3 := (rv.ext x2).ext x3
  obtain ⟨z, h1, e, k⟩ := ro_lift q3
  unfold fSl at e
  split at e
  · split at e
    · rename_i hz
      cases e
      simp only [VR] at rv3
      exact .inr (.inr ⟨_, rv3, by rw [SZ_eq]; exact hz, k _ _ Ext.refl r3.hr _ (by simp [VR])⟩)
    · cases e
  · split at e
    · rename_i xs q4
      cases e
      obtain ⟨p, vs, rfl, _, g1, g2⟩ := r3.hr.lst q4 rv3
      refine .inl ⟨p, vs, rfl, SqL.of g1, fun p hp => ?_⟩
      obtain ⟨a1, a2, a3⟩ := new_lst r3.hr (cutM_V g2) hp
      exact k _ _ a2 a1 _ a3
    · cases e
  · cases e
    simp only [VR] at rv3
    obtain ⟨p, vs, rfl, g1, g2⟩ := rv3
    refine .inl ⟨p, vs, rfl, g1.sq, fun p hp => ?_⟩
    obtain ⟨a1, a2, a3⟩ := new_lst r3.hr (cutM_V g2) hp
    exact k _ _ a2 a1 _ a3
  · split at e
    · rename_i hc
      cases e
      obtain ⟨p, vs, rfl, g1, g2⟩ := VR.tup rfl rv3
      refine .inr (.inl ⟨p, vs, rfl, g1, by rw [← g2.length]; exact hc, fun p hp => ?_⟩)
      obtain ⟨a1, a2, a3⟩ := new_tup r3.hr (cutM_V g2) hp
      exact k _ _ a2 a1 _ a3
    · cases e
  · split at e
    · rename_i hc
      cases e
      obtain ⟨p, vs, rfl, g1, g2⟩ := VR.tup rfl rv3
      refine .inr (.inl ⟨p, vs, rfl, g1, by rw [← g2.length]; exact hc, fun p hp => ?_⟩)
      obtain ⟨a1, a2, a3⟩ := new_tup r3.hr (cutM_V g2) hp
      exact k _ _ a2 a1 _ a3
    · cases e
  · cases e
end
def fList (xs : List MV) (h : MH) : OV := match xs with
  | [x] => match seqOf h x with
    | some ys => some (.ref h.length, h ++ [.lst ys])
    | none => none
  | _ => none
section
variable {X : Cx} {G : String → Option V}
theorem s_list : CallS X.K G (fun xs H Q => ∃ p ys, xs = [.ref p] ∧ (SqL X.K H p ys ∨ SqT X.K H p ys) ∧ ∀ l, H l = none → Q (.ref l) (upd H l (.lst ys))) fList := by
  intro ρ H mh mh1 xs z vs Q hr rvs e k
  unfold fList at e
  split at e
  · obtain ⟨v, rfl, rv⟩ := rvs.one
    split at e
    · rename_i ys q
      cases e
      obtain ⟨p, ws, rfl, g1, g2⟩ := seq_V hr q rv
      refine ⟨p, ws, rfl, g1, fun l hl => ?_⟩
      obtain ⟨a1, a2, a3⟩ := new_lst hr g2 hl
      exact k _ _ a2 a1 _ a3
    · cases e
  · cases e
end
theorem new_dk {K : PySem.W.Frag} {G : String → Option V} {ρ : List Addr} {H : Hp} {mh : MH} {kvs : List (Key × MV)} {vs : List (Key × V)} {p : Addr} (hr : HR K G ρ H mh) (r : KRs K G ρ H id kvs vs) (hp : H p = none) :
    HR K G (ρ ++ [p]) (upd H p (.dK vs)) (mh ++ [.dk kvs]) ∧ Ext K ρ H (ρ ++ [p]) (upd H p (.dK vs)) ∧ VR K G (ρ ++ [p]) (upd H p (.dK vs)) (.ref mh.length) (.ref p) := by
  have x : Ext K ρ H (ρ ++ [p]) (upd H p (.dK vs)) := ext_new hp
  obtain ⟨h1, h2⟩ := hr.new (u := .dK vs) (o := .dk kvs) hp ⟨vs, upd_same, r.ext x⟩
  exact ⟨h1, h2, by simp only [VR]; exact ⟨p, rfl, by rw [← hr.len]; simp⟩⟩
def eDk : ME := fun _ h => .ok (.ref h.length) (h ++ [.dk []])
def eDt : ME := fun _ h => .ok (.ref h.length) (h ++ [.dt []])
section
variable {X : Cx} {G : String → Option V} {W : WX} {o i e f value : Expr} {mo mi me mf : ME} {pos pos' apos cpos : Pos}
theorem m_dk : PE X (.Dict [] [] pos) (RE X.K G W eDk) := pe_imp pe_dnewK fun σ H Q ⟨ρ, sm, mh, r, q⟩ => fun p hp => by
  obtain ⟨a1, a2, a3⟩ := new_dk (kvs := []) (vs := []) r.hr rfl hp
  exact q _ _ a2 a1 _ a3
def mergeM (kvs more : List (Key × MV)) : List (Key × MV) := more.foldl (fun acc kv => putM acc kv.1 kv.2) kvs
abbrev MPs := Lo → MH → Rz (List (MV × MV))
def dNil : MPs := fun _ h => .ok [] h
def dCons (a b : ME) (r : MPs) : MPs := fun s h => (a s h).bnd fun x h1 => (b s h1).bnd fun y h2 => (r s h2).bnd fun ps h3 => .ok ((x, y) :: ps) h3
def pairsK : List (MV × MV) → Option (List (Key × MV))
  | [] => some []
  | (x, y) :: r => match keyM x, pairsK r with
    | some k, some ks => some ((k, y) :: ks)
    | _, _ => none
def eDisp (ps : MPs) : ME := fun s h => (ps s (h ++ [.dk []])).bnd fun ps h1 => match pairsK ps, h1[h.length]? with
  | some kvs, some (.dk []) => if kvs.length ≤ 15 then .ok (.ref h.length) (h1.set h.length (.dk (mergeM [] kvs))) else .no
  | _, _ => .no
inductive TPs (X : Cx) (G : String → Option V) (W : WX) (pos : Pos) : List (Option Expr) → List Expr → List (TE × TE) → MPs → Prop
  | nil : TPs X G W pos [] [] [] dNil
  | cons {k v : Expr} {ks : List (Option Expr)} {vs : List Expr} {mk mv : ME} {trs : List (TE × TE)} {m : MPs} : PE X k (RE X.K G W mk) → PE X v (RE X.K G W mv) → TPs X G W pos ks vs trs m →
      TPs X G W pos (some k :: ks) (v :: vs) ((RE X.K G W mk, RE X.K G W mv) :: trs) (dCons mk mv m)
theorem TPs.pps {ks : List (Option Expr)} {vs : List Expr} {trs : List (TE × TE)} {m : MPs} (h : TPs X G W pos ks vs trs m) : PPs X pos ks vs trs := by
  induction h with
  | nil => exact pps_nil
  | cons a b _ ih => exact pps_cons a b ih
def PRs (K : PySem.W.Frag) (G : String → Option V) (ρ : List Addr) (H : Hp) : List (MV × MV) → List (V × V) → Prop
  | [], vs => vs = []
  | x :: xs, vs => ∃ v w r, vs = (v, w) :: r ∧ VR K G ρ H x.1 v ∧ VR K G ρ H x.2 w ∧ PRs K G ρ H xs r
theorem PRs.ext {K : PySem.W.Frag} {ρ ρ1 : List Addr} {H H1 : Hp} (x : Ext K ρ H ρ1 H1) : ∀ {ms : List (MV × MV)} {vs : List (V × V)}, PRs K G ρ H ms vs → PRs K G ρ1 H1 ms vs
  | [], _, h => h
  | m :: ms, _, h => by
    obtain ⟨v, w, r, e, q, q2, t⟩ := h
    exact ⟨v, w, r, e, q.ext x, q2.ext x, PRs.ext x t⟩
theorem TPs.run {ks : List (Option Expr)} {vs : List Expr} {trs : List (TE × TE)} {m : MPs} (h : TPs X G W pos ks vs trs m) : ∀ {ρ : List Addr} {H : Hp} {sm : Lo} {σ : St} {mh : MH} {β : Type} {P : β → List Addr → Hp → Prop} {k : List (MV × MV) → MH → Rz β} {Q : List (V × V) → Hp → Prop},
    Rl X.K G ρ H sm σ mh → RO X.K G W σ P ρ H ((m sm mh).bnd k) →
    (∀ ps ρ1 H1 mh1 us, Ext X.K ρ H ρ1 H1 → Rl X.K G ρ1 H1 sm σ mh1 → PRs X.K G ρ1 H1 ps us → RO X.K G W σ P ρ1 H1 (k ps mh1) → Q us H1) → tPairs trs σ H Q := by
  induction h with
  | nil => exact fun r q hq => hq [] _ _ _ [] Ext.refl r rfl q
  | @cons k v ks vs mk mv trs m a b t ih =>
    intro ρ H sm σ mh β P kk Q r q hq
    have q' : RO X.K G W σ P ρ H ((mk sm mh).bnd fun x h1 => (mv sm h1).bnd fun y h2 => (m sm h2).bnd fun ps h3 => kk ((x, y) :: ps) h3) := by
      have : ((dCons mk mv m sm mh).bnd kk) = ((mk sm mh).bnd fun x h1 => (mv sm h1).bnd fun y h2 => (m sm h2).bnd fun ps h3 => kk ((x, y) :: ps) h3) := by
        unfold dCons
        cases mk sm mh with
        | ok x h1 =>
          simp only [Rz.bnd]
          cases mv sm h1 with
          | ok y h2 =>
            simp only
            cases m sm h2 <;> rfl
          | _ => rfl
        | _ => rfl
      rw [← this]; exact q
    refine re_bnd r q' fun x ρ1 H1 mh1 v x1 r1 rv q1 => ?_
    refine re_bnd r1 q1 fun y ρ2 H2 mh2 w x2 r2 rw' q2 => ?_
    refine ih r2 q2 fun ps ρ3 H3 mh3 us x3 r3 rp q3 => ?_
    exact hq ((x, y) :: ps) _ _ _ ((v, w) :: us) ((x1.trans x2).trans x3) r3 (by simp only [PRs]; exact ⟨v, w, us, rfl, (rv.ext x2).ext x3, rw'.ext x3, rp⟩) q3
theorem pairsK_V {K : PySem.W.Frag} {ρ : List Addr} {H : Hp} : ∀ {ps : List (MV × MV)} {us : List (V × V)} {kvs : List (Key × MV)}, pairsK ps = some kvs → PRs K G ρ H ps us → ∃ vs, KRs K G ρ H id kvs vs ∧ us = vs.map fun kv => (kV kv.1, kv.2)
  | [], _, _, e, h => by simp only [PRs] at h; subst h; cases e; exact ⟨[], rfl, rfl⟩
  | (x, y) :: r, _, _, e, h => by
    simp only [PRs] at h
    obtain ⟨v, w, s, rfl, q, q2, t⟩ := h
    simp only [pairsK] at e
    cases h1 : keyM x with
    | none => rw [h1] at e; simp at e
    | some k =>
      cases h2 : pairsK r with
      | none => rw [h1, h2] at e; simp at e
      | some ks =>
        rw [h1, h2] at e; cases e
        obtain ⟨vs, z1, z2⟩ := pairsK_V h2 t
        exact ⟨(k, w) :: vs, ⟨w, vs, rfl, q2, z1⟩, by rw [keyM_V h1 q, z2]; rfl⟩
theorem mergeM_V {K : PySem.W.Frag} {ρ : List Addr} {H : Hp} : ∀ {kvs : List (Key × MV)} {vs : List (Key × V)} {xs : List (Key × MV)} {ws : List (Key × V)}, KRs K G ρ H id kvs vs → KRs K G ρ H id xs ws → KRs K G ρ H id (mergeM xs kvs) (mergeK ws vs)
  | [], _, _, _, h, q => by simp only [KRs] at h; subst h; exact q
  | (k, y) :: r, _, xs, ws, h, q => by
    simp only [KRs] at h
    obtain ⟨w, s, rfl, q2, t⟩ := h
    show KRs K G ρ H id (mergeM (putM xs k y) r) (mergeK (putK ws k w) s)
    exact mergeM_V t (putM_V q q2)
theorem m_disp {keys : List (Option Expr)} {values : List Expr} {trs : List (TE × TE)} {m : MPs} (h : TPs X G W pos keys values trs m) (hall : keys.all (·.isSome) = true := by rfl) (hl : keys.length = values.length := by rfl) (h0 : keys ≠ [] := by simp) (h15 : keys.length ≤ 15 := by decide) :
    PE X (.Dict keys values pos) (RE X.K G W (eDisp m)) := by
  refine pe_imp (pe_disp h.pps hall hl h0 h15) fun σ H Q ⟨ρ, sm, mh, r, q⟩ => fun p hp => ?_
  obtain ⟨a1, a2, a3⟩ := new_dk (kvs := []) (vs := []) r.hr rfl hp
  refine h.run (r.at a2 a1) (RO.ext q a2) fun ps ρ1 H1 mh1 us x1 r1 rp q1 => ?_
  split at q1
  · rename_i kvs hk hd
    split at q1
    · rename_i hlen
      obtain ⟨vs, z1, z2⟩ := pairsK_V hk rp
      obtain ⟨b, ws, e1, hb, e2, e3⟩ := r1.hr.dk hd (a3.ext x1)
      cases e1
      simp only [KRs] at e3
      subst e3
      have hx : Ext X.K ρ1 H1 ρ1 (upd H1 p (.dK (mergeK [] vs))) := ext_write e2 (by simp [Plain])
      obtain ⟨b1, b2⟩ := r1.hr.write (u := .dK (mergeK [] vs)) (o1 := .dk (mergeM [] kvs)) hd hb ⟨_, upd_same, (mergeM_V (xs := []) (ws := []) z1 (by simp only [KRs])).ext hx⟩
      refine ⟨e2, vs, z2, by rw [← KRs.length z1]; exact hlen, ?_⟩
      exact q1 _ _ b2 b1 _ ((a3.ext x1).ext b2)
    · exact q1.elim
  · exact q1.elim
def putD (d k v : MV) (h : MH) : Option MH := match d with
  | .ref i => match h[i]? with
    | some (.dk kvs) => match keyM k with
      | some k => if kvs.length < SZ then some (h.set i (.dk (putM kvs k v))) else none
      | none => none
    | some (.dt kvs) => match k with
      | .tup ks => match keysM ks with
        | some k => if kvs.length < SZ then some (h.set i (.dt (putM kvs k v))) else none
        | none => none
      | _ => none
    | _ => none
  | _ => none
def sPut (d k e : ME) : MS := fun s h => (e s h).bnS s fun v h1 => (d s h1).bnS s fun x h2 => (k s h2).bnS s fun y h3 => match putD x y v h3 with
  | some h4 => .nx s h4
  | none => .no
theorem putD_V {K : PySem.W.Frag} {ρ : List Addr} {H : Hp} {mh h4 : MH} {x y z : MV} {v w u : V} (hr : HR K G ρ H mh) (e : putD x y z mh = some h4) (rx : VR K G ρ H x v) (ry : VR K G ρ H y w) (rz : VR K G ρ H z u) :
    ∃ a H4, v = .ref a ∧ DPut H a w u H4 ∧ Ext K ρ H ρ H4 ∧ HR K G ρ H4 h4 := by
  unfold putD at e
  split at e
  · split at e
    · rename_i kvs q
      split at e
      · rename_i k hk
        split at e
        · rename_i hl
          cases e
          obtain ⟨a, vs, rfl, ha, g1, g2⟩ := hr.dk q rx
          have hx : Ext K ρ H ρ (upd H a (.dK (putK vs k u))) := ext_write g1 (by simp [Plain])
          obtain ⟨a1, a2⟩ := hr.write (u := .dK (putK vs k u)) (o1 := .dk (putM kvs k z)) q ha ⟨_, upd_same, (putM_V g2 rz).ext hx⟩
          have := keyM_V hk ry
          subst this
          exact ⟨a, _, rfl, DPut.k g1 (by rw [SZ_eq, ← KRs.length g2]; exact hl), a2, a1⟩
        · cases e
      · cases e
    · rename_i kvs q
      split at e
      · rename_i ks
        split at e
        · rename_i k hk
          split at e
          · rename_i hl
            cases e
            obtain ⟨a, vs, rfl, ha, g1, g2⟩ := hr.dt q rx
            have hx : Ext K ρ H ρ (upd H a (.dT (putK vs k u))) := ext_write g1 (by simp [Plain])
            obtain ⟨a1, a2⟩ := hr.write (u := .dT (putK vs k u)) (o1 := .dt (putM kvs k z)) q ha ⟨_, upd_same, (putM_V g2 rz).ext hx⟩
            simp only [VR] at ry
            obtain ⟨b, ws, rfl, h5, h6⟩ := ry
            have h7 := keysM_V hk h6
            subst h7
            exact ⟨a, _, rfl, DPut.t g1 h5 (by rw [SZ_eq, ← KRs.length g2]; exact hl), a2, a1⟩
          · cases e
        · cases e
      · cases e
    · cases e
  · cases e
def isDM (x : MV) (h : MH) : Bool := match x with
  | .ref i => match h[i]? with
    | some (.dk _) => true
    | some (.fdk _ _ _) => true
    | some (.dt _) => true
    | _ => false
  | _ => false
def eGet1 (d k : ME) : ME := fun s h => (d s h).bnd fun x h1 => if isDM x h1 = true then (k s h1).bnd fun y h2 => match dGet h2 x y with
  | some o => .ok (o.getD .non) h2
  | none => .no else .no
end
end Mo
namespace Mo
open PySem L2
theorem units1 {X : Cx} {k : Nat} (hr : Room k X.A) : X.A.units + 1 < cLine := by have := hr.units; omega
def fInA (x y : MV) (h : MH) : OV := if isDM y h = true then fDIn x y h else fIn x y h
def fNotInA (x y : MV) (h : MH) : OV := if isDM y h = true then fDNotIn x y h else fNotIn x y h
def fIxA (x y : MV) (h : MH) : OV := if isDM x h = true then fDGet x y h else fIx x y h
section
variable {X : Cx} {G : String → Option V} {W : WX} {a b i o : Expr} {ma mb : ME} {pos : Pos} {k : Nat}
theorem alt2 {g : MV → MV → MH → Bool} {f1 f2 : MV → MV → MH → OV} {e : Expr} {t1 t2 : TE} (h1 : PE X e t1) (h2 : PE X e t2)
    (i1 : ∀ σ H Q, RE X.K G W (e2 (fun x y h => if g x y h = true then f1 x y h else none) ma mb) σ H Q → t1 σ H Q)
    (i2 : ∀ σ H Q, RE X.K G W (e2 (fun x y h => if g x y h = true then none else f2 x y h) ma mb) σ H Q → t2 σ H Q) :
    PE X e (RE X.K G W (e2 (fun x y h => if g x y h = true then f1 x y h else f2 x y h) ma mb)) := by
  refine pe_imp (pe_alt h1 h2) fun σ H Q ⟨ρ, sm, mh, r, q⟩ => ?_
  unfold e2 at q
  cases ea : ma sm mh with
  | no => rw [ea] at q; exact q.elim
  | err x m =>
    refine .inl (i1 σ H Q ⟨ρ, sm, mh, r, ?_⟩)
    rw [ea] at q
    unfold e2; rw [ea]; exact q
  | ok x m =>
    rw [ea] at q
    cases eb : mb sm m with
    | no => simp only [Rz.bnd, eb] at q; exact q.elim
    | err x2 m2 =>
      refine .inl (i1 σ H Q ⟨ρ, sm, mh, r, ?_⟩)
      simp only [Rz.bnd, eb] at q
      unfold e2; simp only [Rz.bnd, ea, eb]; exact q
    | ok y m2 =>
      simp only [Rz.bnd, eb] at q
      by_cases hg : g x y m2 = true
      · refine .inl (i1 σ H Q ⟨ρ, sm, mh, r, ?_⟩)
        unfold e2; simp only [Rz.bnd, ea, eb, if_pos hg]
        rw [if_pos hg] at q; exact q
      · refine .inr (i2 σ H Q ⟨ρ, sm, mh, r, ?_⟩)
        unfold e2; simp only [Rz.bnd, ea, eb, if_neg hg]
        rw [if_neg hg] at q; exact q
theorem if_some {α : Type} {c : Prop} [Decidable c] {o : Option α} {z : α} (h : (if c then o else none) = some z) : o = some z := by
  split at h
  · exact h
  · cases h
theorem if_some' {α : Type} {c : Prop} [Decidable c] {o : Option α} {z : α} (h : (if c then none else o) = some z) : o = some z := by
  split at h
  · cases h
  · exact h
theorem op_dinR (hu : X.A.units + 1 < cLine) : OpR X (compareOp .In) (fun y x H Q => ∃ a o, x = .ref a ∧ DGet H a y o ∧ Q (.bl o.isSome) H) := by
  intro pins s σ H x y v u Q I rx ry h
  obtain ⟨a, o, rfl, g, q⟩ := h
  obtain rfl : u = Value.ref a := ry
  exact d_in hu I g rx fun s3 I3 => ⟨.bl o.isSome, H, I3, rfl, q⟩
theorem op_dnotinR (hu : X.A.units + 1 < cLine) : OpR X (compareOp .NotIn) (fun y x H Q => ∃ a o, x = .ref a ∧ DGet H a y o ∧ Q (.bl (!o.isSome)) H) := by
  intro pins s σ H x y v u Q I rx ry h
  obtain ⟨a, o, rfl, g, q⟩ := h
  obtain rfl : u = Value.ref a := ry
  exact d_notIn hu I g rx fun s3 I3 => ⟨.bl (!o.isSome), H, I3, rfl, q⟩
theorem units1' (hu : X.A.units + 64 < cLine) : X.A.units + 1 < cLine := by omega
abbrev rInD (r : R2) : R2 := fun y x H Q => r y x H Q ∨ ∃ a o, x = .ref a ∧ DGet H a y o ∧ Q (.bl o.isSome) H
abbrev rNotInD (r : R2) : R2 := fun y x H Q => r y x H Q ∨ ∃ a o, x = .ref a ∧ DGet H a y o ∧ Q (.bl (!o.isSome)) H
theorem o_inA (hu : X.A.units + 64 < cLine) : OpR X (compareOp .In) (rInD (rInA X.K false)) := (o_in hu).or (op_dinR (units1' hu))
theorem o_notInA (hu : X.A.units + 64 < cLine) : OpR X (compareOp .NotIn) (rNotInD (rInA X.K true)) := (o_notIn hu).or (op_dnotinR (units1' hu))
theorem s_inA {r : R2} (hs : R2S X.K G r fIn) : R2S X.K G (fun y x H Q => r y x H Q ∨ ∃ a o, x = .ref a ∧ DGet H a y o ∧ Q (.bl o.isSome) H) fInA := by
  intro ρ H mh mh1 x y z v w Q hr rx ry e k
  unfold fInA at e
  split at e
  · unfold fDIn at e
    split at e
    · rename_i o hd
      cases e
      obtain ⟨b, r, rfl, g1, g2, g3⟩ := dGet_V hr hd ry rx
      refine .inr ⟨b, r, rfl, g1, k _ _ Ext.refl hr _ ?_⟩
      simp only [VR]
      cases o with
      | none => rw [g3 rfl]; rfl
      | some z => obtain ⟨u, rfl, _⟩ := g2 z rfl; rfl
    · cases e
  · exact .inl (hs hr rx ry e k)
theorem s_notInA {r : R2} (hs : R2S X.K G r fNotIn) : R2S X.K G (fun y x H Q => r y x H Q ∨ ∃ a o, x = .ref a ∧ DGet H a y o ∧ Q (.bl (!o.isSome)) H) fNotInA := by
  intro ρ H mh mh1 x y z v w Q hr rx ry e k
  unfold fNotInA at e
  split at e
  · unfold fDNotIn at e
    split at e
    · rename_i o hd
      cases e
      obtain ⟨b, r, rfl, g1, g2, g3⟩ := dGet_V hr hd ry rx
      refine .inr ⟨b, r, rfl, g1, k _ _ Ext.refl hr _ ?_⟩
      simp only [VR]
      cases o with
      | none => rw [g3 rfl]; rfl
      | some z => obtain ⟨u, rfl, _⟩ := g2 z rfl; rfl
    · cases e
  · exact .inl (hs hr rx ry e k)
theorem m_ixA (hr : Room k X.A) (ha : PE X a (RE X.K G W ma)) (hb : PE X b (RE X.K G W mb)) (hs : PlainIx b := by exact fun _ _ => rfl) (hs2 : NoSl b := by exact fun _ _ => rfl) : PE X (.Subscript a b pos) (RE X.K G W (e2 fIxA ma mb)) := by
  refine alt2 (G := G) (W := W) (g := fun x _ h => isDM x h) (f1 := fDGet) (f2 := fIx) (pe_dget (units1 hr) ha hb hs2) (pe_ix ix_seq ha hb hs) (fun σ H Q ⟨ρ, sm, mh, r0, q⟩ => ?_) fun σ H Q h => op_re (W := W) (f := fun x y h => if isDM x h = true then none else fIx x y h) (fun hr rx ry e k => s_ix hr rx ry (if_some' e) k) σ H Q h
  refine re_bnd r0 q fun x ρ1 H1 mh1 v x1 r1 rv q1 => ?_
  refine re_bnd r1 q1 fun y ρ2 H2 mh2 w x2 r2 rw' q2 => ?_
  obtain ⟨z, h1, e, k⟩ := ro_lift q2
  have e := if_some e
  unfold fDGet at e
  split at e
  · rename_i o hd
    cases e
    obtain ⟨b, r, rfl, g1, g2, g3⟩ := dGet_V r2.hr hd (rv.ext x2) rw'
    obtain ⟨u, rfl, h⟩ := g2 z rfl
    exact ⟨b, u, rfl, g1, k _ _ Ext.refl r2.hr _ h⟩
  · cases e
end
def eKGet (tab : List (Str × MV)) (m : ME) : ME := fun s h => (m s h).bnd fun x h1 => match x with
  | .str z => match tab.lookup z with
    | some v => .ok v h1
    | none => .no
  | _ => .no
structure TabOk (K : PySem.W.Frag) (G : String → Option V) (w : World) (d : Addr) (tab : List (Str × MV)) : Prop where
  kd : ∃ es n, KDict K w d es n
  at_ : ∀ z v, tab.lookup z = some v → ∃ u v1, PySem.W.nsIn K d z = some (some u) ∧ RelV v1 u ∧ ∀ ρ H, VR K G ρ H v v1
section
variable {X : Cx} {G : String → Option V} {W : WX} {e : Expr} {me : ME} {x : Str} {p apos cpos : Pos} {d : Addr} {tab : List (Str × MV)}
end
structure HeldM (P : Program) (w : World) (K : PySem.W.Frag) (mg : Str → Option Value) (base : Heap) (G : String → Option V) (k n : Nat) (p : String × MF) : Prop where
  ex : ∃ (fa : Addr) (fd : FuncData) (ps : List Str), G p.1 = some (.ref fa) ∧ FnOk P w K mg base (L2.CX P w) k fa fd ps (SpM K G n p.2) ∧ PySem.W.keepIn K (.ref fa) = true ∧ Binds K fd ps []
def eCallL (i n : Nat) (tab : List (String × MF)) (ms : MEs) : ME := fun s h => match s[i]? with
  | some (some (.glo g)) => match tab.lookup g with
    | some f => call n f ms s h
    | none => .no
  | _ => .no
theorem lookup_mem {α : Type} {g : String} {f : α} : ∀ {tab : List (String × α)}, tab.lookup g = some f → (g, f) ∈ tab
  | [], h => by cases h
  | (a, b) :: r, h => by
    simp only [List.lookup] at h
    split at h
    · rename_i e
      cases h
      have : g = a := by simpa using e
      subst this
      exact List.mem_cons_self ..
    · exact List.mem_cons_of_mem _ (lookup_mem h)
section
variable {X : Cx} {CX : CXT} {k i n : Nat} {f : Addr} {fd : FuncData} {ps : List Str} {sp : Sp} {E : St → XK} {x : Str} {p pos : Pos} {e : Expr} {es : List Expr} {t : TA} {G : String → Option V} {W : WX} {ms : MEs} {tab : List (String × MF)}
end
end Mo
namespace Mo
open PySem L2
mutual
def noref : MV → Bool
  | .ref _ => false
  | .exa _ _ _ => false
  | .tup xs => norefs xs
  | .ktp xs => norefs xs
  | .frl xs => norefs xs
  | _ => true
def norefs : List MV → Bool
  | [] => true
  | x :: xs => noref x && norefs xs
end
def norefO : MO → Bool
  | .lst xs => norefs xs
  | .dk kvs => norefs (kvs.map (·.2))
  | .dt kvs => norefs (kvs.map (·.2))
  | .ins _ fs => norefs (fs.map (·.2))
  | .xd _ fs => norefs (fs.map (·.2))
  | .dx _ _ => true
  | .fdk _ _ kvs => norefs (kvs.map (·.2))
open Classical in
noncomputable def gc (f : MF) : MF := fun xs h => match f xs h with
  | .ok v h2 => if noref v = true ∧ ∃ g, h2 = h ++ g then .ok v h else
    if hx : ∃ o k g, v = .ref (h.length + k) ∧ h2 = h ++ g ∧ g[k]? = some o ∧ norefO o = true then .ok (.ref h.length) (h ++ [hx.choose]) else .ok v h2
  | r => r
theorem gc_ok {f : MF} {xs : List MV} {h g : MH} {v : MV} (e : f xs h = .ok v (h ++ g)) (hn : noref v = true) : gc f xs h = .ok v h := by
  unfold gc
  rw [e]
  exact if_pos ⟨hn, g, rfl⟩
theorem gc_new {f : MF} {xs : List MV} {h g : MH} {k : Nat} {o : MO} (e : f xs h = .ok (.ref (h.length + k)) (h ++ g)) (hk : g[k]? = some o) (hn : norefO o = true) : gc f xs h = .ok (.ref h.length) (h ++ [o]) := by
  have hx : ∃ o' k' g', MV.ref (h.length + k) = .ref (h.length + k') ∧ h ++ g = h ++ g' ∧ g'[k']? = some o' ∧ norefO o' = true := ⟨o, k, g, rfl, rfl, hk, hn⟩
  unfold gc
  rw [e]
  dsimp only
  rw [if_neg (by intro z; exact absurd z.1 (by simp [noref])), dif_pos hx]
  obtain ⟨k', g', h1, h2, h3, h4⟩ := hx.choose_spec
  have hk' : k = k' := by
    have := MV.ref.inj h1
    omega
  have hg : g = g' := List.append_cancel_left h2
  subst hg hk'
  rw [hk] at h3
  rw [← Option.some.inj h3]
section
variable {K : PySem.W.Frag} {G : String → Option V} {ρ t : List Addr} {H H1 : Hp}
mutual
theorem VR.noref : ∀ {m : MV} {v : V}, noref m = true → VR K G ρ H m v → ∀ {ρ1 : List Addr}, VR K G ρ1 H m v
  | .non, _, _, h, _ => by simpa [VR] using h
  | .bl _, _, _, h, _ => by simpa [VR] using h
  | .int _, _, _, h, _ => by simpa [VR] using h
  | .str _, _, _, h, _ => by simpa [VR] using h
  | .byt _, _, _, h, _ => by simpa [VR] using h
  | .glo _, _, _, h, _ => by simpa [VR] using h
  | .ty _, _, _, h, _ => by simpa [VR] using h
  | .exa _ _ _, _, e, _, _ => by simp [Mo.noref] at e
  | .ref _, _, e, h, _ => by simp [Mo.noref] at e
  | .tup xs, _, e, h, _ => by
    simp only [VR] at h ⊢
    simp only [Mo.noref] at e
    obtain ⟨a, vs, e1, q, r⟩ := h
    exact ⟨a, vs, e1, q, VRs.noref e r⟩
  | .ktp xs, _, e, h, _ => by
    simp only [VR] at h ⊢
    simp only [Mo.noref] at e
    obtain ⟨a, vs, e1, q, r⟩ := h
    exact ⟨a, vs, e1, q, VRs.noref e r⟩
  | .frl xs, _, e, h, _ => by
    simp only [VR] at h ⊢
    simp only [Mo.noref] at e
    obtain ⟨a, vs, e1, q, r⟩ := h
    exact ⟨a, vs, e1, q, VRs.noref e r⟩
theorem VRs.noref : ∀ {ms : List MV} {vs : List V}, norefs ms = true → VRs K G ρ H ms vs → ∀ {ρ1 : List Addr}, VRs K G ρ1 H ms vs
  | [], _, _, h, _ => by simpa [VRs] using h
  | m :: ms, _, e, h, _ => by
    simp only [VRs] at h ⊢
    simp only [Mo.norefs, Bool.and_eq_true] at e
    obtain ⟨v, r, e1, q, t⟩ := h
    exact ⟨v, r, e1, VR.noref e.1 q, VRs.noref e.2 t⟩
end
theorem KRs.noref {κ : Type} {ρ1 : List Addr} : ∀ {ms : List (κ × MV)} {vs : List (κ × V)}, norefs (ms.map (·.2)) = true → KRs K G ρ H id ms vs → KRs K G ρ1 H id ms vs
  | [], _, _, h => h
  | m :: ms, _, e, h => by
    simp only [List.map_cons, norefs, Bool.and_eq_true] at e
    obtain ⟨v, r, e1, q, t⟩ := h
    exact ⟨v, r, e1, VR.noref e.1 q, KRs.noref e.2 t⟩
theorem OR.noref {o : MO} {a : Addr} {ρ1 : List Addr} (e : norefO o = true) (h : OR K G ρ H a o) : OR K G ρ1 H a o := by
  cases o with
  | lst xs => obtain ⟨vs, q, r⟩ := h; exact ⟨vs, q, r.noref e⟩
  | dk xs => obtain ⟨vs, q, r⟩ := h; exact ⟨vs, q, KRs.noref e r⟩
  | dt xs => obtain ⟨vs, q, r⟩ := h; exact ⟨vs, q, KRs.noref e r⟩
  | ins c fs => obtain ⟨C, dx, vs, g, q, r⟩ := h; exact ⟨C, dx, vs, g, q, KRs.noref e r⟩
  | xd c fs => obtain ⟨vs, q, r⟩ := h; exact ⟨vs, q, KRs.noref e r⟩
  | dx hs ks => exact h
  | fdk od vs kvs => obtain ⟨q, r⟩ := h; exact ⟨q, KRs.noref e r⟩
mutual
theorem VR.low : ∀ {m : MV} {u v : V}, VR K G ρ H m u → VR K G (ρ ++ t) H1 m v → VR K G ρ H1 m v
  | .non, _, _, _, h => by simpa [VR] using h
  | .bl _, _, _, _, h => by simpa [VR] using h
  | .int _, _, _, _, h => by simpa [VR] using h
  | .str _, _, _, _, h => by simpa [VR] using h
  | .byt _, _, _, _, h => by simpa [VR] using h
  | .glo _, _, _, _, h => by simpa [VR] using h
  | .ty _, _, _, _, h => by simpa [VR] using h
  | .exa _ _ _, _, _, l, h => by
    simp only [VR] at h l ⊢
    refine ⟨h.1, ?_⟩
    rw [← h.2, List.getElem?_append_left (List.getElem?_eq_some_iff.mp l.2).1]
  | .ref i, _, _, l, h => by
    simp only [VR] at h l ⊢
    obtain ⟨a, e, q⟩ := h
    obtain ⟨b, _, q2⟩ := l
    refine ⟨a, e, ?_⟩
    rw [← q, List.getElem?_append_left (List.getElem?_eq_some_iff.mp q2).1]
  | .tup xs, _, _, l, h => by
    simp only [VR] at h l ⊢
    obtain ⟨a, vs, e, q, r⟩ := h
    obtain ⟨_, us, _, _, l⟩ := l
    exact ⟨a, vs, e, q, VRs.low l r⟩
  | .ktp xs, _, _, l, h => by
    simp only [VR] at h l ⊢
    obtain ⟨a, vs, e, q, r⟩ := h
    obtain ⟨_, us, _, _, l⟩ := l
    exact ⟨a, vs, e, q, VRs.low l r⟩
  | .frl xs, _, _, l, h => by
    simp only [VR] at h l ⊢
    obtain ⟨a, vs, e, q, r⟩ := h
    obtain ⟨_, us, _, _, l⟩ := l
    exact ⟨a, vs, e, q, VRs.low l r⟩
theorem VRs.low : ∀ {ms : List MV} {us vs : List V}, VRs K G ρ H ms us → VRs K G (ρ ++ t) H1 ms vs → VRs K G ρ H1 ms vs
  | [], _, _, _, h => by simpa [VRs] using h
  | m :: ms, _, _, l, h => by
    simp only [VRs] at h l ⊢
    obtain ⟨v, r, e1, q, t⟩ := h
    obtain ⟨_, _, _, l1, l2⟩ := l
    exact ⟨v, r, e1, VR.low l1 q, VRs.low l2 t⟩
end
theorem KRs.low {κ : Type} : ∀ {ms : List (κ × MV)} {us vs : List (κ × V)}, KRs K G ρ H id ms us → KRs K G (ρ ++ t) H1 id ms vs → KRs K G ρ H1 id ms vs
  | [], _, _, _, h => h
  | m :: ms, _, _, l, h => by
    obtain ⟨v, r, e1, q, t⟩ := h
    obtain ⟨_, _, _, l1, l2⟩ := l
    exact ⟨v, r, e1, VR.low l1 q, KRs.low l2 t⟩
theorem OR.low {o : MO} {a b : Addr} (l : OR K G ρ H b o) (h : OR K G (ρ ++ t) H1 a o) : OR K G ρ H1 a o := by
  cases o with
  | lst xs => obtain ⟨vs, q, r⟩ := h; obtain ⟨us, _, l⟩ := l; exact ⟨vs, q, l.low r⟩
  | dk xs => obtain ⟨vs, q, r⟩ := h; obtain ⟨us, _, l⟩ := l; exact ⟨vs, q, KRs.low l r⟩
  | dt xs => obtain ⟨vs, q, r⟩ := h; obtain ⟨us, _, l⟩ := l; exact ⟨vs, q, KRs.low l r⟩
  | ins c fs => obtain ⟨C, dx, vs, g, q, r⟩ := h; obtain ⟨_, _, us, _, _, l⟩ := l; exact ⟨C, dx, vs, g, q, KRs.low l r⟩
  | xd c fs => obtain ⟨vs, q, r⟩ := h; obtain ⟨us, _, l⟩ := l; exact ⟨vs, q, KRs.low l r⟩
  | dx hs ks => exact h
  | fdk od vs kvs => obtain ⟨q, r⟩ := h; obtain ⟨_, l⟩ := l; exact ⟨q, KRs.low l r⟩
theorem HR.low {mh g : MH} (h0 : HR K G ρ H mh) (h1 : HR K G (ρ ++ t) H1 (mh ++ g)) : HR K G ρ H1 mh := by
  refine ⟨h0.len, h0.nd, fun i o e => ?_⟩
  obtain ⟨b, hb, l⟩ := h0.obj i o e
  have hi := (List.getElem?_eq_some_iff.mp e).1
  obtain ⟨a, ha, q⟩ := h1.obj i o (by rw [List.getElem?_append_left hi]; exact e)
  rw [List.getElem?_append_left (by rw [h0.len]; exact hi)] at ha
  exact ⟨a, ha, OR.low l q⟩
theorem gc_sp {n : Nat} {f : MF} {vs : List V} {H : Hp} {Q : VK} {E : XK} (h : SpM K G n (gc f) vs H Q E) : SpM K G n f vs H Q E := by
  obtain ⟨ρ, xs, mh, hr, rv, hl, q⟩ := h
  refine ⟨ρ, xs, mh, hr, rv, hl, ?_⟩
  unfold gc at q
  cases e : f xs mh with
  | no => rw [e] at q; exact q
  | err x m => rw [e] at q; exact q
  | ok v h2 =>
    rw [e] at q
    dsimp only at q
    split at q
    · rename_i hc
      obtain ⟨hn, g, rfl⟩ := hc
      intro ρ1 H1 x hr1 w rw'
      obtain ⟨⟨t, rfl⟩, x2, x3⟩ := x
      exact q ρ H1 ⟨⟨[], by simp⟩, x2, x3⟩ (hr.low hr1) w (VR.noref hn rw')
    · split at q
      · rename_i hx
        obtain ⟨k, g, h1, h2', h3, h4⟩ := hx.choose_spec
        generalize hx.choose = o at q h3 h4
        subst h1 h2'
        intro ρ1 H1 x hr1 w rw'
        obtain ⟨⟨t, rfl⟩, x2, x3⟩ := x
        simp only [VR] at rw'
        obtain ⟨a, rfl, ha⟩ := rw'
        have h0 := hr.low hr1
        have hak : t[k]? = some a := by
          rw [List.getElem?_append_right (by rw [hr.len]; omega)] at ha
          rw [← ha]; congr 1; rw [hr.len]; omega
        have hmem : a ∈ t := List.mem_of_getElem? hak
        have hna : a ∉ ρ := fun hm => by
          have hnd := hr1.nd
          rw [List.nodup_append] at hnd
          exact hnd.2.2 a hm a hmem rfl
        obtain ⟨b, hb, ob⟩ := hr1.obj (mh.length + k) o (by rw [List.getElem?_append_right (by omega)]; rw [← h3]; congr 1; omega)
        have hab : b = a := by
          rw [List.getElem?_append_right (by rw [hr.len]; omega)] at hb
          have : t[k]? = some b := by rw [← hb]; congr 1; rw [hr.len]; omega
          rw [hak] at this
          exact (Option.some.inj this).symm
        subst hab
        refine q (ρ ++ [b]) H1 ⟨⟨[b], rfl⟩, x2, x3⟩ ⟨by simp [hr.len], ?_, fun i o' e' => ?_⟩ _ (by simp only [VR]; exact ⟨b, rfl, by rw [← hr.len]; simp⟩)
        · rw [List.nodup_append]
          exact ⟨hr.nd, by simp, fun c hc d hd e => by simp at hd; subst hd; subst e; exact hna hc⟩
        · by_cases hi : i < mh.length
          · rw [List.getElem?_append_left hi] at e'
            obtain ⟨c, hc, oc⟩ := h0.obj i o' e'
            exact ⟨c, by rw [List.getElem?_append_left (by rw [hr.len]; exact hi)]; exact hc, OR.keep ⟨⟨[b], rfl⟩, fun _ _ z => z, fun _ _ z => z⟩ (fun _ z => z) oc⟩
          · have hz : i = mh.length ∧ o = o' := by
              rw [List.getElem?_append_right (by omega)] at e'
              have hlt := (List.getElem?_eq_some_iff.mp e').1
              simp at hlt
              have hz : i - mh.length = 0 := by omega
              rw [hz] at e'
              simp at e'
              exact ⟨by omega, e'⟩
            obtain ⟨rfl, rfl⟩ := hz
            exact ⟨b, by rw [← hr.len]; simp, OR.noref h4 ob⟩
      · exact q
end
section
variable {P : Program} {w : World} {K : PySem.W.Frag} {mg : Str → Option Value} {base : Heap} {G : String → Option V}
theorem fn_mD {x qual : Str} {params : Arguments} {body : List Stmt} {scope : Scope} {dvs : List V} {kws : List (Str × V)} {f : Addr} {fd : FuncData} {N ps : List Str} {k : Nat} {b : MS} (F : FunD K x qual params body scope dvs kws f fd) (S : FnScope N ps scope)
    (hb : ∀ (cdv : Value) (A : Around) (outer : List Env) (s : Shared) (H : Hp) (E : XK), Room k (A.deeper (PyProof.Rows.envOfC qual scope s.heap.objs.size f cdv)) →
      PSs (cxOf (L2.CX P w) P w K mg base N qual scope f cdv A outer s H E) body (RS K G (fun cls d _ H => E cls d H) b)) :
    FnOk P w K mg base (L2.CX P w) (k + 1) f fd ps (SpM K G ps.length (mDef N.length b)) := by
  refine F.ok S (fun vs H Q E h => h.choose_spec.choose_spec.choose_spec.2.2.1) (fun cdv A outer s H vs Q E hr h => ⟨_, hb cdv A outer s H E hr, ?_⟩)
  obtain ⟨ρ, xs, mh, h1, h2, h3, h4⟩ := h
  refine ⟨ρ, _, mh, ⟨h1, h2.at (n := N.length)⟩, ?_⟩
  unfold mDef at h4
  cases e : b (xs.map some ++ List.replicate (N.length - xs.length) none) mh with
  | nx s m => rw [e] at h4; exact fun ρ1 H1 σ1 x hr sr => h4 ρ1 H1 x hr _ (by simp [VR])
  | rt v m => rw [e] at h4; exact fun ρ1 H1 v1 x hr rv => h4 ρ1 H1 x hr v1 rv
  | bk s m => rw [e] at h4; exact False.elim h4
  | ct s m => rw [e] at h4; exact False.elim h4
  | err v s m => rw [e] at h4; exact fun ρ1 H1 σ1 cls d x hr sr er => h4 ρ1 H1 cls d x hr er
  | no => rw [e] at h4; exact h4
theorem fn_gc {f : Addr} {fd : FuncData} {ps : List Str} {k n : Nat} {m : MF} (F : FnOk P w K mg base (L2.CX P w) k f fd ps (SpM K G n m)) : FnOk P w K mg base (L2.CX P w) k f fd ps (SpM K G n (gc m)) := F.imp fun _ _ _ _ h => gc_sp h
end
end Mo
namespace Mo
open PySem L2
theorem ofString_inj {a b : String} (h : Str.ofString a = Str.ofString b) : a = b := by
  rw [PySem.Str.ofString_eq_toList, PySem.Str.ofString_eq_toList] at h
  have h1 := congrArg (fun z : Str => z.cps.toList) h
  simp only [List.toList_toArray] at h1
  have hinj : ∀ {x y : Char}, x.toNat = y.toNat → x = y := fun {x y} e => Char.ext (UInt32.toNat_inj.mp e)
  have : ∀ {xs ys : List Char}, xs.map Char.toNat = ys.map Char.toNat → xs = ys := by
    intro xs
    induction xs with
    | nil => intro ys e; cases ys with
      | nil => rfl
      | cons _ _ => simp at e
    | cons x xs ih => intro ys e; cases ys with
      | nil => simp at e
      | cons y ys => simp at e; rw [hinj e.1, ih (by simpa using e.2)]
  exact String.toList_inj.mp (this h1)
@[simp] theorem ofString_eq {a b : String} : (Str.ofString a = Str.ofString b) = (a = b) := propext ⟨ofString_inj, fun h => by rw [h]⟩
@[simp] theorem ofString_beq {a b : String} : (Str.ofString a == Str.ofString b) = (a == b) := by
  by_cases h : a = b
  · subst h; simp
  · have h2 : ¬ Str.ofString a = Str.ofString b := fun e => h (ofString_inj e)
    rw [beq_eq_false_iff_ne.mpr h, beq_eq_false_iff_ne.mpr h2]
section
variable {s s1 : Lo} {h h1 : MH} {x y v z : MV} {e : MX}
def K1 (r : Rz MV) (f : MV → MH → OV) : Rz MV := r.bnd fun x h1 => lift (f x h1)
@[simp] theorem e1_ev {f a} : e1 f a s h = K1 (a s h) f := rfl
@[simp] theorem K1_ok {f} : K1 (.ok x h) f = lift (f x h) := rfl
@[simp] theorem K1_err {f} : K1 (.err e h) f = .err e h := rfl
@[simp] theorem fNeg_int {i} : fNeg (.int i) h = some (.int (-i), h) := rfl
@[simp] theorem fInt_bl {b} : fInt [.bl b] h = some (.int (if b then 1 else 0), h) := rfl
@[simp] theorem sNo_ev : sNo s h = .no := rfl
@[simp] theorem eNo_ev : eNo s h = .no := rfl
theorem putI_ref {f cs i c fs} (e : h[i]? = some (.ins c fs)) : putI f cs (.ref i) v h = if c ∈ cs ∧ fs.length < 1000 then some (h.set i (.ins c (putFM f v fs))) else none := by simp [putI, e]
@[simp] theorem putFM_nil {f} : putFM f v [] = [(f, v)] := rfl
@[simp] theorem putFM_cons {f g r} : putFM f v ((g, x) :: r) = if g = f then (g, v) :: r else (g, x) :: putFM f v r := rfl
def KFl (r : Rz MV) (o : ME) (f : Str) (cs : List String) (s : Lo) : SR := r.bnS s fun v h1 => (o s h1).bnS s fun x h2 => match putI f cs x v h2 with
  | some h3 => .nx s h3
  | none => .no
def KFl2 (r : Rz MV) (v : MV) (f : Str) (cs : List String) (s : Lo) : SR := r.bnS s fun x h2 => match putI f cs x v h2 with
  | some h3 => .nx s h3
  | none => .no
def KNx (o : Option MH) (s : Lo) : SR := match o with
  | some h3 => .nx s h3
  | none => .no
@[simp] theorem sFldM_ev {o e f cs} : sFldM o e f cs s h = KFl (e s h) o f cs s := rfl
@[simp] theorem KFl_ok {o f cs} : KFl (.ok v h) o f cs s = KFl2 (o s h) v f cs s := rfl
@[simp] theorem KFl_err {o f cs} : KFl (.err e h) o f cs s = .err e s h := rfl
@[simp] theorem KFl2_ok {f cs} : KFl2 (.ok x h) v f cs s = KNx (putI f cs x v h) s := rfl
@[simp] theorem KNx_some : KNx (some h) s = .nx s h := rfl
def KMk (r : Rz (List MV)) (c : String) (n l N : Nat) (f : MF) (g : List MV → List MV → List MV) (mk : MEs) (s : Lo) : Rz MV := r.bnd fun xs h1 => (mk s h1).bnd fun ys h2 =>
  if xs.length = n ∧ ys.length = l ∧ (g (.ref h2.length :: xs) ys).length = N then (f (g (.ref h2.length :: xs) ys) (h2 ++ [.ins c []])).bnd fun v h3 => match v with
    | .non => .ok (.ref h2.length) h3
    | _ => .no
  else .no
def KMk3 (r : Rz MV) (a : Nat) : Rz MV := r.bnd fun v h3 => match v with
    | .non => .ok (.ref a) h3
    | _ => .no
def KMk2 (r : Rz (List MV)) (xs : List MV) (c : String) (n l N : Nat) (f : MF) (g : List MV → List MV → List MV) : Rz MV := r.bnd fun ys h2 =>
  if xs.length = n ∧ ys.length = l ∧ (g (.ref h2.length :: xs) ys).length = N then KMk3 (f (g (.ref h2.length :: xs) ys) (h2 ++ [.ins c []])) h2.length else .no
@[simp] theorem eMk_ev {c n l N f g ms mk} : eMk c n l N f g ms mk s h = KMk (ms s h) c n l N f g mk s := rfl
@[simp] theorem KMk_ok {c n l N f g mk xs} : KMk (.ok xs h) c n l N f g mk s = KMk2 (mk s h) xs c n l N f g := rfl
@[simp] theorem KMk_err {c n l N f g mk} : KMk (.err e h) c n l N f g mk s = .err e h := rfl
@[simp] theorem KMk2_ok {c n l N f g xs ys} : KMk2 (.ok ys h) xs c n l N f g = if xs.length = n ∧ ys.length = l ∧ (g (.ref h.length :: xs) ys).length = N then KMk3 (f (g (.ref h.length :: xs) ys) (h ++ [.ins c []])) h.length else .no := rfl
@[simp] theorem KMk2_err {c n l N f g xs} : KMk2 (.err e h) xs c n l N f g = .err e h := rfl
@[simp] theorem KMk3_ok {a} : KMk3 (.ok .non h) a = .ok (.ref a) h := rfl
@[simp] theorem KMk3_err {a} : KMk3 (.err e h) a = .err e h := rfl
@[simp] theorem gPos_ev {xs ys} : gPos xs ys = xs := rfl
@[simp] theorem gPat_ev {p d xs ys} : gPat p d xs ys = pickL p xs d ys := rfl
@[simp] theorem pickL_nil {α : Type} {us mv ws : List α} : pickL [] us mv ws = [] := rfl
def KMt (r : Rz MV) (c : String) (m : Str) (n : Nat) (f : MF) (as : MEs) (s : Lo) : Rz MV := r.bnd fun x h1 => match x with
  | .ref i => match h1[i]? with
    | some (.ins c' fs) => if c' = c ∧ fs.lookup m = none then (as s h1).bnd fun xs h2 => if xs.length + 1 = n then f (x :: xs) h2 else .no else .no
    | _ => .no
  | _ => .no
def KMt2 (r : Rz (List MV)) (n : Nat) (f : MF) (x : MV) : Rz MV := r.bnd fun xs h2 => if xs.length + 1 = n then f (x :: xs) h2 else .no
@[simp] theorem eMeth_ev {c m n f a as} : eMeth c m n f a as s h = KMt (a s h) c m n f as s := rfl
theorem KMt_ref {c m n f as i c' fs} (e : h[i]? = some (.ins c' fs)) : KMt (.ok (.ref i) h) c m n f as s = if c' = c ∧ fs.lookup m = none then KMt2 (as s h) n f (.ref i) else .no := by
  simp only [KMt, Rz.bnd, e, KMt2]
@[simp] theorem KMt2_ok {n f xs} : KMt2 (.ok xs h) n f x = if xs.length + 1 = n then f (x :: xs) h else .no := rfl
@[simp] theorem KMt2_err {n f} : KMt2 (.err e h) n f x = .err e h := rfl
def KS (r : Rz MV) (l u : MP) (s : Lo) : Rz MV := r.bnd fun x h1 => (l s h1).bnd fun lo h2 => (u s h2).bnd fun hi h3 => lift (fSl x lo hi h3)
def KS2 (r : Rz (Option Int)) (x : MV) (u : MP) (s : Lo) : Rz MV := r.bnd fun lo h2 => (u s h2).bnd fun hi h3 => lift (fSl x lo hi h3)
def KS3 (r : Rz (Option Int)) (x : MV) (lo : Option Int) : Rz MV := r.bnd fun hi h3 => lift (fSl x lo hi h3)
@[simp] theorem eSl_ev {a l u} : eSl a l u s h = KS (a s h) l u s := rfl
@[simp] theorem KS_ok {l u} : KS (.ok x h) l u s = KS2 (l s h) x u s := rfl
@[simp] theorem KS2_ok {lo u} : KS2 (.ok lo h) x u s = KS3 (u s h) x lo := rfl
@[simp] theorem KS3_ok {lo hi} : KS3 (.ok hi h) x lo = lift (fSl x lo hi h) := rfl
@[simp] theorem pNo_ev : pNo s h = .ok none h := rfl
def KPi (r : Rz MV) : Rz (Option Int) := r.bnd fun v h1 => match v with
  | .int i => .ok (some i) h1
  | _ => .no
@[simp] theorem pIs_ev {a} : pIs a s h = KPi (a s h) := rfl
@[simp] theorem KPi_ok {i} : KPi (.ok (.int i) h) = .ok (some i) h := rfl
theorem fSl_str {lo hi} {z : Str} (hz : z.length ≤ SZ) : fSl (.str z) lo hi h = some (.str (cutS z lo hi), h) := by simp [fSl, hz]
theorem fSl_ref {lo hi i xs} (e : h[i]? = some (.lst xs)) : fSl (.ref i) lo hi h = some (.ref h.length, h ++ [.lst (cutM xs lo hi)]) := by simp [fSl, e]
theorem fList_ref {i xs} (e : h[i]? = some (.lst xs)) : fList [.ref i] h = some (.ref h.length, h ++ [.lst xs]) := by simp [fList, seqOf, e]
@[simp] theorem fList_tup {xs} : fList [.tup xs] h = some (.ref h.length, h ++ [.lst xs]) := rfl
@[simp] theorem fList_ktp {xs} : fList [.ktp xs] h = some (.ref h.length, h ++ [.lst xs]) := rfl
theorem fAdd_ref {i j xs ys} (e1 : h[i]? = some (.lst xs)) (e2 : h[j]? = some (.lst ys)) : fAdd (.ref i) (.ref j) h = if xs.length + ys.length ≤ SZ then some (.ref h.length, h ++ [.lst (xs ++ ys)]) else none := by simp [fAdd, e1, e2]
@[simp] theorem fAdd_str {a b : Str} : fAdd (.str a) (.str b) h = if a.length + b.length ≤ SZ then some (.str (a ++ b), h) else none := rfl
@[simp] theorem eDk_ev : eDk s h = .ok (.ref h.length) (h ++ [.dk []]) := rfl
@[simp] theorem eDt_ev : eDt s h = .ok (.ref h.length) (h ++ [.dt []]) := rfl
@[simp] theorem dNil_ev : dNil s h = .ok [] h := rfl
def KD1 (r : Rz MV) (b : ME) (t : MPs) (s : Lo) : Rz (List (MV × MV)) := r.bnd fun x h1 => (b s h1).bnd fun y h2 => (t s h2).bnd fun ps h3 => .ok ((x, y) :: ps) h3
def KD2 (r : Rz MV) (x : MV) (t : MPs) (s : Lo) : Rz (List (MV × MV)) := r.bnd fun y h2 => (t s h2).bnd fun ps h3 => .ok ((x, y) :: ps) h3
def KD3 (r : Rz (List (MV × MV))) (x y : MV) : Rz (List (MV × MV)) := r.bnd fun ps h3 => .ok ((x, y) :: ps) h3
@[simp] theorem dCons_ev {a b r} : dCons a b r s h = KD1 (a s h) b r s := rfl
@[simp] theorem KD1_ok {b t} : KD1 (.ok x h) b t s = KD2 (b s h) x t s := rfl
@[simp] theorem KD2_ok {t} : KD2 (.ok y h) x t s = KD3 (t s h) x y := rfl
@[simp] theorem KD3_ok {ps} : KD3 (.ok ps h) x y = .ok ((x, y) :: ps) h := rfl
def KDs (r : Rz (List (MV × MV))) (n : Nat) : Rz MV := r.bnd fun ps h1 => match pairsK ps, h1[n]? with
  | some kvs, some (.dk []) => if kvs.length ≤ 15 then .ok (.ref n) (h1.set n (.dk (mergeM [] kvs))) else .no
  | _, _ => .no
@[simp] theorem eDisp_ev {ps} : eDisp ps s h = KDs (ps s (h ++ [.dk []])) h.length := rfl
theorem KDs_ok {ps n kvs} (hk : pairsK ps = some kvs) (hd : h[n]? = some (.dk [])) : KDs (.ok ps h) n = if kvs.length ≤ 15 then .ok (.ref n) (h.set n (.dk (mergeM [] kvs))) else .no := by
  simp only [KDs, Rz.bnd, hk, hd]
def KPc (k : Option Key) (y : MV) (r : Option (List (Key × MV))) : Option (List (Key × MV)) := match k, r with
  | some k, some ks => some ((k, y) :: ks)
  | _, _ => none
@[simp] theorem pairsK_nil : pairsK [] = some [] := rfl
@[simp] theorem pairsK_cons {r} : pairsK ((x, y) :: r) = KPc (keyM x) y (pairsK r) := rfl
@[simp] theorem KPc_some {k r} : KPc (some k) y (some r) = some ((k, y) :: r) := rfl
@[simp] theorem keyM_str {z} : keyM (.str z) = some (.inr z) := rfl
@[simp] theorem keyM_int {z} : keyM (.int z) = some (.inl z) := rfl
@[simp] theorem keysM_nil : keysM [] = some [] := rfl
def KKc (k : Option Key) (r : Option (List Key)) : Option (List Key) := match k, r with
  | some k, some ks => some (k :: ks)
  | _, _ => none
@[simp] theorem keysM_cons {xs} : keysM (x :: xs) = KKc (keyM x) (keysM xs) := rfl
@[simp] theorem KKc_some {k r} : KKc (some k) (some r) = some (k :: r) := rfl
@[simp] theorem mergeM_nil {kvs} : mergeM kvs [] = kvs := rfl
@[simp] theorem mergeM_cons {kvs k r} : mergeM kvs ((k, y) :: r) = mergeM (putM kvs k y) r := rfl
@[simp] theorem putM_nil {κ : Type} [DecidableEq κ] {k : κ} : putM [] k y = [(k, y)] := rfl
@[simp] theorem putM_cons {κ : Type} [DecidableEq κ] {k a : κ} {r : List (κ × MV)} : putM ((a, x) :: r) k y = if a = k then (a, y) :: r.map (fun kv => if kv.1 = k then (kv.1, y) else kv) else (a, x) :: putM r k y := by
  unfold putM
  by_cases e : a = k
  · simp [e]
  · simp only [List.any_cons, e, decide_false, Bool.false_or, if_false, List.map_cons]
    by_cases f : (r.any fun kv => decide (kv.1 = k)) = true <;> simp [f]
@[simp] theorem valM_nil {κ : Type} [DecidableEq κ] {k : κ} : valM [] k = none := rfl
@[simp] theorem valM_cons {κ : Type} [DecidableEq κ] {k a : κ} {r : List (κ × MV)} : valM ((a, x) :: r) k = if a = k then some x else valM r k := by
  unfold valM
  by_cases e : a = k <;> simp [e, List.find?_cons]
def KPut1 (r : Rz MV) (d k : ME) (s : Lo) : SR := r.bnS s fun v h1 => (d s h1).bnS s fun x h2 => (k s h2).bnS s fun y h3 => match putD x y v h3 with
  | some h4 => .nx s h4
  | none => .no
def KPut2 (r : Rz MV) (v : MV) (k : ME) (s : Lo) : SR := r.bnS s fun x h2 => (k s h2).bnS s fun y h3 => match putD x y v h3 with
  | some h4 => .nx s h4
  | none => .no
def KPut3 (r : Rz MV) (v x : MV) (s : Lo) : SR := r.bnS s fun y h3 => match putD x y v h3 with
  | some h4 => .nx s h4
  | none => .no
@[simp] theorem sPut_ev {d k e} : sPut d k e s h = KPut1 (e s h) d k s := rfl
@[simp] theorem KPut1_ok {d k} : KPut1 (.ok v h) d k s = KPut2 (d s h) v k s := rfl
@[simp] theorem KPut2_ok {k} : KPut2 (.ok x h) v k s = KPut3 (k s h) v x s := rfl
@[simp] theorem KPut3_ok : KPut3 (.ok y h) v x s = KNx (putD x y v h) s := rfl
theorem isDM_dk {i kvs} (e : h[i]? = some (.dk kvs)) : isDM (.ref i) h = true := by simp [isDM, e]
theorem isDM_lst {i xs} (e : h[i]? = some (.lst xs)) : isDM (.ref i) h = false := by simp [isDM, e]
@[simp] theorem isDM_tup {xs} : isDM (.tup xs) h = false := rfl
@[simp] theorem isDM_ktp {xs} : isDM (.ktp xs) h = false := rfl
@[simp] theorem isDM_frl {xs} : isDM (.frl xs) h = false := rfl
@[simp] theorem isDM_str {z} : isDM (.str z) h = false := rfl
@[simp] theorem fInA_ev : fInA x y h = if isDM y h = true then fDIn x y h else fIn x y h := rfl
@[simp] theorem fNotInA_ev : fNotInA x y h = if isDM y h = true then fDNotIn x y h else fNotIn x y h := rfl
@[simp] theorem fIxA_ev : fIxA x y h = if isDM x h = true then fDGet x y h else fIx x y h := rfl
theorem dGet_dk {i kvs} (e : h[i]? = some (.dk kvs)) : dGet h (.ref i) y = (keyM y).map fun k => valM kvs k := by simp [dGet, e]
def KG (r : Rz MV) (x : MV) : Rz MV := r.bnd fun y h2 => match dGet h2 x y with
  | some o => .ok (o.getD .non) h2
  | none => .no
def KG0 (r : Rz MV) (k : ME) (s : Lo) : Rz MV := r.bnd fun x h1 => if isDM x h1 = true then KG (k s h1) x else .no
@[simp] theorem eGet1_ev {d k} : eGet1 d k s h = KG0 (d s h) k s := rfl
@[simp] theorem KG0_ok {k} : KG0 (.ok x h) k s = if isDM x h = true then KG (k s h) x else .no := rfl
def KKG (r : Rz MV) (tab : List (Str × MV)) : Rz MV := r.bnd fun x h1 => match x with
  | .str z => match tab.lookup z with
    | some v => .ok v h1
    | none => .no
  | _ => .no
def KKL (o : Option MV) (h : MH) : Rz MV := match o with
  | some v => .ok v h
  | none => .no
@[simp] theorem eKGet_ev {tab m} : eKGet tab m s h = KKG (m s h) tab := rfl
@[simp] theorem KKG_ok {tab z} : KKG (.ok (.str z) h) tab = KKL (tab.lookup z) h := rfl
@[simp] theorem KKL_some : KKL (some v) h = .ok v h := rfl
def KLc (o : Option (Option MV)) (n : Nat) (tab : List (String × MF)) (ms : MEs) (s : Lo) (h : MH) : Rz MV := match o with
  | some (some (.glo g)) => match tab.lookup g with
    | some f => call n f ms s h
    | none => .no
  | _ => .no
def KLd (o : Option MF) (n : Nat) (ms : MEs) (s : Lo) (h : MH) : Rz MV := match o with
  | some f => call n f ms s h
  | none => .no
@[simp] theorem eCallL_ev {i n tab ms} : eCallL i n tab ms s h = KLc s[i]? n tab ms s h := rfl
@[simp] theorem KLc_glo {n tab ms g} : KLc (some (some (.glo g))) n tab ms s h = KLd (tab.lookup g) n ms s h := rfl
@[simp] theorem KLd_some {n ms f} : KLd (some f) n ms s h = call n f ms s h := rfl
end
end Mo
namespace Mo
open PySem L2
theorem PSet.or {X : Cx} {t t' : TSet} (h : PSet X t) (h' : PSet X t') : PSet X fun o i v H Q => t o i v H Q ∨ t' o i v H Q := by
  intro pins s σ H o i v ov iv u Q I ro ri rv q
  rcases q with q | q
  · exact h pins s σ H o i v ov iv u Q I ro ri rv q
  · exact h' pins s σ H o i v ov iv u Q I ro ri rv q
def putL (d k v : MV) (h : MH) : Option MH := match d, k with
  | .ref i, .int j => match h[i]? with
    | some (.lst xs) => (ixN xs.length j).map fun n => h.set i (.lst (xs.set n v))
    | _ => none
  | _, _ => none
def putA (d k v : MV) (h : MH) : Option MH := if isDM d h = true then putD d k v h else putL d k v h
def sPutA (d k e : ME) : MS := fun s h => (e s h).bnS s fun v h1 => (d s h1).bnS s fun x h2 => (k s h2).bnS s fun y h3 => match putA x y v h3 with
  | some h4 => .nx s h4
  | none => .no
section
variable {X : Cx} {G : String → Option V} {W : WX} {o i value : Expr} {mo mi me : ME} {pos pos' : Pos} {k : Nat}
theorem m_iput (hr : Room k X.A) (ho : PE X o (RE X.K G W mo)) (hi : PE X i (RE X.K G W mi)) (hv : PE X value (RE X.K G W me)) (hs : swapsWithSole [.Subscript o i pos'] value pos.line X.env = pure false := by rfl) (hw : swappedStores [.Subscript o i pos'] value X.env = pure none := by rfl)
    (h1 : (assignEach [.Subscript o i pos'] X.env).map (·.2) = [assign (.Subscript o i pos') X.env] := by rfl)
    (ha : ∀ v, assign (.Subscript o i pos') X.env v = (do
      let ov ← holding [v] (eval o X.env)
      let iv ← holding [v, ov] (eval i X.env)
      standAt pos'
      holding [v, ov, iv] (setItem ov iv v)
      release [v, ov, iv] []) := by intro _; rfl) :
    PS X (.Assign [.Subscript o i pos'] value pos) (RS X.K G W (sPutA mo mi me)) := by
  refine ps_imp (ps_asg hv (pg_sub ho hi (PSet.or (set_dict (units1 hr)) set_list) ha) hs hw h1) fun D σ H ⟨ρ, sm, mh, r0, q⟩ => ?_
  refine res_bnd r0 q fun y ρ1 H1 mh1 w x1 r1 rw1 q1 => ?_
  refine res_bnd r1 q1 fun x ρ2 H2 mh2 v x2 r2 rv q2 => ?_
  refine res_bnd r2 q2 fun z ρ3 H3 mh3 u x3 r3 ru q3 => ?_
  have rv3 := rv.ext x3
  have rw3 := (rw1.ext x2).ext x3
  split at q3
  · rename_i h4 e
    unfold putA at e
    split at e
    · obtain ⟨a, H4, rfl, g1, g2, g3⟩ := putD_V r3.hr e rv3 ru rw3
      exact .inl ⟨a, H4, rfl, g1, q3 _ _ _ g2 g3 (r3.sr.ext g2)⟩
    · unfold putL at e
      split at e
      · split at e
        · rename_i xs q4
          cases hn : ixN xs.length _ with
          | none => rw [hn] at e; cases e
          | some n =>
            rw [hn] at e
            cases e
            obtain ⟨a, vs, rfl, ha, g1, g2⟩ := r3.hr.lst q4 rv3
            obtain ⟨a1, a2⟩ := put_lst r3.hr q4 ha g1 (g2.set rw3 n)
            simp only [VR] at ru
            exact .inr ⟨a, vs, _, n, rfl, ru, g1, by rw [← g2.length]; exact hn, q3 _ _ _ a2 a1 (r3.sr.ext a2)⟩
        · cases e
      · cases e
  · exact q3.elim
end
section
variable {s s1 : Lo} {h h1 : MH} {x y v z : MV} {e : MX}
def KPA1 (r : Rz MV) (d k : ME) (s : Lo) : SR := r.bnS s fun v h1 => (d s h1).bnS s fun x h2 => (k s h2).bnS s fun y h3 => match putA x y v h3 with
  | some h4 => .nx s h4
  | none => .no
def KPA2 (r : Rz MV) (v : MV) (k : ME) (s : Lo) : SR := r.bnS s fun x h2 => (k s h2).bnS s fun y h3 => match putA x y v h3 with
  | some h4 => .nx s h4
  | none => .no
def KPA3 (r : Rz MV) (v x : MV) (s : Lo) : SR := r.bnS s fun y h3 => match putA x y v h3 with
  | some h4 => .nx s h4
  | none => .no
@[simp] theorem sPutA_ev {d k e} : sPutA d k e s h = KPA1 (e s h) d k s := rfl
@[simp] theorem KPA1_ok {d k} : KPA1 (.ok v h) d k s = KPA2 (d s h) v k s := rfl
@[simp] theorem KPA2_ok {k} : KPA2 (.ok x h) v k s = KPA3 (k s h) v x s := rfl
@[simp] theorem KPA3_ok : KPA3 (.ok y h) v x s = KNx (putA x y v h) s := rfl
theorem putA_dk {i kvs k} (e : h[i]? = some (.dk kvs)) (hk : keyM y = some k) : putA (.ref i) y v h = if kvs.length < SZ then some (h.set i (.dk (putM kvs k v))) else none := by
  simp [putA, isDM, putD, e, hk]
end
end Mo
namespace Mo
open PySem L2
theorem gc_okE {f : MF} {xs : List MV} {h : MH} {v : MV} (e : ∃ g, f xs h = .ok v (h ++ g)) (hn : noref v = true) : gc f xs h = .ok v h := by
  obtain ⟨g, e⟩ := e
  exact gc_ok e hn
theorem gc_newE {f : MF} {xs : List MV} {h : MH} {o : MO} (e : ∃ k g, f xs h = .ok (.ref (h.length + k)) (h ++ g) ∧ g[k]? = some o) (hn : norefO o = true) : gc f xs h = .ok (.ref h.length) (h ++ [o]) := by
  obtain ⟨k, g, e, hk⟩ := e
  exact gc_new e hk hn
@[simp] theorem fMul_ev {i j : Int} {h : MH} : fMul (.int i) (.int j) h = if (-(2 ^ 64) < i ∧ i < 2 ^ 64) ∨ (-(2 ^ 64) < j ∧ j < 2 ^ 64) then some (.int (i * j), h) else none := rfl
@[simp] theorem fDiv_ev {i j : Int} {h : MH} : fDiv (.int i) (.int j) h = if 0 < j ∧ j < 1073741824 then some (.int (i / j), h) else none := rfl
@[simp] theorem fPow_ev {i j : Int} {h : MH} : fPow (.int i) (.int j) h = if 0 ≤ j ∧ j ≤ 1000000 ∧ i.natAbs < 2 ^ 64 then some (.int (i ^ j.toNat), h) else none := rfl
theorem gc_keep {f : MF} {xs : List MV} {h g : MH} {k : Nat} {o : MO} (e : f xs h = .ok (.ref (h.length + k)) (h ++ g)) (hk : g[k]? = some o) (hn : norefO o = false) : gc f xs h = .ok (.ref (h.length + k)) (h ++ g) := by
  unfold gc
  rw [e]
  dsimp only
  rw [if_neg (by intro z; exact absurd z.1 (by simp [noref])), dif_neg]
  intro ⟨o', k', g', h1, h2, h3, h4⟩
  have hk' : k = k' := by
    have := MV.ref.inj h1
    omega
  have hg : g = g' := List.append_cancel_left h2
  subst hg hk'
  rw [hk] at h3
  rw [← Option.some.inj h3, hn] at h4
  cases h4
theorem len1 {α : Type} : ∀ {l : List α}, l.length = 1 → ∃ a, l = [a]
  | [a], _ => ⟨a, rfl⟩
theorem len3 {α : Type} : ∀ {l : List α}, l.length = 3 → ∃ a b c, l = [a, b, c]
  | [a, b, c], _ => ⟨a, b, c, rfl⟩
theorem len4 {α : Type} : ∀ {l : List α}, l.length = 4 → ∃ a b c d, l = [a, b, c, d]
  | [a, b, c, d], _ => ⟨a, b, c, d, rfl⟩
theorem norefs_int : ∀ xs : List Int, norefs (xs.map MV.int) = true
  | [] => rfl
  | x :: xs => by simp [norefs, noref, norefs_int xs]
theorem norefs_str : ∀ xs : List PySem.Str, norefs (xs.map MV.str) = true
  | [] => rfl
  | x :: xs => by simp [norefs, noref, norefs_str xs]
theorem atI_2 {α : Type} {a b : α} {i : Int} : atI [a, b] (i % 2) = some (if i % 2 = 0 then a else b) := by
  have : i % 2 = 0 ∨ i % 2 = 1 := by omega
  rcases this with h | h <;> rw [h] <;> rfl
theorem atI_3 {α : Type} {a b c : α} {i : Int} : atI [a, b, c] (i % 3) = some (if i % 3 = 0 then a else if i % 3 = 1 then b else c) := by
  have : i % 3 = 0 ∨ i % 3 = 1 ∨ i % 3 = 2 := by omega
  rcases this with h | h | h <;> rw [h] <;> rfl
end Mo
namespace Mo
open PySem L2
@[simp] theorem lookup_c {β : Type} {a k : Str} {b : β} {r : List (Str × β)} : List.lookup a ((k, b) :: r) = if (a == k) = true then some b else List.lookup a r := by
  simp only [List.lookup]
  cases a == k <;> rfl
@[simp] theorem lookup_n {β : Type} {a : Str} : List.lookup a ([] : List (Str × β)) = none := rfl
@[simp] theorem lookup_cs {β : Type} {a k : String} {b : β} {r : List (String × β)} : List.lookup a ((k, b) :: r) = if (a == k) = true then some b else List.lookup a r := by
  simp only [List.lookup]
  cases a == k <;> rfl
end Mo
namespace Mo
open PySem L2
section
variable {s s1 : Lo} {h h1 : MH} {x y v z : MV} {e : MX}
def KFo (r : Rz MV) (g : MG) (b : MS) (s : Lo) : SR := r.bnS s fun v h1 => match v with
  | .str z => forG (getL (chars z)) g b (z.length + 1) 0 s h1
  | v => match asT v with
    | some xs => forG (getL xs) g b (xs.length + 1) 0 s h1
    | none => match seqOf h1 v with
      | some xs => forG (getSeq v) g b (xs.length + 1) 0 s h1
      | none => .no
@[simp] theorem sFor_ev {m g b} : sFor m g b s h = KFo (m s h) g b s := rfl
@[simp] theorem KFo_tup {xs g b} : KFo (.ok (.tup xs) h) g b s = forG (getL xs) g b (xs.length + 1) 0 s h := rfl
@[simp] theorem KFo_ktp {xs g b} : KFo (.ok (.ktp xs) h) g b s = forG (getL xs) g b (xs.length + 1) 0 s h := rfl
@[simp] theorem KFo_frl {xs g b} : KFo (.ok (.frl xs) h) g b s = forG (getSeq (.frl xs)) g b (xs.length + 1) 0 s h := rfl
@[simp] theorem KFo_err {g b} : KFo (.err e h) g b s = .err e s h := rfl
theorem KFo_ref {i xs g b} (q : h[i]? = some (.lst xs)) : KFo (.ok (.ref i) h) g b s = forG (getSeq (.ref i)) g b (xs.length + 1) 0 s h := by
  simp [KFo, Rz.bnS, asT, seqOf, q]
theorem getSeq_ref {i k xs} (q : h[i]? = some (.lst xs)) : getSeq (.ref i) k h = some xs[k]? := by simp [getSeq, seqOf, q]
def KFT (o : Option Lo) (get : Itm) (g : MG) (b : MS) (n i : Nat) (h : MH) : SR := match o with
  | some s1 => KFB (b s1 h) get g b n i
  | none => .no
@[simp] theorem KF_goT {get is b n i xs} : KF (some (some (.tup xs))) get (gT is) b n i s h = KFT (setAll is xs s) get (gT is) b n i h := by
  show (match setAll is xs s with
    | none => SR.no
    | some s1 => match b s1 h with
      | .nx s2 h2 => forG get (gT is) b n (i + 1) s2 h2
      | .ct s2 h2 => forG get (gT is) b n (i + 1) s2 h2
      | .bk s2 h2 => .nx s2 h2
      | r => r) = _
  unfold KFT KFB
  cases setAll is xs s with
  | none => rfl
  | some s1 => first | rfl | (dsimp only; done) | (cases b s1 h <;> rfl) | (dsimp only; cases b s1 h <;> rfl)
@[simp] theorem KFT_some {get g b n i} : KFT (some s1) get g b n i h = KFB (b s1 h) get g b n i := rfl
@[simp] theorem setAll_nil : setAll [] [] s = some s := rfl
@[simp] theorem setAll_cons {i is xs} : setAll (i :: is) (x :: xs) s = setAll is xs (s.set i (some x)) := rfl
end
end Mo
namespace Mo
open PySem L2
def fStarts (x : MV) (xs : List MV) (h : MH) : OV := match x, xs with
  | .str a, [.str b] => some (.bl (Txt.startswith a b), h)
  | _, _ => none
def fEnds (x : MV) (xs : List MV) (h : MH) : OV := match x, xs with
  | .str a, [.str b] => some (.bl (Txt.endswith a b), h)
  | _, _ => none
def fRstripC (x : MV) (xs : List MV) (h : MH) : OV := match x, xs with
  | .str a, [.str b] => if a.length ≤ SZ then some (.str (Txt.rstripChars a b), h) else none
  | _, _ => none
def fSplit (x : MV) (xs : List MV) (h : MH) : OV := match x, xs with
  | .str a, [.str b] => if (b.length == 0) = false ∧ a.length + 2 ≤ SZ then some (.ref h.length, h ++ [.lst ((Txt.split a b).map .str)]) else none
  | _, _ => none
def strsM : List MV → Option (List Str)
  | [] => some []
  | .str x :: r => (strsM r).map fun ys => x :: ys
  | _ :: _ => none
def fJoin (x : MV) (xs : List MV) (h : MH) : OV := match x, xs with
  | .str a, [y] => match seqOf h y with
    | some zs => match strsM zs with
      | some ys => if (ys.map (·.length)).sum + ys.length * a.length ≤ 16777216 then some (.str (Txt.join a ys), h) else none
      | none => none
    | none => none
  | _, _ => none
section
variable {K : PySem.W.Frag} {G : String → Option V}
theorem strs_V {ρ : List Addr} {H : Hp} : ∀ {xs : List MV} {vs : List V} {ys : List Str}, strsM xs = some ys → VRs K G ρ H xs vs → vs = ys.map V.str
  | [], _, _, e, r => by simp only [VRs] at r; subst r; cases e; rfl
  | x :: xs, _, ys, e, r => by
    simp only [VRs] at r
    obtain ⟨v, vs, rfl, q, t⟩ := r
    cases x with
    | str z =>
      simp only [strsM] at e
      cases h : strsM xs with
      | none => rw [h] at e; cases e
      | some zs =>
        rw [h] at e; cases e
        simp only [VR] at q
        rw [q, strs_V h t]
        rfl
    | _ => simp [strsM] at e
theorem s_join : MtS K G (fun x xs H Q => ∃ a p, ∃ ys : List Str, x = .str a ∧ xs = [.ref p] ∧ (SqL K H p (ys.map V.str) ∨ SqT K H p (ys.map V.str)) ∧
    (ys.map (·.length)).sum + ys.length * a.length ≤ 16777216 ∧ Q (.str (Txt.join a ys)) H) fJoin := by
  intro ρ H mh mh1 x z xs v vs Q hr rv rvs e k
  unfold fJoin at e
  split at e
  · obtain ⟨w, rfl, rw'⟩ := rvs.one
    simp only [VR] at rv; subst rv
    split at e
    · rename_i zs hq
      split at e
      · rename_i ys hs
        split at e
        · rename_i hz
          cases e
          obtain ⟨p, us, rfl, g1, g2⟩ := seq_V hr hq rw'
          have := strs_V hs g2
          subst this
          exact ⟨_, _, ys, rfl, rfl, g1, hz, k _ _ Ext.refl hr _ (by simp [VR])⟩
        · cases e
      · cases e
    · cases e
  · cases e
end
section
variable {h : MH}
@[simp] theorem isS_str {z} : isS (.str z) h = true := rfl
@[simp] theorem fStarts_ev {a b} : fStarts (.str a) [.str b] h = some (.bl (Txt.startswith a b), h) := rfl
@[simp] theorem fEnds_ev {a b} : fEnds (.str a) [.str b] h = some (.bl (Txt.endswith a b), h) := rfl
@[simp] theorem fRstripC_ev {a b} : fRstripC (.str a) [.str b] h = if a.length ≤ SZ then some (.str (Txt.rstripChars a b), h) else none := rfl
@[simp] theorem fSplit_ev {a b} : fSplit (.str a) [.str b] h = if (b.length == 0) = false ∧ a.length + 2 ≤ SZ then some (.ref h.length, h ++ [.lst ((Txt.split a b).map .str)]) else none := rfl
end
end Mo
namespace Mo
open PySem L2
section
variable {M : Model} {A : Around} {E : Value → Shared → Prop} {s : Shared} {pos : Pos} {x : Addr} {first : List Value} {Q : Value → Shared → Prop}
end
def eICall (c : String) (n : Nat) (f : MF) (a : ME) (as : MEs) : ME := fun s h => (a s h).bnd fun x h1 => match x with
  | .ref i => (as s h1).bnd fun xs h2 => match h2[i]? with
    | some (.ins c' _) => if c' = c ∧ xs.length + 1 = n then f (x :: xs) h2 else .no
    | _ => .no
  | _ => .no
section
variable {X : Cx} {G : String → Option V} {W : WX} {e : Expr} {es : List Expr} {mo : ME} {ms : MEs} {x : Str} {p pos : Pos} {k : Nat} {fa C : Addr} {fd : FuncData} {ps : List Str} {f : MF} {c : String}
end
end Mo
namespace Mo
open PySem L2
section
variable {s : Lo} {h : MH} {x : MV}
def KIC (r : Rz MV) (c : String) (n : Nat) (f : MF) (as : MEs) (s : Lo) : Rz MV := r.bnd fun x h1 => match x with
  | .ref i => (as s h1).bnd fun xs h2 => match h2[i]? with
    | some (.ins c' _) => if c' = c ∧ xs.length + 1 = n then f (x :: xs) h2 else .no
    | _ => .no
  | _ => .no
def KIC2 (r : Rz (List MV)) (c : String) (n : Nat) (f : MF) (i : Nat) : Rz MV := r.bnd fun xs h2 => match h2[i]? with
    | some (.ins c' _) => if c' = c ∧ xs.length + 1 = n then f (.ref i :: xs) h2 else .no
    | _ => .no
@[simp] theorem eICall_ev {c n f a as} : eICall c n f a as s h = KIC (a s h) c n f as s := rfl
@[simp] theorem KIC_ref {c n f as i} : KIC (.ok (.ref i) h) c n f as s = KIC2 (as s h) c n f i := rfl
end
end Mo
namespace Mo
open PySem L2
def Turn (P : Lo → MH → Prop) (R : SR → Prop) : SR → Prop
  | .nx s h => P s h
  | .ct s h => P s h
  | .bk s h => R (.nx s h)
  | .no => False
  | r => R r
theorem KFB_turn {P : Lo → MH → Prop} {R R' : SR → Prop} {r : SR} {get : Itm} {g : MG} {b : MS} {n i : Nat} (t : Turn P R r) (hn : ∀ s h, P s h → R' (forG get g b n (i + 1) s h)) (hr : ∀ r, R r → R' r) : R' (KFB r get g b n i) := by
  cases r with
  | nx s h => exact hn s h t
  | ct s h => exact hn s h t
  | bk s h => exact hr _ t
  | rt v h => exact hr _ t
  | err v s h => exact hr _ t
  | no => exact t.elim
theorem forG_KFB {get : Itm} {g : MG} {b : MS} {n i : Nat} {s s1 : Lo} {h : MH} {x : MV} (e : get i h = some (some x)) (eg : g x s = some s1) : forG get g b (n + 1) i s h = KFB (b s1 h) get g b n i := by
  unfold forG KFB
  rw [e]
  all_goals (try dsimp only)
  all_goals (try rw [eg])
  all_goals (try dsimp only)
  all_goals (cases b s1 h <;> rfl)
theorem forG_inv {get : Itm} {g : MG} {b : MS} {N : Nat} (I : Nat → Lo → MH → Prop) (R : SR → Prop)
    (end_ : ∀ s h, I N s h → get N h = some none ∧ R (.nx s h))
    (step : ∀ i s h, i < N → I i s h → ∃ x s1, get i h = some (some x) ∧ g x s = some s1 ∧ Turn (I (i + 1)) R (b s1 h)) :
    ∀ m i s h, i + m = N → I i s h → R (forG get g b (m + 1) i s h) := by
  intro m
  induction m with
  | zero =>
    intro i s h e hI
    have : i = N := by omega
    subst this
    obtain ⟨e1, e2⟩ := end_ s h hI
    unfold forG
    rw [e1]
    exact e2
  | succ m ih =>
    intro i s h e hI
    obtain ⟨x, s1, e1, e2, t⟩ := step i s h (by omega) hI
    rw [forG_KFB e1 e2]
    exact KFB_turn t (fun s h p => ih (i + 1) s h (by omega) p) fun _ z => z
theorem forR_inv {lo : Int} {n : Nat} {g : MG} {b : MS} {s : Lo} {h : MH} (I : Nat → Lo → MH → Prop) (R : SR → Prop) (h0 : I 0 s h)
    (step : ∀ i s h, i < n → I i s h → ∃ s1, g (.int (lo + i)) s = some s1 ∧ Turn (I (i + 1)) R (b s1 h)) (end_ : ∀ s h, I n s h → R (.nx s h)) :
    R (forG (getR lo n) g b (n + 1) 0 s h) := by
  refine forG_inv (N := n) I R (fun s h z => ⟨by simp, end_ s h z⟩) (fun i s h hi z => ?_) n 0 s h (by omega) h0
  obtain ⟨s1, e, t⟩ := step i s h hi z
  exact ⟨_, s1, by simp [hi], e, t⟩
theorem forS_inv {v : MV} {xs : List MV} {g : MG} {b : MS} {s : Lo} {h : MH} (I : Nat → Lo → MH → Prop) (R : SR → Prop) (h0 : I 0 s h) (hs : ∀ i s h, I i s h → seqOf h v = some xs)
    (step : ∀ i s h (hi : i < xs.length), I i s h → ∃ s1, g xs[i] s = some s1 ∧ Turn (I (i + 1)) R (b s1 h)) (end_ : ∀ s h, I xs.length s h → R (.nx s h)) :
    R (forG (getSeq v) g b (xs.length + 1) 0 s h) := by
  refine forG_inv (N := xs.length) I R (fun s h z => ⟨by simp [getSeq, hs _ _ _ z], end_ s h z⟩) (fun i s h hi z => ?_) xs.length 0 s h (by omega) h0
  obtain ⟨s1, e, t⟩ := step i s h hi z
  exact ⟨xs[i], s1, by simp [getSeq, hs _ _ _ z, hi], e, t⟩
theorem seqOf_ref {h : MH} {i : Nat} {xs : List MV} (e : h[i]? = some (.lst xs)) : seqOf h (.ref i) = some xs := by simp [seqOf, e]
@[simp] theorem turn_nx {P : Lo → MH → Prop} {R : SR → Prop} {s : Lo} {h : MH} : Turn P R (.nx s h) = P s h := rfl
@[simp] theorem turn_ct {P : Lo → MH → Prop} {R : SR → Prop} {s : Lo} {h : MH} : Turn P R (.ct s h) = P s h := rfl
@[simp] theorem turn_bk {P : Lo → MH → Prop} {R : SR → Prop} {s : Lo} {h : MH} : Turn P R (.bk s h) = R (.nx s h) := rfl
@[simp] theorem turn_rt {P : Lo → MH → Prop} {R : SR → Prop} {v : MV} {h : MH} : Turn P R (.rt v h) = R (.rt v h) := rfl
@[simp] theorem turn_err {P : Lo → MH → Prop} {R : SR → Prop} {v : MX} {s : Lo} {h : MH} : Turn P R (.err v s h) = R (.err v s h) := rfl
end Mo
namespace Mo
open PySem L2
def unp (v : MV) (h : MH) : Option (List MV) := match asT v with
  | some xs => some xs
  | none => seqOf h v
def sAsgU (e : ME) (is : List Nat) : MS := fun s h => (e s h).bnS s fun v h1 => match (unp v h1).bind fun xs => setAll is xs s with
  | some s1 => .nx s1 h1
  | none => .no
section
variable {X : Cx} {G : String → Option V} {W : WX} {e : Expr} {es : List Expr} {m : ME} {pos pos' : Pos} {k : Nat} {u : TGs} {is : List Nat}
end
section
variable {s s1 : Lo} {h : MH} {v : MV} {x : MX} {is : List Nat}
def KAU (r : Rz MV) (s : Lo) (is : List Nat) : SR := r.bnS s fun v h1 => match (unp v h1).bind fun xs => setAll is xs s with
  | some s1 => .nx s1 h1
  | none => .no
def KAU2 (o : Option Lo) (h : MH) : SR := match o with
  | some s1 => .nx s1 h
  | none => .no
@[simp] theorem sAsgU_ev {a} : sAsgU a is s h = KAU (a s h) s is := rfl
@[simp] theorem KAU_tup {xs} : KAU (.ok (.tup xs) h) s is = KAU2 (setAll is xs s) h := rfl
@[simp] theorem KAU_ktp {xs} : KAU (.ok (.ktp xs) h) s is = KAU2 (setAll is xs s) h := rfl
@[simp] theorem KAU_err : KAU (.err x h) s is = .err x s h := rfl
@[simp] theorem KAU2_some : KAU2 (some s1) h = .nx s1 h := rfl
end
end Mo
namespace Mo
open PySem L2
section
variable {prog : Program} {w : World} {A : Around} {E : Value → Shared → Prop} {s : Shared} {K : PySem.W.Frag} {x C f : Addr} {ox : Obj} {od : Option Obj} {b tb : Value}
end
end Mo
namespace Mo
open PySem L2
structure OwnM (P : Program) (w : World) (K : PySem.W.Frag) (mg : Str → Option Value) (base : Heap) (G : String → Option V) (k : Nat) (name : Str) (p : String × MF) : Prop where
  ex : ∃ C fa fd ps, G p.1 = some (.ref C) ∧ Meth K C name fa ∧ FnOk P w K mg base (L2.CX P w) k fa fd ps (SpM K G ps.length p.2) ∧ Binds K fd ps [] ∧ ps.length = 2
structure NeC (K : PySem.W.Frag) (G : String → Option V) (c : String) : Prop where
  ex : ∃ C, G c = some (.ref C) ∧ PySem.W.mroIn K C (.type "object") = some true ∧ PySem.W.findIn K (.ref C) "__ne__" = some (some (.builtin "object.__ne__"))
def insC (h : MH) : MV → Option String
  | .ref i => match h[i]? with
    | some (.ins c _) => some c
    | _ => none
  | _ => none
def okOf (r : MR) (neg : Bool) : MR := match r with
  | .ok v h3 => if neg = true then (match v with
    | .bl k => .ok (.bl (!k)) h3
    | _ => .no) else .ok v h3
  | _ => .no
def ownRun (tab : List (String × MF)) (neg : Bool) (x y : MV) (h : MH) : MR := match insC h x, insC h y with
  | some c, some c' => if c = c' then match tab.lookup c with
    | some g => okOf (g [x, y] h) neg
    | none => .no
    else .no
  | _, _ => .no
def eOwn (tab : List (String × MF)) (neg : Bool) (a b : ME) : ME := fun s h => (a s h).bnd fun x h1 => (b s h1).bnd fun y h2 => ownRun tab neg x y h2
section
variable {X : Cx} {G : String → Option V} {W : WX} {a b : Expr} {ma mb : ME} {pos : Pos} {k : Nat} {tab : List (String × MF)} {op : CmpOp}
end
section
variable {s : Lo} {h : MH} {x y : MV} {e : MX} {tab : List (String × MF)} {neg : Bool}
def KO1 (r : MR) (tab : List (String × MF)) (neg : Bool) (b : ME) (s : Lo) : MR := r.bnd fun x h1 => (b s h1).bnd fun y h2 => ownRun tab neg x y h2
def KO2 (r : MR) (tab : List (String × MF)) (neg : Bool) (x : MV) : MR := r.bnd fun y h2 => ownRun tab neg x y h2
@[simp] theorem eOwn_ev {a b} : eOwn tab neg a b s h = KO1 (a s h) tab neg b s := rfl
@[simp] theorem KO1_ok {b} : KO1 (.ok x h) tab neg b s = KO2 (b s h) tab neg x := rfl
@[simp] theorem KO2_ok : KO2 (.ok y h) tab neg x = ownRun tab neg x y h := rfl
@[simp] theorem okOf_f {v : MV} : okOf (.ok v h) false = .ok v h := rfl
@[simp] theorem okOf_t {b : Bool} : okOf (.ok (.bl b) h) true = .ok (.bl (!b)) h := rfl
end
end Mo
namespace Mo
open PySem L2
def okR (r : MR) : MR := match r with
  | .ok v h => .ok v h
  | _ => .no
def eCMeth (c : String) (n : Nat) (f : MF) (ms : MEs) : ME := fun s h => (ms s h).bnd fun xs h1 => if xs.length + 1 = n then okR (f (.glo c :: xs) h1) else .no
def eMkL (i : Nat) (c : String) (n l N : Nat) (f : MF) (g : List MV → List MV → List MV) (ms mk : MEs) : ME := fun s h => match s[i]? with
  | some (some (.glo d)) => if d = c then eMk c n l N f g ms mk s h else .no
  | _ => .no
section
variable {X : Cx} {G : String → Option V} {W : WX} {o e : Expr} {es : List Expr} {ms : MEs} {x m : Str} {p q pos apos : Pos} {k n i : Nat} {a1 fa C : Addr} {fd : FuncData} {ps : List Str} {f : MF} {c : String} {mc : Value} {g : List Value → List Value → List Value} {gM : List MV → List MV → List MV} {gV : List V → List V → List V}
end
section
variable {s : Lo} {h : MH}
def KCM (r : Rz (List MV)) (c : String) (n : Nat) (f : MF) : MR := r.bnd fun xs h1 => if xs.length + 1 = n then okR (f (.glo c :: xs) h1) else .no
@[simp] theorem eCMeth_ev {c n f ms} : eCMeth c n f ms s h = KCM (ms s h) c n f := rfl
@[simp] theorem KCM_ok {xs c n f} : KCM (.ok xs h) c n f = if xs.length + 1 = n then okR (f (.glo c :: xs) h) else .no := rfl
@[simp] theorem okR_ok {v : MV} : okR (.ok v h) = .ok v h := rfl
def KML (o : Option (Option MV)) (c : String) (n l N : Nat) (f : MF) (g : List MV → List MV → List MV) (ms mk : MEs) (s : Lo) (h : MH) : MR := match o with
  | some (some (.glo d)) => if d = c then eMk c n l N f g ms mk s h else .no
  | _ => .no
@[simp] theorem eMkL_ev {i c n l N f g ms mk} : eMkL i c n l N f g ms mk s h = KML s[i]? c n l N f g ms mk s h := rfl
@[simp] theorem KML_glo {c d n l N f g ms mk} : KML (some (some (.glo d))) c n l N f g ms mk s h = if d = c then eMk c n l N f g ms mk s h else .no := rfl
end
end Mo
namespace Mo
open PySem L2
section
variable {h : MH} {i j : Nat} {f : Str} {cs : List String} {tab : List (String × MF)} {neg : Bool}
def KFA (o : Option MO) (f : Str) (cs : List String) (h : MH) : OV := match o with
  | some (.ins c fs) => if c ∈ cs then KX (fs.lookup f) h else none
  | _ => none
@[simp] theorem KFA_ins {c fs} : KFA (some (.ins c fs)) f cs h = if c ∈ cs then KX (fs.lookup f) h else none := rfl
def KOw (o o' : Option MO) (tab : List (String × MF)) (neg : Bool) (i j : Nat) (h : MH) : MR := match o, o' with
  | some (.ins c _), some (.ins c' _) => if c = c' then match tab.lookup c with
    | some g => okOf (g [.ref i, .ref j] h) neg
    | none => .no
    else .no
  | _, _ => .no
def KOx (o : Option MF) (neg : Bool) (i j : Nat) (h : MH) : MR := match o with
  | some g => okOf (g [.ref i, .ref j] h) neg
  | none => .no
@[simp] theorem KOw_ins {c c' fs gs} : KOw (some (.ins c fs)) (some (.ins c' gs)) tab neg i j h = if c = c' then KOx (tab.lookup c) neg i j h else .no := rfl
@[simp] theorem KOx_some {g} : KOx (some g) neg i j h = okOf (g [.ref i, .ref j] h) neg := rfl
end
end Mo
namespace Mo
open PySem L2
def isKT (x : MV) (_ : MH) : Bool := match x with
  | .ktp _ => true
  | _ => false
section
variable {K : PySem.W.Frag} {G : String → Option V}
end
@[simp] theorem isKT_ktp {xs : List MV} {h : MH} : isKT (.ktp xs) h = true := rfl
end Mo
namespace Mo
open PySem L2
abbrev KSE := PySem.W.ksEnv
def cxS (P : Program) (w : World) (K : PySem.W.Frag) (mg : Str → Option Value) (base : Heap) (N : List Str) (qual : Str) (scope : Scope) (f : Addr) (cd : Value) (cc : Addr) (A : Around) (outer : List Env) (s : Shared) (H : Hp) (E : XK) : Cx :=
  { cxOf (L2.CX P w) P w K mg base N qual scope f cd A outer s H E with
    A := A.deeper (KSE qual scope s.heap.objs.size f cd cc)
    env := KSE qual scope s.heap.objs.size f cd cc
    stack := KSE qual scope s.heap.objs.size f cd cc :: outer
    fn := fun y => !(y == ("__class__" : Str))
    xe := fun e s' => PySem.wpAny (model P w) (A.deeper (KSE qual scope s.heap.objs.size f cd cc)) (leaving (KSE qual scope s.heap.objs.size f cd cc) e) (fun _ s'' => L2.CX P w outer H s E e s'') (fun e' s'' => L2.CX P w outer H s E e' s'') s' }
structure SupScope (N ps : List Str) (sc : Scope) : Prop where
  kind : sc.kind = .function
  co : sc.isCoroutine = false
  gen : sc.isGenerator = false
  nd : N.Nodup
  pre : N.take ps.length = ps
  par : ∀ x ∈ ps, sc.names.lookup x = some .local
  nocell : ∀ y ∈ sc.names, y.2 ≠ .cell
  free : ∀ y ∈ sc.names, y.2 = .free → y.1 = "__class__"
theorem lookup_rev {ps : List Str} {us : List Value} (nd : ps.Nodup) {i : Nat} {y : Str} {u : Value} (h1 : ps[i]? = some y) (h2 : us[i]? = some u) : (ps.zip us).reverse.lookup y = some u := by
  have key : ∀ (l : List (Str × Value)), (l.map (·.1)).Nodup → (y, u) ∈ l → l.lookup y = some u := by
    intro l
    induction l with
    | nil => intro _ h; cases h
    | cons p l ih =>
      intro hn hm
      obtain ⟨z, v⟩ := p
      simp only [List.map_cons, List.nodup_cons] at hn
      rcases List.mem_cons.mp hm with e | hm2
      · cases e; simp [List.lookup]
      · have hne : (y == z) = false := by
          rw [beq_eq_false_iff_ne]
          intro e
          subst e
          exact hn.1 (List.mem_map.mpr ⟨(_, u), hm2, rfl⟩)
        simp only [List.lookup, hne]
        exact ih hn.2 hm2
  refine key _ ?_ ?_
  · rw [List.map_reverse]
    have : ((ps.zip us).map (·.1)).Nodup := by
      have e : (ps.zip us).map (·.1) = ps.take us.length := by
        clear h1 h2 key nd
        induction ps generalizing us with
        | nil => simp
        | cons p ps ih => cases us with
          | nil => simp
          | cons u us => simp [ih]
      rw [e]
      exact nd.sublist (List.take_sublist _ _)
    exact (List.reverse_perm _).nodup_iff.mpr this
  · rw [List.mem_reverse]
    have : (ps.zip us)[i]? = some (y, u) := by rw [List.getElem?_zip_eq_some]; exact ⟨h1, h2⟩
    exact List.mem_of_getElem? this
section
variable {P : Program} {w : World} {K : PySem.W.Frag} {mg : Str → Option Value} {base : Heap} {N ps : List Str} {qual : Str} {scope : Scope} {f cc C : Addr} {cd : Value} {A : Around} {outer : List Env} {s : Shared} {H : Hp} {E : XK} {us : List Value} {vs : List V}
theorem inv_startS {oc : Obj} {h₁ : Heap} {tk : Nat} (S : SupScope N ps scope) (hd : A.handled = none) (e0 : Env0 P w K mg base A outer s H) (hl : vs.length = ps.length) (r : Vals vs us) (hcc : K.lookup cc = some oc) (hcell : oc.data = .cell (some (.ref C)))
    (hns : h₁.Ns s.heap.objs.size fun x => (ps.zip us).reverse.lookup x) (hk : ∀ b o, s.heap.get? b = some o → h₁.get? b = some o) :
    Inv (cxS P w K mg base N qual scope f cd cc A outer s H E) [] (start N vs) H { s with heap := h₁, toks := tk } := by
  have noA : ∀ b : Addr, b ∉ (cxS P w K mg base N qual scope f cd cc A outer s H E).ex := fun b z => absurd (show b ∈ ([] : List Addr) from z) (by simp)
  have hbase : base.get? cc = some oc := e0.mod.kin _ _ hcc
  have hs := e0.bs _ _ hbase
  have only : ∀ (y : Str) (c : Addr), ([("__class__", cc)] : List (Str × Addr)).lookup y = some c → y = "__class__" ∧ c = cc := fun y c h => by
    simp only [List.lookup] at h
    split at h
    · rename_i q
      cases h
      exact ⟨by simpa using q, rfl⟩
    · cases h
  refine ⟨⟨e0.mod, S.kind, rfl, rfl, Nat.le_refl _, fun y z c h1 h2 => ?_, fun y hy => ?_, fun y c h1 h2 => ?_, fun _ => hd, Around.frames_deeper e0.frames, .inr ⟨rfl, rfl⟩, fun b z => absurd z (noA b), e0.bs, e0.bsz, fun b _ _ => noA b, fun b z => absurd z (noA b), e0.funs, e0.frf⟩,
    rfl, e0.bare, Un.kept hk, ⟨_, hns, fun i y v h1 h2 h3 => ?_⟩, fun y c h => ?_, e0.hok.fresh (Nat.le_refl _), fun y c h => ?_, fun p hp => absurd (show p ∈ ([] : List (Addr × Obj)) from hp) (by simp), e0.hok.kept hk, ?_⟩
  · exact (only y c h1).1.trans (only z c h2).1.symm
  · have hy : scope.names.lookup y = some .cell ∨ scope.names.lookup y = some .free := hy
    rcases hy with hy | hy
    · exact absurd rfl (S.nocell _ (PySem.mem_of_lookup hy))
    · have := S.free _ (PySem.mem_of_lookup hy) rfl
      dsimp only at this
      subst this
      exact ⟨cc, rfl⟩
  · have := (only y c h2).1
    subst this
    simp [cxS] at h1
  · have hi : i < vs.length := by
      unfold L2.start at h2
      by_cases hi : i < vs.length
      · exact hi
      · rw [List.getElem?_append_right (by simpa using hi)] at h2
        rw [List.getElem?_replicate] at h2
        split at h2 <;> cases h2
    have hva : vs[i]? = some v := by
      unfold L2.start at h2
      rw [List.getElem?_append_left (by simpa using hi), List.getElem?_map] at h2
      cases e : vs[i]? with
      | none => rw [e] at h2; cases h2
      | some a => rw [e] at h2; cases h2; rfl
    obtain ⟨u, hu, rv⟩ := r.get hva
    have hp : ps[i]? = some y := by
      rw [← S.pre, List.getElem?_take_of_lt (by omega)]; exact h1
    have ndP : ps.Nodup := by rw [← S.pre]; exact S.nd.sublist (List.take_sublist _ _)
    exact ⟨u, rv, .inl ⟨S.par y (List.mem_of_getElem? hp), lookup_rev ndP hp hu⟩⟩
  · have := (only y c h).2
    subst this
    exact ⟨some (.ref C), oc, hk _ _ hs.1, hcell⟩
  · have := (only y c h).2
    subst this
    exact hs.2
  · show _ = N.length
    unfold L2.start
    have hpl : ps.length ≤ N.length := by have := congrArg List.length S.pre; rw [List.length_take] at this; omega
    rw [List.length_append, List.length_map, List.length_replicate]
    omega
end
end Mo
namespace Mo
open PySem L2
section
variable {prog : Program} {w : World} {A : Around} {E : Value → Shared → Prop} {h : Heap} {g : Array GenState} {d : Drawn} {t : Nat} {os : OsState} {nm q : Str} {C N : Addr} {bs bm : List Value} {sn : List Str} {sub : List Value} {ab : Bool} {col : Option Bool} {dd : Option Addr} {k0 k1 k2 k3 k5 : Option Value}
theorem vw_call {u e t0 : Addr} {r : List Value} {Q : Value → Shared → Prop} (hC : h.get? C = some (excClassObj nm q C N bs bm true sn sub ab col dd k0 k1 k2 k3 k5 "ValueError.__new__")) (he : h.get? e = some (HandSPX.excO C t0))
    (hu : h.get? u = some (PySem.W.kxs_mw "ValueError.__init__" e)) (hr : r.length ≤ sizeLine) (hq : ∀ h1 t1, (∀ b o, b ≠ e → h.get? b = some o → h1.get? b = some o) → h1.get? e = some (HandSPX.excO C t1) → Q .none ⟨h1, g, d, t, os⟩) :
    PySem.wpAny (model prog w) A (PySem.call (.ref u) r) Q E ⟨h, g, d, t, os⟩ := by
  have FB := F.excBase_ValueError
  refine wpAny_call (codeAny_of_tree (show PySem.wpAny _ A.in1 (callAny (.ref u) ⟨r, []⟩) _ _ _ from ?_))
  simp only [callAny]
  refine wpAny_bind (wpAny_load hu ?_)
  have c1 : (Value.type "method-wrapper" == Value.type "method" || Value.type "method-wrapper" == Value.type "builtin_function_or_method" || Value.type "method-wrapper" == Value.type "method-wrapper") = true := by decide
  simp only [PySem.W.kxs_mw, c1, if_true]
  refine PySem.W.KFB.if_so (by decide) (wpAny_bind (PySem.W.check_bound_init FB.toExcCallFacts hC he rfl (wpAny_bind (wpAny_pure (wpAny_pure ?_)))))
  exact ⟨plainId_quiet FB.init.plain _, codeAny_builtin FB.initEntry (PySem.W.exc_init_tree (cls := .ref C) (t0 := t0) (dv := none) (c2 := .none) (c3 := .none) (b4 := .bool false) he hr fun h1 k e1 _ => hq h1 _ k e1)⟩
end
structure SupF (P : Program) (K : PySem.W.Frag) (C cda cc : Addr) (prm : Arguments) (scope : Scope) : Prop where
  code : ∃ cl dd vs sl file tf, K.lookup cda = some ⟨cl, dd, .fields vs, sl⟩ ∧ vs[2]? = some (.str file tf) ∧ (P.main.file == file) = true
  cell : ∃ cl dd sl, K.lookup cc = some ⟨cl, dd, .cell (some (.ref C)), sl⟩
  arg : ∃ ar : Arg, (prm.posonlyargs ++ prm.args).head? = some ar ∧ ar.arg = "self"
  sup : scope.names.lookup ("super" : Str) = some .globalImplicit
  cls : scope.names.lookup ("__class__" : Str) = some .free
  slf : scope.names.lookup ("self" : Str) = some .local
  knd : scope.kind = .function
  top : (P.main.scope.names.lookup ("super" : Str)).isSome = false
  opq : PySem.W.nsIn K PySem.cStatics "thirdparty.any" = some none
  mro : PySem.W.mroIn K C (.ref C) = some true
  ini : PySem.W.ks_superIn K C C "__init__" = some (some (.builtin "ValueError.__init__"))
  isB : PySem.W.subIn K (.ref C) (.type "ValueError") = some true
section
variable {P : Program} {w : World} {K : PySem.W.Frag} {mg : Str → Option Value} {base : Heap} {N : List Str} {qual : Str} {scope : Scope} {f cc C cda a : Addr} {A : Around} {outer : List Env} {s0 s : Shared} {H0 H : Hp} {E : XK} {σ : L2.St} {body : List Stmt} {m : Str} {j : Nat}
  {p0 p1 p2 p3 p4 p5 : Pos} {prm : Arguments} {x : Str} {dV kV doc pm ct oc : Value} {an od : Option Addr} {osl : Array (Option Value)} {pl : Sem Bool} {QF : Flow → Shared → Prop} {EF : Value → Shared → Prop}
theorem sup_stmt (SF : SupF P K C cda cc prm scope) (T : OexC K C) (hN : N[0]? = some ("self" : Str)) (hm : mg "super" = none)
    (lk : K.lookup f = some ⟨oc, od, .func (PySem.W.ksFn x qual prm body scope dV kV doc pm an (.ref cda) ct cc), osl⟩)
    (I : Inv (cxS P w K mg base N qual scope f (.ref cda) cc A outer s0 H0 E) [] σ H s) (h0 : σ[0]? = some (some (.ref a))) (ha : H a = some (exo a C none))
    (he : eval (.Call (.Attribute (.Call (.Name "super" p0) [] [] p1) "__init__" p2) [.Constant (.str m) j p5] [] p3) (KSE qual scope s0.heap.objs.size f (.ref cda) cc) = (do
      let ov ← attributeBase (.Call (.Name "super" p0) [] [] p1) "__init__" (KSE qual scope s0.heap.objs.size f (.ref cda) cc) (eval (.Call (.Name "super" p0) [] [] p1) (KSE qual scope s0.heap.objs.size f (.ref cda) cc))
      standAt p2.atName
      let (f', first) ← holding [ov] (getMethod ov "__init__" pl)
      callWith p3 f' first (backTo p3 (starEach [.Constant (.str m) j p5] (KSE qual scope s0.heap.objs.size f (.ref cda) cc))) []))
    (hs : swapsWith (.Call (.Attribute (.Call (.Name "super" p0) [] [] p1) "__init__" p2) [.Constant (.str m) j p5] [] p3) none p4.line (KSE qual scope s0.heap.objs.size f (.ref cda) cc) = pure false)
    (hX : ∀ e s', (cxS P w K mg base N qual scope f (.ref cda) cc A outer s0 H0 E).xe e s' → EF e s') (hq : ∀ s', Inv (cxS P w K mg base N qual scope f (.ref cda) cc A outer s0 H0 E) [] σ H s' → QF .next s') :
    wpAt (model P w) (A.deeper (KSE qual scope s0.heap.objs.size f (.ref cda) cc)) (.func body (KSE qual scope s0.heap.objs.size f (.ref cda) cc))
      (exec (.Expr (.Call (.Attribute (.Call (.Name "super" p0) [] [] p1) "__init__" p2) [.Constant (.str m) j p5] [] p3) p4) (KSE qual scope s0.heap.objs.size f (.ref cda) cc)) QF EF s := by
  obtain ⟨cl1, dd1, vs1, sl1, file, tf, k1, k2, k3⟩ := SF.code
  obtain ⟨cl2, dd2, sl2, k4⟩ := SF.cell
  obtain ⟨ar, k5, k6⟩ := SF.arg
  obtain ⟨nmC, qC, NC, bsC, bmC, snC, subC, abC, colC, ddC, q0, q1, q2, q3, q5, hC, hbm⟩ := T.cls
  have KX : K.In s.heap := I.kIn
  obtain ⟨t0, hoa⟩ := exo_at I.hok ha
  have Ia : PySem.W.InstAt s.heap a _ C none := ⟨hoa, rfl, rfl, trivial⟩
  have hcls : PySem.W.clsIn K C = some { name := nmC, bases := bsC, mro := .ref C :: bmC, ns := NC, qualname := qC, hasDict := true, slotNames := snC, subclasses := subC, abstract := abC, collection := colC, hasDel := false } := by
    unfold PySem.W.clsIn
    rw [hC] <;> rfl
  obtain ⟨ml, hns, hloc⟩ := I.loc
  have hself : ml "self" = some (.ref a) := by
    obtain ⟨u, ru, l⟩ := hloc 0 "self" (.ref a) hN h0 (.inl SF.slf)
    obtain rfl : u = Value.ref a := ru
    rcases l with ⟨_, z⟩ | ⟨z, _⟩
    · exact z
    · have z : scope.names.lookup ("self" : Str) = some .cell ∨ scope.names.lookup ("self" : Str) = some .free := z
      rw [SF.slf] at z
      rcases z with z | z <;> cases z
  refine PySem.ks_wpAt_Expr_any (PySem.ks_wpAt_MethodCall (pl := pl) ?_ he) ?hi hs
  case hi => unfold interactive; rw [show (KSE qual scope s0.heap.objs.size f (.ref cda) cc).scope.kind = .function from SF.knd]; rfl
  obtain ⟨mb, b1, b2⟩ := I.mod.blt
  refine PySem.ks_wpAt_super_base (env := KSE qual scope s0.heap.objs.size f (.ref cda) cc) SF.sup SF.cls (by decide) rfl (KX _ _ lk) rfl k5 rfl (KX _ _ k1) rfl k2 k3 SF.top ?_
  refine PySem.W.ks_loadName_global SF.knd SF.sup (Calls.loadGlobal_builtin (env := KSE qual scope s0.heap.objs.size f (.ref cda) cc) (I.mod.glob.keeps I.bk) hm (b1.keeps I.bk) ((b2 "super" (by decide)).trans PyProof.Rows.Boot.«super») ⟨rfl, ?_⟩)
  refine wpAny_loadName_free SF.knd SF.cls rfl ⟨_, KX _ _ k4, rfl⟩ ?_
  refine wpAny_loadName_local SF.knd (by rw [k6]; exact SF.slf) hns (by rw [k6]; exact hself) ?_
  obtain ⟨hp, g, d, t, os⟩ := s
  have hCo := KX _ _ hC
  refine PySem.ks_wpAny_isType_cls hCo rfl ⟨rfl, ?_⟩
  refine PySem.ks_wpAny_call_super hCo rfl hoa rfl (fun c e => by cases e) (PySem.W.looks_mroIn KX SF.mro) fun h1 e1 k => ?_
  have I1 : Inv (cxS P w K mg base N qual scope f (.ref cda) cc A outer s0 H0 E) [] σ H ⟨h1, g, d, t, os⟩ := I.kept (t' := t) k
  have hsup := SF.ini
  unfold PySem.W.ks_superIn at hsup
  rw [hcls] at hsup
  have hal : PySem.W.alongIn K "__init__" (((Value.ref C :: bmC).dropWhile (· != .ref C)).drop 1) = some (some (.builtin "ValueError.__init__")) := hsup
  have Ja : PySem.W.InstAt h1 a _ C none := ⟨k _ _ hoa, rfl, rfl, trivial⟩
  refine PySem.W.kxs_getMethod PySem.W.kxs_ValueError e1 (PySem.W.looks_opaque I1.kIn SF.opq) (l₀ := .ref C :: bmC) (fun A Q E s k q => wpAny_bind ((PySem.W.looks_clsIn I1.kIn hcls) A _ E s k (wpAny_pure q))) rfl I1.kIn hal (Ja.type.andThen (PySem.W.looks_subIn I1.kIn SF.isB)) (PySem.W.ks_ne I1.kIn Ja hcls) (by decide) ?_
  have I2 := ClX.pin_new (t' := t + 1) (a := h1.objs.size) (o := PySem.W.kxs_mw "ValueError.__init__" a) (h' := h1.push (PySem.W.kxs_mw "ValueError.__init__" a)) I1 (fun b u z => Heap.get?_push_of_some _ z) (Nat.le_refl _) (Heap.get?_push_size h1 rfl) (fun v z => nomatch z)
  show PySem.wpAny _ _ (callWith p3 (.ref h1.objs.size) [] (backTo p3 (starEach [.Constant (.str m) j p5] (KSE qual scope s0.heap.objs.size f (.ref cda) cc))) []) _ _ _
  refine PySem.W.kxs_callWith (i := "ValueError.__init__") (x := a) rfl (Calls.evalArgs_plain ?_)
  have hargs : PA (cxS P w K mg base N qual scope f (.ref cda) cc A outer s0 H0 E) [.Constant (.str m) j p5] _ := pa_cons pe_str pa_nil
  refine wpAny_mono (hargs.run p3 _ _ σ H (fun vs H1 => vs = [.str m] ∧ H1 = H) I2 ⟨rfl, rfl⟩) (fun us s3 hx => ?_) fun _ _ y => ?_
  · obtain ⟨vs, H3, I3, r3, ev, eH⟩ := hx
    subst ev eH
    have hu := ClX.pin_at I3
    refine ⟨hu, ?_⟩
    obtain ⟨t3, ho3⟩ := exo_at I3.hok ha
    obtain ⟨hp3, g3, d3, tk3, os3⟩ := s3
    refine vw_call (I3.kIn _ _ hC) ho3 hu (by rw [List.nil_append, ← r3.length, sizeLine_eq]; show 1 ≤ 16777216; omega) fun h4 t4 k4' e4 => ?_
    have J := (ClX.unpin I3).write (t' := tk3) (x := a) (e := a) (o := exo a C none) (by rw [ha]; exact True.intro) (.inl rfl) k4' ⟨_, e4⟩ (exo_ok e4)
    have eu : upd H3 a (exo a C none) = H3 := by
      funext b
      by_cases hb : b = a
      · rw [hb, upd_same, ha]
      · rw [upd_ne hb]
    rw [eu] at J
    exact hq _ J
  · exact hX _ _ y
end
end Mo
namespace Mo
open PySem L2
section
variable {P : Program} {w : World} {K : PySem.W.Frag} {mg : Str → Option Value} {base : Heap} {N ps : List Str} {qual x : Str} {scope : Scope} {f cc C cda : Addr} {body rest : List Stmt} {m : Str} {j : Nat} {p0 p1 p2 p3 p4 p5 : Pos} {prm : Arguments} {dV kV doc pm ct oc : Value} {an od : Option Addr}
  {osl : Array (Option Value)} {k : Nat} {sp : Sp}
abbrev supCall (m : Str) (j : Nat) (p0 p1 p2 p3 p5 : Pos) : Expr := .Call (.Attribute (.Call (.Name "super" p0) [] [] p1) "__init__" p2) [.Constant (.str m) j p5] [] p3
def SupHe (m : Str) (j : Nat) (p0 p1 p2 p3 p5 : Pos) : Prop := ∀ env : Env, ∃ pl : Sem Bool, eval (supCall m j p0 p1 p2 p3 p5) env = (do
      let ov ← attributeBase (.Call (.Name "super" p0) [] [] p1) "__init__" env (eval (.Call (.Name "super" p0) [] [] p1) env)
      standAt p2.atName
      let (f', first) ← holding [ov] (getMethod ov "__init__" pl)
      callWith p3 f' first (backTo p3 (starEach [.Constant (.str m) j p5] env)) [])
theorem sup_hs (env : Env) : swapsWith (supCall m j p0 p1 p2 p3 p5) none p4.line env = pure false := rfl
theorem fn_super (he0 : SupHe m j p0 p1 p2 p3 p5) (SF : SupF P K C cda cc prm scope) (T : OexC K C) (hm : mg "super" = none) (lk : K.lookup f = some ⟨oc, od, .func (PySem.W.ksFn x qual prm (.Expr (supCall m j p0 p1 p2 p3 p5) p4 :: rest) scope dV kV doc pm an (.ref cda) ct cc), osl⟩)
    (hcd : PySem.W.codeIn K (.ref cda) qual = true) (S : SupScope N ps scope) (hN : N[0]? = some ("self" : Str)) (len : ∀ vs H Q E, sp vs H Q E → vs.length = ps.length)
    (hbody : ∀ (A : Around) (outer : List Env) (s : Shared) (H : Hp) (vs : List V) (Q : VK) (E : XK), sp vs H Q E →
      ∃ t a, PSs (cxS P w K mg base N qual scope f (.ref cda) cc A outer s H E) rest t ∧ t { nx := fun _ H' => Q .non H', rt := Q } (L2.start N vs) H ∧ vs[0]? = some (.ref a) ∧ H a = some (exo a C none)) :
    FnOk P w K mg base (L2.CX P w) (k + 1) f (PySem.W.ksFn x qual prm (.Expr (supCall m j p0 p1 p2 p3 p5) p4 :: rest) scope dV kV doc pm an (.ref cda) ct cc) ps sp := by
  refine ⟨len, fun A outer s H args us vs Q E hr e0 hb r hsp => ?_⟩
  have hl := len _ _ _ _ hsp
  have KX : K.In s.heap := e0.mod.kin.keeps fun b o e => (e0.bs b o e).1
  have lim : s.heap.NoLimit := e0.mod.nolimit.keeps fun b o e => (e0.bs b o e).1
  obtain ⟨t, a, ht, hq, h0, ha⟩ := hbody A outer s H vs Q E hsp
  obtain ⟨cl, dd, sl, hcell⟩ := SF.cell
  refine PySem.ks_codeAny_call_defAt hr.depth (KX _ _ lk) rfl lim (PySem.W.codeRec_of KX hcd) rfl hb S.nocell (fun ⟨n, v⟩ hy => S.par n (List.of_mem_zip hy).1) (fun h₁ hns hk => ?_) S.co S.gen S.kind
  have I := inv_startS (A := A) (outer := outer) (E := E) (f := f) (cc := cc) (cd := .ref cda) (C := C) (qual := qual) (tk := s.toks + (ps.zip us).length) S hr.hd e0 hl r hcell rfl hns hk
  have hσ : (L2.start N vs)[0]? = some (some (.ref a)) := by
    unfold L2.start
    have : 0 < vs.length := (List.getElem?_eq_some_iff.mp h0).1
    rw [List.getElem?_append_left (by simpa using this), List.getElem?_map, h0]; rfl
  obtain ⟨pl, he⟩ := he0 (KSE qual scope s.heap.objs.size f (.ref cda) cc)
  refine PySem.ks_wpAt_execs_cons (sup_stmt (pl := pl) SF T hN hm lk I hσ ha he (sup_hs _) (fun e s' y => y) fun s2 J => ?_)
  refine wpAt_of_wpAny (wpAny_mono (ht.run [] s2 (L2.start N vs) H _ J hq) (fun fl s' hs => ?_) fun e s' hs => hs)
  have fin : ∀ {σ' : L2.St} {H' : Hp} {v : V} {u : Value}, Inv (cxS P w K mg base N qual scope f (.ref cda) cc A outer s H E) [] σ' H' s' → RelV v u → Q v H' → CE outer P w H s Q u s' :=
    fun {σ' H' v u} J rv q => ⟨v, H', J.os, J.bare, J.base, J.hok, rv, q⟩
  cases fl with
  | ret u =>
    obtain ⟨v, σ', H', J, rv, q⟩ := hs
    exact fin J rv q
  | next =>
    obtain ⟨σ', H', J, q⟩ := hs
    exact fin (v := V.non) (u := Value.none) J rfl q
  | brk =>
    obtain ⟨_, _, _, q⟩ := hs
    exact False.elim q
  | cont =>
    obtain ⟨_, _, _, q⟩ := hs
    exact False.elim q
end
end Mo
namespace Mo
open PySem L2
def spS1 (C : Addr) (f1 : Str) : Sp := fun vs H Q _ => ∃ a y, vs = [.ref a, y] ∧ H a = some (exo a C none) ∧ ∀ dx, H dx = none → dx ≠ a → Q .non (upd (upd H dx (exd dx [(f1, y)])) a (exo a C (some dx)))
def spS2 (C : Addr) (f1 f2 : Str) : Sp := fun vs H Q _ => ∃ a y z, vs = [.ref a, y, z] ∧ H a = some (exo a C none) ∧
  ∀ dx, H dx = none → dx ≠ a → Q .non (upd (upd (upd H dx (exd dx [(f1, y)])) a (exo a C (some dx))) dx (exd dx [(f2, z), (f1, y)]))
section
variable {P : Program} {w : World} {K : PySem.W.Frag} {mg : Str → Option Value} {base : Heap} {y1 y2 f1 f2 : Str} {qual x : Str} {scope : Scope} {f cc C cda : Addr} {m : Str} {j : Nat} {p0 p1 p2 p3 p4 p5 q1 q2 q3 q4 q5 q6 q7 q8 : Pos} {prm : Arguments} {dV kV doc pm ct oc : Value} {an od : Option Addr}
  {osl : Array (Option Value)}
theorem fn_sup1 (he0 : SupHe m j p0 p1 p2 p3 p5) (SF : SupF P K C cda cc prm scope) (T : OexC K C) (hm : mg "super" = none) (hf1 : PySem.W.findIn K (.ref C) f1 = some none)
    (lk : K.lookup f = some ⟨oc, od, .func (PySem.W.ksFn x qual prm [.Expr (supCall m j p0 p1 p2 p3 p5) p4, .Assign [.Attribute (.Name "self" q1) f1 q2] (.Name y1 q3) q4] scope dV kV doc pm an (.ref cda) ct cc), osl⟩)
    (hcd : PySem.W.codeIn K (.ref cda) qual = true) (S : SupScope ["self", y1] ["self", y1] scope) (d1 : (y1 == ("__debug__" : Str)) = false := by decide) (d2 : (y1 == ("__classdict__" : Str)) = false := by decide) :
    FnOk P w K mg base (L2.CX P w) 1 f (PySem.W.ksFn x qual prm [.Expr (supCall m j p0 p1 p2 p3 p5) p4, .Assign [.Attribute (.Name "self" q1) f1 q2] (.Name y1 q3) q4] scope dV kV doc pm an (.ref cda) ct cc) ["self", y1] (spS1 C f1) := by
  refine fn_super he0 SF T hm lk hcd S rfl (fun vs H Q E h => by obtain ⟨a, y, rfl, _⟩ := h; rfl) fun A outer s H vs Q E h => ?_
  obtain ⟨a, y, rfl, ha, hq⟩ := h
  have v0 : PE (cxS P w K mg base ["self", y1] qual scope f (.ref cda) cc A outer s H E) (.Name "self" q1) (tVar 0) := pe_var rfl (.inl SF.slf)
  have v1 : PE (cxS P w K mg base ["self", y1] qual scope f (.ref cda) cc A outer s H E) (.Name y1 q3) (tVar 1) := pe_var rfl (.inl (S.par y1 (by simp))) d1 d2
  refine ⟨_, a, pss_one (ps_ost v0 v1), ?_, rfl, ha⟩
  refine ⟨y, rfl, .ref a, rfl, a, C, rfl, T, hf1, .inl ⟨ha, fun dx hd hn => hq dx hd hn⟩⟩
theorem fn_sup2 (he0 : SupHe m j p0 p1 p2 p3 p5) (SF : SupF P K C cda cc prm scope) (T : OexC K C) (hm : mg "super" = none) (hf1 : PySem.W.findIn K (.ref C) f1 = some none) (hf2 : PySem.W.findIn K (.ref C) f2 = some none)
    (lk : K.lookup f = some ⟨oc, od, .func (PySem.W.ksFn x qual prm [.Expr (supCall m j p0 p1 p2 p3 p5) p4, .Assign [.Attribute (.Name "self" q1) f1 q2] (.Name y1 q3) q4, .Assign [.Attribute (.Name "self" q5) f2 q6] (.Name y2 q7) q8] scope dV kV doc pm an (.ref cda) ct cc), osl⟩)
    (hcd : PySem.W.codeIn K (.ref cda) qual = true) (S : SupScope ["self", y1, y2] ["self", y1, y2] scope) (d1 : (y1 == ("__debug__" : Str)) = false := by decide) (d2 : (y1 == ("__classdict__" : Str)) = false := by decide) (d3 : (y2 == ("__debug__" : Str)) = false := by decide) (d4 : (y2 == ("__classdict__" : Str)) = false := by decide) :
    FnOk P w K mg base (L2.CX P w) 1 f (PySem.W.ksFn x qual prm [.Expr (supCall m j p0 p1 p2 p3 p5) p4, .Assign [.Attribute (.Name "self" q1) f1 q2] (.Name y1 q3) q4, .Assign [.Attribute (.Name "self" q5) f2 q6] (.Name y2 q7) q8] scope dV kV doc pm an (.ref cda) ct cc) ["self", y1, y2] (spS2 C f1 f2) := by
  refine fn_super he0 SF T hm lk hcd S rfl (fun vs H Q E h => by obtain ⟨a, y, z, rfl, _⟩ := h; rfl) fun A outer s H vs Q E h => ?_
  obtain ⟨a, y, z, rfl, ha, hq⟩ := h
  have v0 : PE (cxS P w K mg base ["self", y1, y2] qual scope f (.ref cda) cc A outer s H E) (.Name "self" q1) (tVar 0) := pe_var rfl (.inl SF.slf)
  have v1 : PE (cxS P w K mg base ["self", y1, y2] qual scope f (.ref cda) cc A outer s H E) (.Name y1 q3) (tVar 1) := pe_var rfl (.inl (S.par y1 (by simp))) d1 d2
  have w0 : PE (cxS P w K mg base ["self", y1, y2] qual scope f (.ref cda) cc A outer s H E) (.Name "self" q5) (tVar 0) := pe_var rfl (.inl SF.slf)
  have v2 : PE (cxS P w K mg base ["self", y1, y2] qual scope f (.ref cda) cc A outer s H E) (.Name y2 q7) (tVar 2) := pe_var rfl (.inl (S.par y2 (by simp))) d3 d4
  refine ⟨_, a, pss_cons (ps_ost v0 v1) (pss_one (ps_ost w0 v2)), ?_, rfl, ha⟩
  refine ⟨y, rfl, .ref a, rfl, a, C, rfl, T, hf1, .inl ⟨ha, fun dx hd hn => ?_⟩⟩
  refine ⟨z, rfl, .ref a, rfl, a, C, rfl, T, hf2, .inr ⟨dx, [(f1, y)], upd_same, ?_, by simp, hq dx hd hn⟩⟩
  rw [upd_ne hn, upd_same]
end
def sRaise (c : String) (fs : List Str) (ms : MEs) : MS := fun s h => (ms s h).bnS s fun xs h1 => if xs.length = fs.length then .err ⟨c, (fs.zip xs).reverse⟩ s h1 else .no
structure RaiM (P : Program) (w : World) (K : PySem.W.Frag) (mg : Str → Option Value) (base : Heap) (G : String → Option V) (c : String) (fs : List Str) (C : Addr) : Prop where
  g : G c = some (.ref C)
  oex : OexC K C
  run : ∃ fI fd ps sp, PySem.W.findIn K (.ref C) "__init__" = some (some (.ref fI)) ∧ PySem.W.typeIn K (.ref fI) = some (.type "function") ∧ FnOk P w K mg base (L2.CX P w) 1 fI fd ps sp ∧ Binds K fd ps [] ∧
    ((∃ f1, fs = [f1] ∧ sp = spS1 C f1) ∨ ∃ f1 f2, fs = [f1, f2] ∧ sp = spS2 C f1 f2)
section
variable {X : Cx} {G : String → Option V} {W : WX} {e : Expr} {es : List Expr} {ms : MEs} {x : Str} {p pos rpos : Pos} {c : String} {fs : List Str} {C : Addr}
theorem hr_exc {K : PySem.W.Frag} {ρ : List Addr} {H H' : Hp} {mh : MH} (hr : HR K G ρ H mh) (k : ∀ b o, H b = some o → H' b = some o) : HR K G ρ H' mh ∧ Ext K ρ H ρ H' := by
  have x : Ext K ρ H ρ H' := ⟨⟨[], by simp⟩, fun a vs h => k _ _ h, fun a vs h => h.elim (fun ⟨o, q⟩ => .inl ⟨o, k _ _ q⟩) .inr⟩
  exact ⟨⟨hr.len, hr.nd, fun i o e => let ⟨a, ha, q⟩ := hr.obj i o e; ⟨a, ha, q.keep x fun u hu => k _ _ hu⟩⟩, x⟩
theorem m_raise (R : RaiM X.prog X.w X.K X.mg X.base G c fs C) (hc : X.calm = true) (hr : Room 2 X.A) (tk : Takes X W) (hg : Gl X x) (hm : X.mg x = some (.ref C)) (ha : PA X (e :: es) (RA X.K G W ms))
    (hdb : (x == ("__debug__" : Str)) = false := by decide) (he : starEach (e :: es) X.env = (false, eval e X.env) :: starEach es X.env := by rfl) (hpl : (backTo pos (starEach es X.env)).any (·.1) = false := by rfl) :
    PS X (.Raise (some (.Call (.Name x p) (e :: es) [] pos)) none rpos) (RS X.K G W (sRaise c fs ms)) := by
  obtain ⟨g, T, fI, fd, ps, sp, iC, tI, F, hb, hsp⟩ := R
  refine ps_imp (ps_raise hc tk (pmk_oex T iC tI F hr hb .nil (fun pins σ H s e s' I hq => by
    obtain ⟨_, _, _, _, _, _, _, _, _, _, _, _, f⟩ := hq
    exact f.elim) hg hm ha hdb he hpl)) fun D σ H ⟨ρ, sm, mh, r0, q⟩ => ?_
  refine ras_bnd r0 q fun xs ρ1 H1 mh1 vs x1 r1 rvs q1 => ?_
  split at q1
  · rename_i hl
    rcases hsp with ⟨f1, rfl, rfl⟩ | ⟨f1, f2, rfl, rfl⟩
    · obtain ⟨z, rfl⟩ := len1 hl
      obtain ⟨v, rfl, rv⟩ := rvs.one
      refine ⟨by simp, fun a hna => ⟨a, v, rfl, upd_same, fun dx hd hn => ⟨rfl, dx, [(f1, v)], upd_same, ?_, ?_, ?_⟩⟩⟩
      · rw [upd_ne hn, upd_same]
      · rw [upd_ne hn] at hd; exact hd
      · rw [upd_ne hn] at hd
        have k : ∀ b o, H1 b = some o → (upd (del (upd (upd (upd H1 a (exo a C none)) dx (exd dx [(f1, v)])) a (exo a C (some dx))) a) dx (.xd [(f1, v)])) b = some o := fun b o hb => by
          rw [upd_ne (ne_of_none hb hd), del_ne (ne_of_none hb hna), upd_ne (ne_of_none hb hna), upd_ne (ne_of_none hb hd), upd_ne (ne_of_none hb hna)]
          exact hb
        obtain ⟨h1, h2⟩ := hr_exc r1.hr k
        exact q1 _ _ σ _ _ h2 h1 (r1.sr.ext h2) ⟨C, dx, _, g, rfl, rfl, r1.hr.notin hd, upd_same, v, [], rfl, rv.ext h2, rfl⟩
    · obtain ⟨z1, z2, rfl⟩ : ∃ a b, xs = [a, b] := by
        match xs, hl with
        | [a, b], _ => exact ⟨a, b, rfl⟩
      obtain ⟨v, u, rfl, rv, ru⟩ := rvs.two
      refine ⟨by simp, fun a hna => ⟨a, v, u, rfl, upd_same, fun dx hd hn => ⟨rfl, dx, [(f2, u), (f1, v)], ?_, upd_same, ?_, ?_⟩⟩⟩
      · rw [upd_ne (Ne.symm hn), upd_same]
      · rw [upd_ne hn] at hd; exact hd
      · rw [upd_ne hn] at hd
        have k : ∀ b o, H1 b = some o → (upd (del (upd (upd (upd (upd H1 a (exo a C none)) dx (exd dx [(f1, v)])) a (exo a C (some dx))) dx (exd dx [(f2, u), (f1, v)])) a) dx (.xd [(f2, u), (f1, v)])) b = some o := fun b o hb => by
          rw [upd_ne (ne_of_none hb hd), del_ne (ne_of_none hb hna), upd_ne (ne_of_none hb hd), upd_ne (ne_of_none hb hna), upd_ne (ne_of_none hb hd), upd_ne (ne_of_none hb hna)]
          exact hb
        obtain ⟨h1, h2⟩ := hr_exc r1.hr k
        exact q1 _ _ σ _ _ h2 h1 (r1.sr.ext h2) ⟨C, dx, _, g, rfl, rfl, r1.hr.notin hd, upd_same, u, _, rfl, ru.ext h2, v, [], rfl, rv.ext h2, rfl⟩
  · exact q1.elim
end
section
variable {s : Lo} {h : MH}
def KRa (r : Rz (List MV)) (s : Lo) (c : String) (fs : List Str) : SR := r.bnS s fun xs h1 => if xs.length = fs.length then .err ⟨c, (fs.zip xs).reverse⟩ s h1 else .no
@[simp] theorem sRaise_ev {c fs ms} : sRaise c fs ms s h = KRa (ms s h) s c fs := rfl
@[simp] theorem KRa_ok {xs c fs} : KRa (.ok xs h) s c fs = if xs.length = fs.length then .err ⟨c, (fs.zip xs).reverse⟩ s h else .no := rfl
end
end Mo
namespace Mo
open PySem L2
structure XA where
  a : Nat
  d : Nat
  c : String
def finT (i : Nat) : SR → SR
  | .nx s h => .nx (s.set i none) h
  | .bk s h => .bk (s.set i none) h
  | .ct s h => .ct (s.set i none) h
  | .rt v h => .rt v h
  | _ => .no
def finO : SR → SR
  | .err _ _ _ => .no
  | r => r
open Classical in
noncomputable def sUni (f : Nat → Nat → SR) : SR := if h : ∃ r, ∀ a d, f a d = r then h.choose else .no
theorem sUni_ok {f : Nat → Nat → SR} {r : SR} (h : sUni f = r) (hr : r ≠ .no) (a d : Nat) : f a d = r := by
  unfold sUni at h
  split at h
  · rename_i hx; rw [← h]; exact hx.choose_spec a d
  · exact absurd h.symm hr
@[simp] theorem sUni_const {r : SR} : sUni (fun _ _ => r) = r := by
  unfold sUni
  have hx : ∃ q, ∀ a d : Nat, (fun _ _ => r : Nat → Nat → SR) a d = q := ⟨r, fun _ _ => rfl⟩
  rw [dif_pos hx]
  exact (hx.choose_spec 0 0).symm
noncomputable def KTry (xt : String → Option Bool) (i : Nat) (su : XA → MS) : SR → SR
  | .err e s h => match xt e.c with
    | some true => sUni fun a d => finT i (su ⟨a, d, e.c⟩ (s.set i (some (.exa a d h.length))) (h ++ [.xd e.c e.fs]))
    | some false => .err e s h
    | none => .no
  | r => r
noncomputable def sTry (b : MS) (xt : String → Option Bool) (i : Nat) (su : XA → MS) : MS := fun s h => KTry xt i su (b s h)
noncomputable def KTryO (xt : String → Option Bool) (su : MS) : SR → SR
  | .err e s h => match xt e.c with
    | some true => finO (su s h)
    | some false => .err e s h
    | none => .no
  | r => r
noncomputable def sTryO (b : MS) (xt : String → Option Bool) (su : MS) : MS := fun s h => KTryO xt su (b s h)
structure ExmOk (K : PySem.W.Frag) (G : String → Option V) (cv : Value) (xt : String → Option Bool) : Prop where
  ok : ∀ c b C, xt c = some b → G c = some (.ref C) → PySem.W.exmOne K (.ref C) cv = some b
abbrev noW : WX := fun _ _ _ _ => False
section
variable {K : PySem.W.Frag} {G : String → Option V} {ρ : List Addr} {H : Hp} {mh : MH}
theorem HR.add {a : Addr} {o : MO} (h : HR K G ρ H mh) (hn : a ∉ ρ) (new : OR K G ρ H a o) : HR K G (ρ ++ [a]) H (mh ++ [o]) ∧ Ext K ρ H (ρ ++ [a]) H := by
  have x : Ext K ρ H (ρ ++ [a]) H := ⟨⟨[a], rfl⟩, fun _ _ q => q, fun _ _ q => q⟩
  refine ⟨⟨by simp [h.len], ?_, fun i u e => ?_⟩, x⟩
  · rw [List.nodup_append]
    refine ⟨h.nd, by simp, fun b hb c hc e => ?_⟩
    simp only [List.mem_singleton] at hc
    subst hc; subst e
    exact hn hb
  · by_cases hi : i < mh.length
    · rw [List.getElem?_append_left hi] at e
      obtain ⟨b, hb, q⟩ := h.obj i u e
      exact ⟨b, x.at hb, q.keep x fun _ z => z⟩
    · have hi' : i = mh.length := by
        have := (List.getElem?_eq_some_iff.mp e).1
        simp at this
        omega
      subst hi'
      rw [List.getElem?_append_right (Nat.le_refl _)] at e
      simp at e
      subst e
      refine ⟨a, ?_, new.keep x fun _ z => z⟩
      rw [← h.len, List.getElem?_append_right (Nat.le_refl _)]
      simp
theorem SRl.gone {s : Lo} {σ : St} {i : Nat} (h : SRl K G ρ H s σ) : SRl K G ρ H (s.set i none) (σ.set i none) := by
  refine ⟨by simp [h.1], fun j x e => ?_⟩
  by_cases hj : i = j
  · subst hj
    by_cases hl : i < s.length
    · rw [List.getElem?_set_self hl] at e; cases e
    · rw [List.getElem?_eq_none (by simp; omega)] at e; cases e
  · rw [List.getElem?_set_ne hj] at e
    obtain ⟨w, a, b⟩ := h.2 j x e
    exact ⟨w, by rw [List.getElem?_set_ne hj]; exact a, b⟩
end
section
variable {X : Cx} {G : String → Option V} {W : WX} {sts body suite : List Stmt} {b₀ : Stmt} {st : Stmt} {xt : String → Option Bool} {i : Nat} {x n : Str} {c : Value} {np pos pos' : Pos} {b : MS} {su : XA → MS} {so : MS}
theorem pss_ex {ι : Sort _} {t : ι → TS} (h : ∀ j, PSs X sts (t j)) : PSs X sts (fun D σ H => ∃ j, t j D σ H) :=
  ⟨fun pins s σ H D I ⟨j, q⟩ => (h j).run pins s σ H D I q⟩
theorem pss_and {p : Prop} {t : TS} (h : p → PSs X sts t) : PSs X sts (fun D σ H => p ∧ t D σ H) :=
  ⟨fun pins s σ H D I ⟨hp, q⟩ => (h hp).run pins s σ H D I q⟩
structure Held (X : Cx) (G : String → Option V) (xt : String → Option Bool) (y : XA) (cls : Value) (d : Option Addr) (C : Addr) : Prop where
  g : G y.c = some (.ref C)
  cls : cls = .ref C
  d : d = some y.d
  xt : xt y.c = some true
def tSu (X : Cx) (G : String → Option V) (xt : String → Option Bool) (su : XA → MS) (a : Addr) (cls : Value) (d : Option Addr) : TS := fun D σ H =>
  ∃ (y : XA) (C : Addr), (y.a = a ∧ Held X G xt y cls d C) ∧ RS X.K G noW (su y) D σ H
end
def xdAt (y : XA) (v : MV) (h : MH) : Option (List (Str × MV)) := match v with
  | .exa a d k => if a = y.a ∧ d = y.d then match h[k]? with
    | some (.xd c fs) => if c = y.c then some fs else none
    | _ => none else none
  | _ => none
def KXf (y : XA) (f : Str) (v : MV) (h : MH) : Rz MV := match xdAt y v h with
  | some fs => match fs.lookup f with
    | some u => .ok u h
    | none => .no
  | none => .no
def eXf (y : XA) (m : ME) (f : Str) : ME := fun s h => (m s h).bnd (KXf y f)
structure XfOk (K : PySem.W.Frag) (G : String → Option V) (xt : String → Option Bool) (f : Str) : Prop where
  ok : ∀ c C, xt c = some true → G c = some (.ref C) → XfC K C ∧ PySem.W.findIn K (.ref C) f = some none
structure XiOk (K : PySem.W.Frag) (G : String → Option V) (own : Own) : Prop where
  gref : ∀ s v, G s = some v → ∃ C, v = .ref C
  ok : ∀ c t b C cv, isiM own (.glo c) t = some b → G c = some (.ref C) → clsV G t = some cv → PySem.W.kitOne K (.ref C) cv = some b ∧ L2.ExcC K C
section
variable {X : Cx} {G : String → Option V} {y : XA} {oe : Obj} {cls : Value} {d : Option Addr} {C : Addr} {pn : List (Addr × Obj)} {xt : String → Option Bool} {own : Own} {e : Expr} {es : List Expr} {m : ME} {ms : MEs} {f x : Str} {p pos : Pos}
end
section
variable {s : Lo} {h : MH} {y : XA}
@[simp] theorem sTry_ev {b xt i su} : sTry b xt i su s h = KTry xt i su (b s h) := rfl
@[simp] theorem sTryO_ev {b xt su} : sTryO b xt su s h = KTryO xt su (b s h) := rfl
@[simp] theorem KTry_nx {xt i su} : KTry xt i su (.nx s h) = .nx s h := rfl
@[simp] theorem KTry_rt {xt i su v} : KTry xt i su (.rt v h) = .rt v h := rfl
@[simp] theorem KTryO_nx {xt su} : KTryO xt su (.nx s h) = .nx s h := rfl
@[simp] theorem KTryO_rt {xt su v} : KTryO xt su (.rt v h) = .rt v h := rfl
@[simp] theorem finT_nx {i} : finT i (.nx s h) = .nx (s.set i none) h := rfl
@[simp] theorem finT_rt {i v} : finT i (.rt v h) = .rt v h := rfl
@[simp] theorem finO_nx : finO (.nx s h) = .nx s h := rfl
@[simp] theorem finO_rt {v} : finO (.rt v h) = .rt v h := rfl
@[simp] theorem eXf_ev {m f} : eXf y m f s h = (m s h).bnd (KXf y f) := rfl
end
end Mo
namespace Mo
open PySem L2
def wipeM (s : Lo) : List Nat → Lo
  | [] => s
  | v :: vs => (wipeM s vs).set v none
def Rz.bdN {α β : Type} (r : Rz α) (k : α → MH → Rz β) : Rz β := match r with
  | .ok v h => k v h
  | _ => .no
def putLc (k : Nat) (y : MV) (h : MH) : Option MH := match h[k]? with
  | some (.lst acc) => if acc.length < SZ then some (h.set k (.lst (acc ++ [y]))) else none
  | _ => none
def lcG (get : Itm) (g : MG) (c : MB) (m : ME) (k : Nat) : Nat → Nat → Lo → MH → Rz MV
  | 0, _, _, _ => .no
  | n + 1, i, s, h => match get i h with
    | none => .no
    | some none => .ok (.ref k) h
    | some (some x) => match g x s with
      | none => .no
      | some s1 => (c s1 h).bdN fun b h1 => if b = true then (m s1 h1).bdN fun y h2 => match putLc k y h2 with
          | some h3 => lcG get g c m k n (i + 1) s h3
          | none => .no
        else lcG get g c m k n (i + 1) s h1
def bYes : MB := fun _ h => .ok true h
def lcV (g : MG) (c : MB) (m : ME) (s : Lo) (v : MV) (h : MH) : Rz MV := match v with
  | .str z => lcG (getL (chars z)) g c m h.length (z.length + 1) 0 s (h ++ [.lst []])
  | v => match asT v with
    | some xs => lcG (getL xs) g c m h.length (xs.length + 1) 0 s (h ++ [.lst []])
    | none => match seqOf h v with
      | some xs => lcG (getSeq v) g c m h.length (xs.length + 1) 0 s (h ++ [.lst []])
      | none => .no
def eLc (it : ME) (g : MG) (c : MB) (m : ME) (vs : List Nat) : ME := fun s h => (it s h).bnd fun v h1 => lcV g c m (wipeM s vs) v h1
def GW (K : PySem.W.Frag) (G : String → Option V) (t : TG) (g : MG) (us : List Nat) : Prop :=
  ∀ {ρ : List Addr} {H : Hp} {sm s1 : Lo} {σ : St} {x : MV} {v : V} {mh : MH} {Q : St → Hp → Prop}, HR K G ρ H mh → SRl K G ρ H sm σ → VR K G ρ H x v → g x sm = some s1 → (∀ σ1, SRl K G ρ H s1 σ1 → wipe σ1 us = wipe σ us → Q σ1 H) → t v σ H Q
def GWs (K : PySem.W.Frag) (G : String → Option V) (t : TGs) (is us : List Nat) : Prop :=
  ∀ {ρ : List Addr} {H : Hp} {sm s1 : Lo} {σ : St} {xs : List MV} {vs : List V} {mh : MH} {Q : St → Hp → Prop}, HR K G ρ H mh → SRl K G ρ H sm σ → VRs K G ρ H xs vs → setAll is xs sm = some s1 → (∀ σ1, SRl K G ρ H s1 σ1 → wipe σ1 us = wipe σ us → Q σ1 H) → t vs σ H Q
section
variable {K : PySem.W.Frag} {G : String → Option V} {W : WX}
theorem wipe_get (σ : St) (j : Nat) : ∀ us : List Nat, (wipe σ us)[j]? = if j ∈ us ∧ j < σ.length then some none else σ[j]?
  | [] => by simp [wipe]
  | v :: us => by
    unfold wipe
    have ih := wipe_get σ j us
    by_cases e : v = j
    · subst e
      by_cases hl : v < σ.length
      · rw [List.getElem?_set_self (by rw [wipe_length]; exact hl)]
        simp [hl]
      · rw [List.getElem?_eq_none (by simp [wipe_length]; omega)]
        simp [hl]
    · rw [List.getElem?_set_ne e, ih]
      have : (j ∈ v :: us) ↔ j ∈ us := by simp [Ne.symm e]
      simp only [this]
theorem wipe_set {σ : St} {i : Nat} {v : Option V} {us : List Nat} (hi : i ∈ us) : wipe (σ.set i v) us = wipe σ us := by
  apply List.ext_getElem?
  intro j
  rw [wipe_get, wipe_get]
  simp only [List.length_set]
  by_cases e : i = j
  · subst e
    by_cases hl : i < σ.length
    · simp [hi, hl]
    · have h1 : σ[i]? = none := List.getElem?_eq_none (by omega)
      have h2 : (σ.set i v)[i]? = none := List.getElem?_eq_none (by simp; omega)
      simp [hl]
  · rw [List.getElem?_set_ne e]
theorem wipe_wipe {σ : St} {us : List Nat} : wipe (wipe σ us) us = wipe σ us := by
  apply List.ext_getElem?
  intro j
  rw [wipe_get, wipe_get, wipe_length]
  by_cases h : j ∈ us ∧ j < σ.length <;> simp [h]
theorem SRl.wipe {ρ : List Addr} {H : Hp} {s : Lo} {σ : St} (h : SRl K G ρ H s σ) : ∀ us : List Nat, SRl K G ρ H (wipeM s us) (L2.wipe σ us)
  | [] => h
  | v :: us => (SRl.wipe h us).gone
theorem gw_name {i : Nat} {us : List Nat} (hi : i ∈ us) : GW K G (gName i) (gN i) us := by
  intro ρ H sm s1 σ x v mh Q hr sr rv e k
  cases e
  exact k _ (sr.set rv) (wipe_set hi)
theorem gws_nil {us : List Nat} : GWs K G gNil [] us := by
  intro ρ H sm s1 σ xs vs mh Q hr sr rvs e k
  cases xs with
  | nil => simp only [VRs] at rvs; subst rvs; cases e; exact ⟨rfl, k _ sr rfl⟩
  | cons x xs => cases e
theorem gws_cons {i : Nat} {is us : List Nat} {u : TGs} (hi : i ∈ us) (h : GWs K G u is us) : GWs K G (gCons (gName i) u) (i :: is) us := by
  intro ρ H sm s1 σ xs vs mh Q hr sr rvs e k
  cases xs with
  | nil => cases e
  | cons x xs =>
    simp only [VRs] at rvs
    obtain ⟨v, r, rfl, q, t⟩ := rvs
    exact ⟨v, r, rfl, h hr (sr.set q) t e fun σ1 s1 e1 => k σ1 s1 (e1.trans (wipe_set hi))⟩
theorem gw_tup {is us : List Nat} {u : TGs} (h : GWs K G u is us) : GW K G (gTup K is.length u) (gT is) us := by
  intro ρ H sm s1 σ x v mh Q hr sr rv e k
  unfold gT at e
  cases e1 : asT x with
  | none => rw [e1] at e; cases e
  | some xs =>
    rw [e1] at e
    have e' : setAll is xs sm = some s1 := e
    obtain ⟨a, vs, rfl, h1, h2⟩ := rv.tup e1
    exact ⟨a, vs, rfl, h1, by rw [← h2.length, setAll_len e'], h hr sr h2 e' k⟩
theorem lc_sim {ρ0 ρ : List Addr} {H0 H : Hp} {J : It} {get : Itm} {t : TG} {g : MG} {c : MB} {m : ME} {us : List Nat} {n : Nat} {sm : Lo} {σ : St} {mh : MH} {Q : VK} {D : Addr} (T : ItS K G ρ0 H0 J get) (hg : GW K G t g us) (x0 : Ext K ρ0 H0 ρ H) (r0 : Rl K G ρ H sm σ mh)
    (hD : H D = none) (h : RO K G W σ (PV K G Q) ρ H (lcG get g c m mh.length n 0 (wipeM sm us) (mh ++ [.lst []]))) :
    ∃ W' : Nat → Nat → Hp → Prop, (∃ q, W' 0 q (upd H D (.lst []))) ∧ ∀ i q H, W' i q H →
      (J.stop i H ∧ Q (.ref D) H) ∨ (J.go i H ∧ ∃ Nx : Hp → Prop, (∀ H', Nx H' → ∃ m', m' < q ∧ W' (i + 1) m' H') ∧ ∀ x H', J.yld i H x H' → t x (wipe σ us) H' fun σ2 H2 => wipe σ2 us = wipe σ us ∧ RT K G noW c σ2 H2 fun b H3 =>
        if b = true then RE K G noW m σ2 H3 fun y H4 => ∃ acc, H4 D = some (.lst acc) ∧ acc.length < sizeLine ∧ Nx (upd H4 D (.lst (acc ++ [y]))) else Nx H3) := by
  let P : Nat → Nat → Hp → Prop := fun i q H => ∃ ρ mh', Ext K ρ0 H0 ρ H ∧ HR K G ρ H mh' ∧ ρ[mh.length]? = some D ∧ SRl K G ρ H (wipeM sm us) (wipe σ us) ∧ RO K G W σ (PV K G Q) ρ H (lcG get g c m mh.length q i (wipeM sm us) mh')
  refine ⟨P, ⟨n, ?_⟩, ?_⟩
  · obtain ⟨h1, x1⟩ := r0.hr.new (u := .lst []) (o := .lst []) hD ⟨[], upd_same, VRs.nil⟩
    exact ⟨ρ ++ [D], mh ++ [.lst []], x0.trans x1, h1, by rw [← r0.hr.len, List.getElem?_append_right (Nat.le_refl _)]; simp, (r0.sr.wipe us).ext x1, h.ext x1⟩
  rintro i q H1 ⟨ρ1, mh1, x, hr, hk, sr, q1⟩
  cases q with
  | zero => exact False.elim q1
  | succ q =>
    unfold lcG at q1
    cases e : get i mh1 with
    | none => rw [e] at q1; exact False.elim q1
    | some o =>
      rw [e] at q1
      cases o with
      | none => exact .inl ⟨T.stop x hr e, RO.ok (P := PV K G Q) q1 hr _ (by simp only [VR]; exact ⟨D, rfl, hk⟩)⟩
      | some v =>
        refine .inr ⟨T.go x hr e, fun H' => P (i + 1) q H', fun H' z => ⟨q, Nat.lt_succ_self _, z⟩, fun y H' hy => ?_⟩
        obtain ⟨ρ', x', hr', rv⟩ := T.yld x hr e hy
        dsimp only at q1
        cases e2 : g v (wipeM sm us) with
        | none => rw [e2] at q1; exact False.elim q1
        | some s1 =>
          rw [e2] at q1
          refine hg hr' (sr.ext x') rv e2 fun σ1 sr1 w1 => ⟨w1.trans wipe_wipe, ρ', s1, mh1, ⟨hr', sr1⟩, ?_⟩
          dsimp only at q1
          cases e3 : c s1 mh1 with
          | no => rw [e3] at q1; exact False.elim q1
          | err z m1 => rw [e3] at q1; exact False.elim q1
          | ok b mh2 =>
            rw [e3] at q1
            dsimp only [Rz.bdN] at q1
            intro ρ2 H2 x2 hr2
            have xx := x'.trans x2
            cases b with
            | false =>
              rw [if_neg Bool.false_ne_true] at q1
              dsimp only [PB]
              rw [if_neg Bool.false_ne_true]
              exact ⟨ρ2, mh2, x.trans xx, hr2, xx.at hk, sr.ext xx, q1.ext xx⟩
            | true =>
              rw [if_pos rfl] at q1
              dsimp only [PB]
              rw [if_pos rfl]
              refine ⟨ρ2, s1, mh2, ⟨hr2, sr1.ext x2⟩, ?_⟩
              cases e4 : m s1 mh2 with
              | no => rw [e4] at q1; exact False.elim q1
              | err z m1 => rw [e4] at q1; exact False.elim q1
              | ok u mh3 =>
                rw [e4] at q1
                dsimp only at q1
                intro ρ3 H3 x3 hr3 u1 ru
                have x4 := xx.trans x3
                unfold putLc at q1
                split at q1
                · rename_i h4 e5
                  split at e5
                  · rename_i acc e6
                    split at e5
                    · rename_i hl
                      cases e5
                      obtain ⟨vs, g1, g2⟩ := hr3.get e6 (x4.at hk)
                      refine ⟨vs, g1, by rw [SZ_eq, ← g2.length]; exact hl, ?_⟩
                      obtain ⟨w1, w2⟩ := hr3.write (u := .lst (vs ++ [u1])) (o1 := .lst (acc ++ [u])) e6 (x4.at hk) ⟨_, upd_same, (g2.append (VRs.cons ru VRs.nil)).ext (ext_write g1 (by simp [Plain]))⟩
                      have x5 := x4.trans w2
                      exact ⟨ρ3, _, x.trans x5, w1, x5.at hk, sr.ext x5, q1.ext x5⟩
                    · cases e5
                  · cases e5
                · exact False.elim q1
end
section
variable {X : Cx} {G : String → Option V} {W : WX} {elt tg iter a b' : Expr} {ifs : List Expr} {scope : Scope} {own : List (Str × Nat)} {pos spos p cpos : Pos} {mi m : ME} {ms : MEs} {c : MB} {t : TG} {g : MG}
theorem takes_no : Takes X noW := fun u s' h => by
  obtain ⟨a, B, sI, pins, σ, H, cls, d, h⟩ := h
  exact (h.2.2.2.2.2.2.2.2).elim
theorem m_tests0 : PTs X [] (RT X.K G noW bYes) := ⟨fun pins s σ H Q I ⟨ρ, sm, mh, r, q⟩ => pts_nil.run pins s σ H Q I (RO.ok (P := PB Q) q r.hr)⟩
theorem m_tests1 {e : Expr} (h : PT X e (RT X.K G noW c)) : PTs X [e] (RT X.K G noW c) := pts_one h
theorem lc_re {us : List Nat} (hgw : GW X.K G t g us) (σ : St) (H : Hp) (Q : VK) (h : RE X.K G W (eLc mi g c m us) σ H Q) :
    tLc (iList X.K (RE X.K G W mi)) t (RT X.K G noW c) (RE X.K G noW m) us σ H Q ∨ tLc (iTup X.K (RE X.K G W mi)) t (RT X.K G noW c) (RE X.K G noW m) us σ H Q ∨ tLc (iStr (RE X.K G W mi)) t (RT X.K G noW c) (RE X.K G noW m) us σ H Q := by
  obtain ⟨ρ, sm, mh, r, q⟩ := h
  unfold eLc at q
  cases e : mi sm mh with
  | no => rw [e] at q; exact False.elim q
  | err v m1 =>
    rw [e] at q
    refine .inl ⟨ρ, sm, mh, r, ?_⟩
    rw [e]
    exact q
  | ok v m1 =>
    have run : ∀ {Q : VK}, (∀ ρ1 H1 w, Ext X.K ρ H ρ1 H1 → Rl X.K G ρ1 H1 sm σ m1 → VR X.K G ρ1 H1 v w → Q w H1) → RE X.K G W mi σ H Q := fun {Q} k => by
      refine ⟨ρ, sm, mh, r, ?_⟩
      rw [e]
      exact fun ρ1 H1 x hr w rv => k ρ1 H1 w x (r.at x hr) rv
    rw [e] at q
    dsimp only [Rz.bnd, lcV] at q
    split at q
    · rename_i z
      refine .inr (.inr (run fun ρ1 H1 w x1 r1 rv => ?_))
      simp only [VR] at rv
      subst rv
      exact ⟨z, rfl, fun D hD => lc_sim its_str hgw (Ext.refl (ρ := ρ1)) r1 hD (RO.ext q x1)⟩
    · split at q
      · rename_i xs hx
        refine .inr (.inl (run fun ρ1 H1 w x1 r1 rv => ?_))
        obtain ⟨a, vs, rfl, h1, h2⟩ := rv.tup hx
        exact ⟨a, rfl, ⟨vs, h1⟩, fun D hD => lc_sim (its_tup rv hx) hgw (Ext.refl (ρ := ρ1)) r1 hD (RO.ext q x1)⟩
      · rename_i hx
        split at q
        · rename_i xs hq
          refine .inl (run fun ρ1 H1 w x1 r1 rv => ?_)
          obtain ⟨a, vs, rfl, h1, h2⟩ := seq_V r1.hr hq rv
          refine ⟨a, rfl, ?_, fun D hD => lc_sim (its_list rv hx) hgw (Ext.refl (ρ := ρ1)) r1 hD (RO.ext q x1)⟩
          rcases h1 with h1 | h1
          · exact ⟨vs, h1⟩
          · have z : ∃ vs, SqL X.K H1 a vs := by
              cases v with
              | ref i =>
                simp only [seqOf] at hq
                split at hq
                · rename_i q2
                  obtain ⟨b, ws, e1, _, h3, _⟩ := r1.hr.lst q2 rv
                  cases e1
                  exact ⟨ws, SqL.of h3⟩
                · cases hq
              | frl ys =>
                simp only [VR] at rv
                obtain ⟨b, ws, e1, h3, _⟩ := rv
                cases e1
                exact ⟨ws, h3.sq⟩
              | tup _ => simp [asT] at hx
              | ktp _ => simp [asT] at hx
              | _ => simp [seqOf] at hq
            exact z
        · exact False.elim q
abbrev InBlk (X : Cx) (scope : Scope) (p : Cx → Prop) : Prop := ∀ (s : Shared) (H : Hp) (C : Addr) (cl : List (Str × Addr)) (fp : List Addr), p (X.blk s H scope (compEnvC scope cl C X.env) fp)
theorem m_lc (hc : X.calm = true) (hN : X.N.Nodup) (ok : BlkOk X.N X.env.scope scope own) (hi : PE X iter (RE X.K G W mi)) (hgw : GW X.K G t g (own.map (·.2)))
    (hg : InBlk X scope fun Y => PG Y tg t) (ht : InBlk X scope fun Y => PTs Y ifs (RT X.K G noW c)) (he : InBlk X scope fun Y => PE Y elt (RE X.K G noW m)) (hs : ∀ x, foldedSetIterable iter X.env x = pure x := by intro _; rfl) :
    PE X (.ListComp elt [⟨tg, iter, ifs, 0⟩] scope pos) (RE X.K G W (eLc mi g c m (own.map (·.2)))) :=
  pe_imp (pe_alt (pe_lc hc hN (pi_list hi) ok hg ht he hs) (pe_alt (pe_lc hc hN (pi_tup hi) ok hg ht he hs) (pe_lc hc hN (pi_str hi) ok hg ht he hs))) fun σ H Q h => lc_re hgw σ H Q h
theorem m_setLc {i : Nat} {y : Str} {py : Pos} (hc : X.calm = true) (hN : X.N.Nodup) (hy : X.N[i]? = some y) (hyl : X.env.scope.names.lookup y = some .local) (hsw : swapsWith (.ListComp elt [⟨tg, iter, ifs, 0⟩] scope pos) (some (.Name y py)) spos.line X.env = pure true)
    (ok : BlkOk X.N X.env.scope scope own) (hi : PE X iter (RE X.K G W mi)) (hgw : GW X.K G t g (own.map (·.2)))
    (hg : InBlk X scope fun Y => PG Y tg t) (ht : InBlk X scope fun Y => PTs Y ifs (RT X.K G noW c)) (he : InBlk X scope fun Y => PE Y elt (RE X.K G noW m)) (hs : ∀ x, foldedSetIterable iter X.env x = pure x := by intro _; rfl) :
    PS X (.Assign [.Name y py] (.ListComp elt [⟨tg, iter, ifs, 0⟩] scope pos) spos) (RS X.K G W (sAsg (eLc mi g c m (own.map (·.2))) (gN i))) :=
  ps_imp (ps_alt (ps_setLc hc hN hy hyl hsw (pi_list hi) ok hg ht he hs) (ps_alt (ps_setLc hc hN hy hyl hsw (pi_tup hi) ok hg ht he hs) (ps_setLc hc hN hy hyl hsw (pi_str hi) ok hg ht he hs)))
    fun D σ H h => asg_re gs_name (te := fun σ H Q => tLc (iList X.K (RE X.K G W mi)) t (RT X.K G noW c) (RE X.K G noW m) (own.map fun y : Str × Nat => y.2) σ H Q ∨ tLc (iTup X.K (RE X.K G W mi)) t (RT X.K G noW c) (RE X.K G noW m) (own.map fun y : Str × Nat => y.2) σ H Q ∨ tLc (iStr (RE X.K G W mi)) t (RT X.K G noW c) (RE X.K G noW m) (own.map fun y : Str × Nat => y.2) σ H Q) (fun σ H Q h => lc_re hgw σ H Q h) D σ H h
end
section
variable {s : Lo} {h : MH} {get : Itm} {g : MG} {c : MB} {m : ME}
def KCo (r : Rz MV) (g : MG) (c : MB) (m : ME) (s : Lo) : Rz MV := r.bnd (lcV g c m s)
theorem eLc_ev {it us} : eLc it g c m us s h = KCo (it s h) g c m (wipeM s us) := rfl
theorem KCo_ok {v} : KCo (.ok v h) g c m s = lcV g c m s v h := rfl
theorem lcV_ref {i xs} (e : seqOf h (.ref i) = some xs) : lcV g c m s (.ref i) h = lcG (getSeq (.ref i)) g c m h.length (xs.length + 1) 0 s (h ++ [.lst []]) := by
  unfold lcV
  simp only [asT, e]
theorem lcG_run {xs : List MV} {f : MV → MV} {p : MV → Bool} (hl : xs.length ≤ SZ) (hget : ∀ i acc, i ≤ xs.length → get i (h ++ [.lst acc]) = some xs[i]?)
    (hstep : ∀ x ∈ xs, ∃ s1, g x s = some s1 ∧ ∀ acc, c s1 (h ++ [.lst acc]) = .ok (p x) (h ++ [.lst acc]) ∧ (p x = true → m s1 (h ++ [.lst acc]) = .ok (f x) (h ++ [.lst acc]))) :
    lcG get g c m h.length (xs.length + 1) 0 s (h ++ [.lst []]) = .ok (.ref h.length) (h ++ [.lst ((xs.filter p).map f)]) := by
  have key : ∀ k i, i + k = xs.length → lcG get g c m h.length (k + 1) i s (h ++ [.lst (((xs.take i).filter p).map f)]) = .ok (.ref h.length) (h ++ [.lst ((xs.filter p).map f)]) := by
    intro k
    induction k with
    | zero =>
      intro i hi
      have hi' : i = xs.length := by omega
      subst hi'
      unfold lcG
      rw [hget _ _ (Nat.le_refl _)]
      simp
    | succ k ih =>
      intro i hi
      have hlt : i < xs.length := by omega
      unfold lcG
      rw [hget _ _ (by omega), List.getElem?_eq_getElem hlt]
      obtain ⟨s1, e1, e2⟩ := hstep xs[i] (List.getElem_mem hlt)
      obtain ⟨e3, e4⟩ := e2 (((xs.take i).filter p).map f)
      have ht : xs.take (i + 1) = xs.take i ++ [xs[i]] := by rw [List.take_succ, List.getElem?_eq_getElem hlt]; rfl
      have n := ih (i + 1) (by omega)
      rw [ht, List.filter_append, List.map_append] at n
      simp only [e1, e3, Rz.bdN]
      cases hp : p xs[i] with
      | false =>
        simp only [List.filter_cons, hp, List.filter_nil] at n
        simpa using n
      | true =>
        simp only [List.filter_cons, hp, List.filter_nil] at n
        rw [if_pos rfl, e4 hp]
        have hle : (((xs.take i).filter p).map f).length < SZ := by
          rw [List.length_map]
          have := List.length_filter_le p (xs.take i)
          rw [List.length_take] at this
          omega
        have hput : putLc h.length (f xs[i]) (h ++ [.lst (((xs.take i).filter p).map f)]) = some (h ++ [.lst (((xs.take i).filter p).map f ++ [f xs[i]])]) := by
          unfold putLc
          rw [List.getElem?_append_right (Nat.le_refl _)]
          simp only [Nat.sub_self, List.getElem?_cons_zero, if_pos hle]
          simp [List.set_append_right]
        simp only [hput]
        simpa using n
  have := key xs.length 0 (by omega)
  simpa using this
theorem lcS_run {i : Nat} {xs : List MV} {f : MV → MV} {p : MV → Bool} (hl : xs.length ≤ SZ) (hx : h[i]? = some (.lst xs))
    (hstep : ∀ x ∈ xs, ∃ s1, g x s = some s1 ∧ ∀ acc, c s1 (h ++ [.lst acc]) = .ok (p x) (h ++ [.lst acc]) ∧ (p x = true → m s1 (h ++ [.lst acc]) = .ok (f x) (h ++ [.lst acc]))) :
    lcV g c m s (.ref i) h = .ok (.ref h.length) (h ++ [.lst ((xs.filter p).map f)]) := by
  rw [lcV_ref (xs := xs) (by simp [seqOf, hx])]
  refine lcG_run hl (fun j acc _ => ?_) hstep
  unfold getSeq
  have hlt := (List.getElem?_eq_some_iff.mp hx).1
  simp only [seqOf, List.getElem?_append_left hlt, hx]
  rfl
end
end Mo
namespace Mo
open PySem L2
section
variable {X : Cx} {G : String → Option V} {W : WX} {elt tg a b' : Expr} {ifs : List Expr} {scope : Scope} {own : List (Str × Nat)} {pos spos p cpos py : Pos} {m : ME} {ms : MEs} {c : MB} {t : TG} {g : MG} {i : Nat} {y : Str}
end
section
variable {X : Cx} {G : String → Option V} {W : WX} {e : Expr} {es : List Expr} {mo : ME} {ms : MEs} {x : Str} {p pos : Pos} {k n : Nat} {fa C : Addr} {fd : FuncData} {ps : List Str} {f : MF} {c : String}
end
theorem oex_of {K : PySem.W.Frag} {C : Addr} (h : oexB K C = true) : OexC K C := by
  unfold oexB at h
  obtain ⟨h1, h⟩ := He.ba h
  obtain ⟨h2, h⟩ := He.ba h
  obtain ⟨h3, h⟩ := He.ba h
  obtain ⟨h4, h5⟩ := He.ba h
  refine ⟨?_, of_decide_eq_true h2, of_decide_eq_true h3, of_decide_eq_true h4, h5⟩
  split at h1
  · rename_i t dd cd sl e
    obtain ⟨a1, h1⟩ := He.ba h1
    obtain ⟨a2, h1⟩ := He.ba h1
    obtain ⟨a3, h1⟩ := He.ba h1
    obtain ⟨a4, a5⟩ := He.ba h1
    have a1 := of_decide_eq_true a1
    subst a1
    obtain ⟨nm, bs, mro, ns, qn, hd, sn, sub, ab, col, del⟩ := cd
    dsimp only at a2 a3 a4
    rcases mro with _ | ⟨c0, bm⟩
    · cases a2
    · cases c0 with
      | ref c =>
        obtain ⟨a6, a7⟩ := He.ba a2
        have a6 := of_decide_eq_true a6
        subst a6
        generalize hl : sl.toList = l at a5
        split at a5
        · rename_i k0 k1 k2 k3 k4 k5
          have hs : sl = #[k0, k1, k2, k3, k4, k5] := by rw [← Array.toList_inj, hl]
          subst hs
          have a8 : k4 = some (.builtin "ValueError.__new__") := beq_iff_eq.mp a5
          subst a8 a3
          have a9 : del = false := by simpa using a4
          subst a9
          exact ⟨nm, qn, ns, bs, bm, sn, sub, ab, col, dd, k0, k1, k2, k3, k5, e, a7⟩
        · cases a5
      | _ => cases a2
  · cases h1
def fnC (K : PySem.W.Frag) (f : Addr) (qual : Str) (prm : Arguments) (body : List Stmt) (scope : Scope) : Prop := He5.fnA K f = some (("__init__" : Str), qual, prm, FuncBody.stmts body, scope, mainGlobals, [(("__class__" : Str), ccOf K f)], builtinsNs)
structure ExcI (K : PySem.W.Frag) (fl : Str) (C f : Addr) (qual : Str) (prm : Arguments) (body : List Stmt) (scope : Scope) : Prop where
  lk : ∃ oc od osl kV doc pm an ct, K.lookup f = some ⟨oc, od, .func (PySem.W.ksFn "__init__" qual prm body scope .none kV doc pm an (.ref (cdOf K f)) ct (ccOf K f)), osl⟩
  ini : PySem.W.findIn K (.ref C) "__init__" = some (some (.ref f))
  tI : PySem.W.typeIn K (.ref f) = some (.type "function")
  cd : PySem.W.codeIn K (.ref (cdOf K f)) qual = true
  fil : ∃ cl dd vs sl file tf, K.lookup (cdOf K f) = some ⟨cl, dd, .fields vs, sl⟩ ∧ vs[2]? = some (.str file tf) ∧ (fl == file) = true
  cell : ∃ cl dd sl, K.lookup (ccOf K f) = some ⟨cl, dd, .cell (some (.ref C)), sl⟩
  opq : PySem.W.nsIn K PySem.cStatics "thirdparty.any" = some none
  mro : PySem.W.mroIn K C (.ref C) = some true
  sup : PySem.W.ks_superIn K C C "__init__" = some (some (.builtin "ValueError.__init__"))
  isB : PySem.W.subIn K (.ref C) (.type "ValueError") = some true
theorem exci_of {K : PySem.W.Frag} {fl : Str} {C f : Addr} {qual : Str} {prm : Arguments} {body : List Stmt} {scope : Scope} (e : fnC K f qual prm body scope) (h : supB K fl C f qual = true) : ExcI K fl C f qual prm body scope := by
  unfold supB at h
  obtain ⟨h1, h⟩ := He.ba h
  obtain ⟨h2, h⟩ := He.ba h
  obtain ⟨h3, h⟩ := He.ba h
  obtain ⟨h4, h⟩ := He.ba h
  obtain ⟨h5, h⟩ := He.ba h
  obtain ⟨h6, h⟩ := He.ba h
  obtain ⟨h7, h⟩ := He.ba h
  obtain ⟨h8, h⟩ := He.ba h
  obtain ⟨h9, h10⟩ := He.ba h
  refine ⟨?_, of_decide_eq_true h1, of_decide_eq_true h2, h4, ?_, ?_, of_decide_eq_true h7, of_decide_eq_true h8, of_decide_eq_true h9, of_decide_eq_true h10⟩
  · unfold fnC He5.fnA at e
    split at h3
    · rename_i oc od fd osl q
      rw [q] at e
      obtain ⟨a1, a2⟩ := He.ba h3
      obtain ⟨n1, n2, n3, n4, n5, n6, n7, n8, n9, n10, n11, n12, n13, n14, n15⟩ := fd
      have b1 : n13 = .ref (cdOf K f) := beq_iff_eq.mp a1
      have b2 : n8 = .none := beq_iff_eq.mp a2
      dsimp only at e
      simp only [Option.some.injEq, Prod.mk.injEq] at e
      obtain ⟨rfl, rfl, rfl, rfl, rfl, rfl, e7, rfl⟩ := e
      rw [e7, b1, b2] at q
      exact ⟨oc, od, osl, _, _, _, _, _, q⟩
    · cases h3
  · split at h5
    · rename_i cl dd vs sl q
      split at h5
      · rename_i fi tf q2
        exact ⟨cl, dd, vs, sl, fi, tf, q, q2, h5⟩
      · cases h5
    · cases h5
  · split at h6
    · rename_i cl dd D sl q
      have := of_decide_eq_true h6
      subst this
      exact ⟨cl, dd, sl, q⟩
    · cases h6
structure PFa (P : Program) (fl : Str) : Prop where
  file : P.main.file = fl
  top : (P.main.scope.names.lookup ("super" : Str)).isSome = false
section
variable {P : Program} {w : World} {K : PySem.W.Frag} {mg : Str → Option Value} {base : Heap} {fl qual y1 y2 f1 f2 m : Str} {C f : Addr} {prm : Arguments} {scope : Scope} {c : String} {j : Nat} {p0 p1 p2 p3 p4 p5 q1 q2 q3 q4 q5 q6 q7 q8 : Pos}
theorem supF_of {body : List Stmt} (hP : PFa P fl) (I : ExcI K fl C f qual prm body scope) (ha : ∃ ar : Arg, (prm.posonlyargs ++ prm.args).head? = some ar ∧ ar.arg = "self") (h1 : scope.names.lookup ("super" : Str) = some .globalImplicit) (h2 : scope.names.lookup ("__class__" : Str) = some .free)
    (h3 : scope.names.lookup ("self" : Str) = some .local) (h4 : scope.kind = .function) : SupF P K C (cdOf K f) (ccOf K f) prm scope :=
  ⟨by rw [hP.file]; exact I.fil, I.cell, ha, h1, h2, h3, h4, hP.top, I.opq, I.mro, I.sup, I.isB⟩
theorem rai1 (hP : PFa P fl) (I : ExcI K fl C f qual prm [.Expr (supCall m j p0 p1 p2 p3 p5) p4, .Assign [.Attribute (.Name "self" q1) f1 q2] (.Name y1 q3) q4] scope) (O : OexC K C) (g : gOf K c = some (.ref C)) (hm : mg "super" = none) (hf1 : PySem.W.findIn K (.ref C) f1 = some none)
    (he0 : SupHe m j p0 p1 p2 p3 p5) (S : SupScope ["self", y1] ["self", y1] scope) (ha : ∃ ar : Arg, (prm.posonlyargs ++ prm.args).head? = some ar ∧ ar.arg = "self") (h1 : scope.names.lookup ("super" : Str) = some .globalImplicit) (h2 : scope.names.lookup ("__class__" : Str) = some .free)
    (hb : ∀ (kV doc pm : Value) (an : Option Addr) (cdv ct : Value) (cc : Addr) (us : List Value), us.length = 2 → bindArgs (PySem.W.ksFn "__init__" qual prm [.Expr (supCall m j p0 p1 p2 p3 p5) p4, .Assign [.Attribute (.Name "self" q1) f1 q2] (.Name y1 q3) q4] scope .none kV doc pm an cdv ct cc) ⟨us, []⟩ = pure ([("self" : Str), y1].zip us))
    (d1 : (y1 == ("__debug__" : Str)) = false := by decide) (d2 : (y1 == ("__classdict__" : Str)) = false := by decide) : RaiM P w K mg base (gOf K) c [f1] C := by
  obtain ⟨oc, od, osl, kV, doc, pm, an, ct, lk⟩ := I.lk
  exact ⟨g, O, f, _, _, _, I.ini, I.tI, fn_sup1 he0 (supF_of hP I ha h1 h2 (S.par _ (by simp)) S.kind) O hm hf1 lk I.cd S d1 d2, .all fun us hl => hb _ _ _ _ _ _ _ us hl, .inl ⟨f1, rfl, rfl⟩⟩
theorem rai2 (hP : PFa P fl) (I : ExcI K fl C f qual prm [.Expr (supCall m j p0 p1 p2 p3 p5) p4, .Assign [.Attribute (.Name "self" q1) f1 q2] (.Name y1 q3) q4, .Assign [.Attribute (.Name "self" q5) f2 q6] (.Name y2 q7) q8] scope) (O : OexC K C) (g : gOf K c = some (.ref C)) (hm : mg "super" = none)
    (hf1 : PySem.W.findIn K (.ref C) f1 = some none) (hf2 : PySem.W.findIn K (.ref C) f2 = some none)
    (he0 : SupHe m j p0 p1 p2 p3 p5) (S : SupScope ["self", y1, y2] ["self", y1, y2] scope) (ha : ∃ ar : Arg, (prm.posonlyargs ++ prm.args).head? = some ar ∧ ar.arg = "self") (h1 : scope.names.lookup ("super" : Str) = some .globalImplicit) (h2 : scope.names.lookup ("__class__" : Str) = some .free)
    (hb : ∀ (kV doc pm : Value) (an : Option Addr) (cdv ct : Value) (cc : Addr) (us : List Value), us.length = 3 → bindArgs (PySem.W.ksFn "__init__" qual prm [.Expr (supCall m j p0 p1 p2 p3 p5) p4, .Assign [.Attribute (.Name "self" q1) f1 q2] (.Name y1 q3) q4, .Assign [.Attribute (.Name "self" q5) f2 q6] (.Name y2 q7) q8] scope .none kV doc pm an cdv ct cc) ⟨us, []⟩ = pure ([("self" : Str), y1, y2].zip us))
    (d1 : (y1 == ("__debug__" : Str)) = false := by decide) (d2 : (y1 == ("__classdict__" : Str)) = false := by decide) (d3 : (y2 == ("__debug__" : Str)) = false := by decide) (d4 : (y2 == ("__classdict__" : Str)) = false := by decide) : RaiM P w K mg base (gOf K) c [f1, f2] C := by
  obtain ⟨oc, od, osl, kV, doc, pm, an, ct, lk⟩ := I.lk
  exact ⟨g, O, f, _, _, _, I.ini, I.tI, fn_sup2 he0 (supF_of hP I ha h1 h2 (S.par _ (by simp)) S.kind) O hm hf1 hf2 lk I.cd S d1 d2 d3 d4, .all fun us hl => hb _ _ _ _ _ _ _ us hl, .inr ⟨f1, f2, rfl, rfl⟩⟩
end
end Mo
namespace Mo
open PySem L2
section
variable {h : MH} {i j n : Nat} {s : Lo} {v : MV} {xs ys : List MV}
theorem eV_at {k : Nat} (e : s[k]? = some (some v)) : eV k s h = .ok v h := by simp only [eV, e]
theorem mRc_ll (h1 : h[i]? = some (.lst xs)) (h2 : h[j]? = some (.lst ys)) : mRc h (.ref i) (.ref j) = if xs.length = ys.length then eqs (mEq 7 h) xs ys else some false := by
  simp only [mRc, scM, flM, mEqS, asT, lstAt, h1, h2]
  rfl
theorem eqs_strs : ∀ a b : List Str, a.length = b.length → eqs (mEq n h) (a.map .str) (b.map .str) = some (decide (a = b))
  | [], [], _ => by simp
  | x :: a, y :: b, e => by
    have := eqs_strs a b (by simpa using e)
    simp only [List.map_cons, eqs_cons, mEq_ss, this, KQ_some, List.cons.injEq]
    congr 1
    by_cases e1 : x = y <;> by_cases e2 : a = b <;> simp [e1, e2]
  | [], _ :: _, e => by simp at e
  | _ :: _, [], e => by simp at e
theorem mRc_strs {a b : List Str} (h1 : h[i]? = some (.lst (a.map .str))) (h2 : h[j]? = some (.lst (b.map .str))) : mRc h (.ref i) (.ref j) = some (decide (a = b)) := by
  rw [mRc_ll h1 h2]
  simp only [List.length_map]
  by_cases e : a.length = b.length
  · rw [if_pos e, eqs_strs a b e]
  · rw [if_neg e, decide_eq_false fun z => e (by rw [z])]
theorem inL_strs {x : Str} : ∀ a : List Str, inL (fun y => mEq 7 h y (.str x)) (a.map .str) = some (decide (x ∈ a))
  | [] => by simp
  | y :: a => by
    rw [List.map_cons, inL_cons, inL_strs a, mEq_ss, KI_some]
    congr 1
    by_cases e : y = x
    · subst e; simp
    · have : ¬ x = y := fun z => e z.symm
      simp [e, this]
theorem fIn_strs {x : Str} {a : List Str} (e : h[i]? = some (.lst (a.map .str))) : fInA (.str x) (.ref i) h = some (.bl (decide (x ∈ a)), h) := by
  unfold fInA
  rw [if_neg (by rw [isDM_lst e]; decide), fIn_ref e, inL_strs]
  rfl
theorem fNotIn_strs {x : Str} {a : List Str} (e : h[i]? = some (.lst (a.map .str))) : fNotInA (.str x) (.ref i) h = some (.bl (!decide (x ∈ a)), h) := by
  unfold fNotInA
  rw [if_neg (by rw [isDM_lst e]; decide), fNotIn_ref e, inL_strs]
  rfl
theorem fIn_ktps {x : Str} {a : List Str} : fInA (.str x) (.ktp (a.map .str)) h = some (.bl (decide (x ∈ a)), h) := by
  unfold fInA
  rw [if_neg (by simp [isDM]), fIn_ktp, inL_strs]
  rfl
end
end Mo
namespace Mo
open PySem L2
theorem app_at {h : MH} {i : Nat} {o : MO} {t : MH} (e : h[i]? = some o) : (h ++ t)[i]? = some o := by
  rw [List.getElem?_append_left (List.getElem?_eq_some_iff.mp e).1]; exact e
structure ItrC (K : PySem.W.Frag) (C fi : Addr) : Prop where
  it : PySem.W.findIn K (.ref C) "__iter__" = some (some (.ref fi))
  itF : PySem.W.isFn K (.ref fi) = true
section
variable {X : Cx} {tg e : Expr} {te : TE} {C fi : Addr} {f : Str} {k : Nat}
end
theorem pi_imp {X : Cx} {tg e : Expr} {wi wi' : TI} (h : PI X tg e wi) (i : ∀ σ H R, wi' σ H R → wi σ H R) : PI X tg e wi' := ⟨fun pins s σ H R I q => h.run pins s σ H R I (i σ H R q)⟩
section
variable {X : Cx} {G : String → Option V} {W : WX} {tg iter e : Expr} {body : List Stmt} {m : ME} {C fi : Addr} {c : String} {f : Str} {k : Nat} {t : TG} {g : MG} {b : MS} {pos : Pos}
end
section
variable {X : Cx} {G : String → Option V} {W : WX} {elt tg iter : Expr} {ifs : List Expr} {scope : Scope} {own : List (Str × Nat)} {pos spos : Pos} {mi m : ME} {c : MB} {t : TG} {g : MG}
end
section
variable {s : Lo} {h : MH} {g : MG} {b : MS} {c : MB} {m : ME}
end
end Mo
namespace Mo
open PySem L2
theorem fLen_ref {h : MH} {i : Nat} {xs : List MV} (e : h[i]? = some (.lst xs)) : fLen [.ref i] h = some (.int xs.length, h) := by simp only [fLen, e]
section
variable {X : Cx} {G : String → Option V} {W : WX} {e : Expr} {m : ME} {k : Nat} {p1 p2 p3 pos : Pos}
end
end Mo
namespace Mo
open PySem L2
section
variable {X : Cx} {G : String → Option V} {W : WX} {e v : Expr} {mk mv : ME} {kk : Nat} {pos : Pos}
end
section
variable {X : Cx} {G : String → Option V}
end
end Mo
namespace Mo
open PySem PySem.Spec PyProof.Rows L2
def offE (D : Ends) (i : Nat) : Ends := { nx := fun σ H => D.nx (σ.set i none) H, rt := D.rt, bk := fun σ H => D.bk (σ.set i none) H, ct := fun σ H => D.ct (σ.set i none) H }
abbrev Cl := Value × Nat × (Addr → Value → Option Addr → TS)
def wNamed (K : PySem.W.Frag) (Wout : WX) (D : Ends) : List Cl → WX
  | [] => Wout
  | (c, i, ts) :: r => fun cls d σ H => ∃ b, PySem.W.exmOne K cls c = some b ∧ (b = true → ∀ a, H a = none → ts a cls d (offE D i) (σ.set i (some (.ref a))) H) ∧ (b = false → wNamed K Wout D r cls d σ H)
inductive ClsOk (X : Cx) : List ExceptHandler → List Cl → Prop
  | nil : ClsOk X [] []
  | cons {x n : Str} {c : Value} {i : Nat} {ts : Addr → Value → Option Addr → TS} {b₀ : Stmt} {suite : List Stmt} {np pos' : Pos} {hds : List ExceptHandler} {l : List Cl} (hi : X.N[i]? = some n) (hln : X.env.kindOf n = some .local) (hc : Names X x c)
      (hsu : ∀ (a : Addr) (oe : Obj) (cls : Value) (d : Option Addr) (pn : List (Addr × Obj)), Zc cls d oe → (∃ vs, oe.data = .fields vs) → PSs (X.suite a ((a, oe) :: pn)) (b₀ :: suite) (ts a cls d)) (r : ClsOk X hds l) :
      ClsOk X (.ExceptHandler (some (.Name x np)) (some n) (b₀ :: suite) pos' :: hds) ((c, i, ts) :: l)
section
variable {X : Cx} {body : List Stmt} {h₀ : ExceptHandler} {hds : List ExceptHandler} {l : List Cl} {pos : Pos} {tb : WX → TS} {Wout : WX}
end
end Mo
namespace Mo
open PySem L2
abbrev ClM := (String → Option Bool) × Nat × (XA → MS)
noncomputable def KTryN : List ClM → SR → SR
  | [], r => r
  | (xt, i, su) :: cl, r => match r with
    | .err e s h => match xt e.c with
      | some true => sUni fun a d => finT i (su ⟨a, d, e.c⟩ (s.set i (some (.exa a d h.length))) (h ++ [.xd e.c e.fs]))
      | some false => KTryN cl (.err e s h)
      | none => .no
    | r => r
section
variable {X : Cx} {G : String → Option V} {W : WX}
inductive HM (X : Cx) (G : String → Option V) : List ExceptHandler → List Cl → List ClM → Prop
  | nil : HM X G [] [] []
  | cons {x n : Str} {c : Value} {i : Nat} {xt : String → Option Bool} {su : XA → MS} {b₀ : Stmt} {suite : List Stmt} {np pos' : Pos} {hds : List ExceptHandler} {l : List Cl} {ms : List ClM} (E : ExmOk X.K G c xt) (hi : X.N[i]? = some n) (hln : X.env.kindOf n = some .local) (hc : Names X x c)
      (hsu : ∀ (y : XA) (oe : Obj) (cls : Value) (d : Option Addr) (C : Addr) (pn : List (Addr × Obj)), Zc cls d oe → (∃ vs, oe.data = .fields vs) → Held X G xt y cls d C → PSs (X.suite y.a ((y.a, oe) :: pn)) (b₀ :: suite) (RS X.K G noW (su y))) (r : HM X G hds l ms) :
      HM X G (.ExceptHandler (some (.Name x np)) (some n) (b₀ :: suite) pos' :: hds) ((c, i, tSu X G xt su) :: l) ((xt, i, su) :: ms)
theorem HM.cls {hds : List ExceptHandler} {l : List Cl} {ms : List ClM} (h : HM X G hds l ms) : ClsOk X hds l := by
  induction h with
  | nil => exact .nil
  | cons E hi hln hc hsu r ih =>
    exact .cons hi hln hc (fun a oe cls d pn hz hv => pss_ex fun y => pss_ex fun C => pss_and fun ⟨ha, hh⟩ => by subst ha; exact hsu y oe cls d C pn hz hv hh) ih
theorem HM.err {D : Ends} {hds : List ExceptHandler} {l : List Cl} {ms : List ClM} (h : HM X G hds l ms) : ∀ {v} {s : Lo} {m : MH} {ρ : List Addr} {H : Hp}, RSE X.K G W D ρ H (KTryN ms (.err v s m)) →
    ∀ (ρ1 : List Addr) (H1 : Hp) (σ1 : St) (cls : Value) (d : Option Addr), Ext X.K ρ H ρ1 H1 → HR X.K G ρ1 H1 m → SRl X.K G ρ1 H1 s σ1 → ER X.K G ρ1 H1 v cls d → wNamed X.K W D l cls d σ1 H1 := by
  induction h with
  | nil => intro v s m ρ H q ρ1 H1 σ1 cls d x1 hr sr er; exact q ρ1 H1 σ1 cls d x1 hr sr er
  | cons E hi hln hc hsu r ih =>
    rename_i x n c i xt su b₀ suite np pos' hds l ms
    intro v s m ρ H q ρ1 H1 σ1 cls d x1 hr sr er
    obtain ⟨C, a', vs, g, rfl, rfl, hnr, ha, hfs⟩ := id er
    unfold KTryN at q
    dsimp only at q
    cases ex : xt v.c with
    | none => simp only [ex] at q; exact q.elim
    | some bb =>
      refine ⟨bb, E.ok _ _ _ ex g, ?_, ?_⟩
      · rintro rfl a hna
        simp only [ex] at q
        refine ⟨⟨a, a', v.c⟩, C, ⟨rfl, g, rfl, rfl, ex⟩, ?_⟩
        obtain ⟨hr2, x2⟩ := hr.add (o := .xd v.c v.fs) hnr ⟨vs, ha, hfs⟩
        refine ⟨ρ1 ++ [a'], s.set i (some (.exa a a' m.length)), m ++ [.xd v.c v.fs], ⟨hr2, (sr.ext x2).set (by rw [VR]; exact ⟨rfl, by rw [← hr.len, List.getElem?_append_right (Nat.le_refl _)]; simp⟩)⟩, ?_⟩
        have x3 := x1.trans x2
        generalize hF : sUni _ = F at q
        have hne : F ≠ .no := by rintro rfl; exact q
        have hk := sUni_ok hF hne a a'
        subst hk
        cases eT : su ⟨a, a', v.c⟩ (s.set i (some (.exa a a' m.length))) (m ++ [.xd v.c v.fs]) with
        | nx s2 m2 => simp only [eT, finT] at q; exact fun ρ2 H2 σ2 e2 a2 b2 => q ρ2 H2 _ (x3.trans e2) a2 b2.gone
        | bk s2 m2 => simp only [eT, finT] at q; exact fun ρ2 H2 σ2 e2 a2 b2 => q ρ2 H2 _ (x3.trans e2) a2 b2.gone
        | ct s2 m2 => simp only [eT, finT] at q; exact fun ρ2 H2 σ2 e2 a2 b2 => q ρ2 H2 _ (x3.trans e2) a2 b2.gone
        | rt u m2 => simp only [eT, finT] at q; exact fun ρ2 H2 v2 e2 a2 b2 => q ρ2 H2 _ (x3.trans e2) a2 b2
        | err u s2 m2 => simp only [eT, finT] at q; exact q.elim
        | no => simp only [eT, finT] at q; exact q.elim
      · rintro rfl
        simp only [ex] at q
        exact ih q ρ1 H1 σ1 _ _ x1 hr sr er
end
end Mo
namespace Mo
open PySem L2
section
variable {K : PySem.W.Frag} {G : String → Option V}
end
end Mo
namespace Mo
open PySem PySem.Spec PyProof.Rows GenW L2
section
variable {M : Model} {A : Around} {R : GenEnd} {Y : Protocol} {n : Nat} {s₀ : Shared} {c : Code} {fs : List Frame} {s : Shared} {env : Env}
  {K : Flow → Sem PySem.Fin} {H : Value → Sem PySem.Fin} {gd : Bool → Bool} {lv : List Value → List Value}
theorem seg_For {target iter : Expr} {body orelse : List Stmt} {pos : Pos} (hs : ∀ x, foldedSetIterable iter env x = pure x)
    (h : wpAny M (A.over c fs) (eval iter env) (fun x s₁ => wpAny M (A.over c fs) (pyIter x) (fun it s₂ => ∀ p, Seg M A R Y n s₀ (.forLoop target it body orelse env) (M.den (.forLoop target it body orelse env))
      (.ret (fun r => ((match r with | .ok f => (.pure f : Sem Flow) | .error e => .raise e).onRaise fun (x : Value) => do
        if (← field x 1) == Value.none then unsupported "frame.own-activation:exception-without-traceback"
        setFlight x env.frame).wrap K H gd lv) none (gd false) (lv []) c p [] :: fs) s₂) (fun e s' => Seg M A R Y n s₀ c (H e) fs s') s₁) (fun e s' => Seg M A R Y n s₀ c (H e) fs s') s) :
    Seg M A R Y n s₀ c ((exec (.For target iter body orelse pos) env).wrap K H gd lv) fs s := by
  rw [exec_For]
  refine seg_bind_wrap (wpAny_standAt ?_)
  refine seg_bind_wrap (wpAny_mono h (fun x s₁ h1 => ?_) fun _ _ q => q)
  refine seg_bind_wrap (wpAny_of_eq (hs x) ?_)
  refine seg_bind_wrap (wpAny_standAt ?_)
  refine seg_bind_wrap (wpAny_holding (wpAny_mono h1 (fun it s₂ h2 => ?_) fun _ _ q => q))
  exact seg_call h2
theorem seg_If {test : Expr} {body orelse : List Stmt} {pos : Pos}
    (h : wpAny M (A.over c fs) (isTrue test env (eval test env)) (fun b s₁ => if b = true then Seg M A R Y n s₀ c ((execs body env).wrap K H gd lv) fs s₁ else Seg M A R Y n s₀ c ((execs orelse env).wrap K H gd lv) fs s₁)
      (fun e s' => Seg M A R Y n s₀ c (H e) fs s') s) : Seg M A R Y n s₀ c ((exec (.If test body orelse pos) env).wrap K H gd lv) fs s := by
  show Seg M A R Y n s₀ c ((standAt pos >>= fun _ => isTrue test env (eval test env) >>= fun b => if b = true then execs body env else execs orelse env).wrap K H gd lv) fs s
  refine seg_bind_wrap (wpAny_standAt ?_)
  refine seg_bind_wrap (wpAny_mono h (fun b s₁ h1 => ?_) fun _ _ q => q)
  cases b with
  | true => exact h1
  | false => exact h1
end
section
variable {prog : Program} {w : World} {A : Around} {R : GenEnd} {Y : Protocol} {n : Nat} {s₀ : Shared} {fs : List Frame} {s : Shared} {env : Env}
abbrev notedSeg (prog : Program) (w : World) (A : Around) (R : GenEnd) (Y : Protocol) (n : Nat) (s₀ : Shared) (c : Code) (fs : List Frame) (env : Env) (x : Value) (s' : Shared) : Prop :=
  Seg (model prog w) A R Y n s₀ c ((do noteFrame x env; theTreesLotGoes x : Sem Unit).wrap (fun _ => .raise x) .raise id id) fs s'
theorem seg_forLoop {target : Expr} {it : Value} {body orelse : List Stmt}
    (h : wpAny (model prog w) (A.over (.forLoop target it body orelse env) fs) (pyNext it) (fun r s₁ => match r with
      | none => Seg (model prog w) A R Y n s₀ (.forLoop target it body orelse env) (.pure (.again (.block orelse env))) fs s₁
      | some v => wpAny (model prog w) (A.over (.forLoop target it body orelse env) fs) (letOwnedTupleGo target it v) (fun _ s₁' =>
          wpAny (model prog w) (A.over (.forLoop target it body orelse env) fs) (assign target env v) (fun _ s₂ =>
            Seg (model prog w) A R Y n s₀ (.forLoop target it body orelse env) ((execs body env).wrap (fun f => match f with
              | .next | .cont => .pure (.again (.forLoop target it body orelse env))
              | .brk => .pure (.done .next)
              | .ret v => .pure (.done (.ret v))) (fun e => (do noteFrame e env; theTreesLotGoes e : Sem Unit).wrap (fun _ => .raise e) .raise id id) id id) fs s₂)
            (notedSeg prog w A R Y n s₀ (.forLoop target it body orelse env) fs env) s₁') (notedSeg prog w A R Y n s₀ (.forLoop target it body orelse env) fs env) s₁)
      (notedSeg prog w A R Y n s₀ (.forLoop target it body orelse env) fs env) s) :
    Seg (model prog w) A R Y n s₀ (.forLoop target it body orelse env) ((model prog w).den (.forLoop target it body orelse env)) fs s := by
  show Seg _ A R Y n s₀ _ ((forTurn target it body orelse env).onRaise (fun x => do noteFrame x env; theTreesLotGoes x)) fs s
  unfold forTurn
  rw [Sem.onRaise_eq_wrap]
  have eH : (fun (e : Value) => ((do noteFrame e env; theTreesLotGoes e : Sem Unit).bind fun _ => (.raise e : Sem PySem.Fin))) = fun e => (do noteFrame e env; theTreesLotGoes e : Sem Unit).wrap (fun _ => .raise e) .raise id id := by
    funext e; rw [Sem.bind_eq_wrap]
  rw [eH]
  refine seg_bind_wrap (wpAny_standAt ?_)
  refine seg_bind_wrap (wpAny_onRaise (wpAny_mono h (fun r s₁ h1 => ?_) fun _ _ q => wpAny_standAt q))
  cases r with
  | none => exact h1
  | some v =>
    refine seg_bind_wrap (wpAny_mono h1 (fun _ s2 h2 => ?_) fun _ _ q => q)
    refine seg_bind_wrap (wpAny_mono h2 (fun _ s3 h3 => ?_) fun _ _ q => q)
    rw [Sem.bind_eq_wrap', Sem.wrap_wrap]
    refine Eq.mp (congrArg (fun z => Seg (model prog w) A R Y n s₀ (.forLoop target it body orelse env) z fs s3) (Sem.wrap_congr (execs body env) _ _ (fun f => ?_) (fun e => ?_)).symm) h3
    · cases f <;> rfl
    · rfl
end
section
variable {X : Cx}
def tGIf (c : TT) (t u : TGn) : TGn := fun D ys σ H => c σ H fun b H1 => if b = true then t D ys σ H1 else u D ys σ H1
theorem gs_if {test : Expr} {a b : List Stmt} {pos : Pos} {tc : TT} {t u : TGn} (hc : PT X test tc) (ha : L2.GSs X a t) (hb : L2.GSs X b u) : L2.GS X (.If test a b pos) (tGIf tc t u) := by
  refine ⟨fun A S ip R n ys s₀ c fs K J gd lv s σ H D g hn k hI ht => ?_⟩
  obtain ⟨acc, cc, r, I⟩ := hI
  refine seg_If ?_
  rw [g.over]
  refine wpAny_mono (hc.run _ s σ H _ I ht) (fun d s1 ⟨H1, I1, q1⟩ => ?_) fun x s' hx => k.exc n s₀ x s' hx
  cases d with
  | true => exact ha.run A S ip R n ys s₀ c fs K J gd lv s1 σ H1 D g hn k ⟨acc, cc, r, I1⟩ q1
  | false => exact hb.run A S ip R n ys s₀ c fs K J gd lv s1 σ H1 D g hn k ⟨acc, cc, r, I1⟩ q1
def tGFor (wi : TI) (g : TG) (tb : TGn) : TGn := fun D ys σ H => wi σ H fun J H1 => ∃ W : Nat → Nat → List V → L2.St → Hp → Prop, (∃ m, W 0 m ys σ H1) ∧ ∀ i m ys σ H, W i m ys σ H →
  (J.stop i H ∧ D.nx ys σ H) ∨ (J.go i H ∧ ∃ N : List V → L2.St → Hp → Prop, (∀ ys' σ' H', N ys' σ' H' → ∃ m', m' < m ∧ W (i + 1) m' ys' σ' H') ∧ ∀ x H', J.yld i H x H' → g x σ H' fun σ2 H2 => tb { D with nx := N, ct := N, bk := D.nx } ys σ2 H2)
theorem gc_ip {S : Addr} {ip ip' : List (Addr × Obj)} {A : Around} {c : Code} {fs : List Frame} {gd : Bool → Bool} (g : GC X S ip A c fs gd) (h : ∀ p ∈ ip', p.1 ≠ S) : GC X S ip' A c fs gd := ⟨g.pn, h, g.apart, g.over, g.split, g.guard, g.gd⟩
theorem gs_for {tg iter : Expr} {body : List Stmt} {wi : TI} {g : TG} {tb : TGn} {pos : Pos} (hp : PassesOwn (model X.prog X.w) X.A X.env X.xe) (hc : X.calm = true) (hi : PI X tg iter wi) (hg : PG X tg g) (hb : L2.GSs X body tb)
    (hs : ∀ x, foldedSetIterable iter X.env x = pure x := by intro _; rfl) : L2.GS X (.For tg iter body [] pos) (tGFor wi g tb) := by
  refine ⟨fun A S ip R n ys s₀ c fs K J gd lv s σ H D gc hn k hI ht => ?_⟩
  obtain ⟨acc, cc, r, I⟩ := hI
  refine seg_For hs ?_
  rw [gc.over]
  have exc1 : ∀ e s', X.xe e s' → Seg (model X.prog X.w) A R (GY X S) n s₀ c (J e) fs s' := fun e s' hx => k.exc n s₀ e s' hx
  refine wpAny_mono (hi.run _ s σ H _ I ht) (fun v s1 h1 => ?_) exc1
  refine wpAny_mono h1 (fun itv s2 h2 => ?_) exc1
  obtain ⟨it, fp, tn, Jt, H2, e, I2, T, st2, f2, W, ⟨m0, w0⟩, turn⟩ := h2
  subst e
  intro p
  have hSfp : ∀ b ∈ fp, b ≠ S := fun b hb z => (f2 b hb).2.2.2.2.2 (S, lstObj acc cc) (List.mem_append_right _ List.mem_cons_self) z.symm
  have gl := fun (kk : Result → Sem PySem.Fin) => gc_loop (k := kk) (c' := .forLoop tg (.ref it) body [] X.env) (l := lv []) (kp := []) (p := p) gc rfl rfl
  have glb := fun (kk : Result → Sem PySem.Fin) => gc_loop (k := kk) (c' := .block [] X.env) (l := lv []) (kp := []) (p := p) gc rfl rfl
  -- what stays true of the iterator's objects through the loop
  have fstat : ∀ b ∈ fp, b ≠ X.env.locals ∧ b ∉ X.fs ∧ (b ∈ X.ex ∨ X.s_0.heap.objs.size ≤ b) ∧ (∀ x c, X.env.cells.lookup x = some c → c ≠ b) ∧ (∀ p ∈ X.pn ++ ip, p.1 ≠ b) := fun b hb => by
    obtain ⟨_, q1, q2, q3, q4, q5⟩ := f2 b hb
    exact ⟨q1, q2, q3, q4, fun p hp => (List.mem_append.mp hp).elim (fun z => q5 p (List.mem_append_left _ z)) fun z => q5 p (List.mem_append_right _ (List.mem_cons_of_mem _ z))⟩
  have stat : ∀ {H' : Hp} {acc' : Array Value} {c' : Nat}, (∀ b ∈ fp, H' b = none) → ∀ b ∈ fp, FpOk X ((S, lstObj acc' c') :: ip) H' b := fun hn b hb => by
    obtain ⟨q1, q2, q3, q4, q5⟩ := fstat b hb
    refine ⟨hn b hb, q1, q2, q3, q4, fun p hp => ?_⟩
    rcases List.mem_append.mp hp with z | z
    · exact q5 p (List.mem_append_left _ z)
    · rcases List.mem_cons.mp z with z | z
      · rw [z]; exact fun y => hSfp b hb y.symm
      · exact q5 p (List.mem_append_right _ z)
  have loop : ∀ (m n : Nat) (ys : List V) (s₀ s : Shared) (i : Nat) (σ : L2.St) (H : Hp), n + ys.length = sizeLine → W i m ys σ H → GI X S ip ys σ H s → tn i s.heap → (∀ b ∈ fp, H b = none) →
      Seg (model X.prog X.w) A R (GY X S) n s₀ (.forLoop tg (.ref it) body [] X.env) ((model X.prog X.w).den (.forLoop tg (.ref it) body [] X.env))
        (.ret (fun r => ((match r with | .ok f => (.pure f : Sem Flow) | .error e => .raise e).onRaise (cameBack X.env)).wrap K J gd lv) none (gd false) (lv []) c p [] :: fs) s := by
    intro m
    induction m using Nat.strongRecOn with
    | ind m ih =>
      intro n ys s₀ s3 i σ3 H3 hn w3 hI3 st3 fr3
      have ee : ∀ (n : Nat) (s₀ : Shared) (x : Value) (s' : Shared), X.xe x s' → Seg (model X.prog X.w) A R (GY X S) n s₀ (.forLoop tg (.ref it) body [] X.env)
          ((do noteFrame x X.env; theTreesLotGoes x : Sem Unit).wrap (fun _ => .raise x) .raise id id)
          (.ret (fun r => ((match r with | .ok f => (.pure f : Sem Flow) | .error e => .raise e).onRaise (cameBack X.env)).wrap K J gd lv) none (gd false) (lv []) c p [] :: fs) s' := fun n s₀ x s' hx => by
        refine seg_wrap ?_
        rw [(gl _).over]
        refine wpAny_bind (wpAny_mono (hp x s' hx) (fun _ s'' hcb => wpAny_theTreesLotGoes ?_) fun y s'' hcb => ?_)
        · exact seg_leaf (.error x) (seg_cameBack gc k hcb)
        · exact seg_leaf (.error y) (seg_cameBack gc k hcb)
      refine seg_forLoop ?_
      rw [(gl _).over]
      obtain ⟨acc3, cc3, r3, I3⟩ := hI3
      rcases turn i m ys σ3 H3 w3 with ⟨stop, qn⟩ | ⟨go, N, hN, step⟩
      · refine wpAny_mono (T.done X rfl rfl rfl hc i _ s3 σ3 H3 X.xe I3 (stat fr3) st3 stop) (fun r s4 hr4 => ?_) (fun e s' hx => ee n s₀ e s' hx)
        obtain ⟨hr, I4⟩ := hr4
        subst hr
        refine seg_again (c' := .block [] X.env) rfl ?_
        show Seg _ A R (GY X S) n s₀ _ (((execs [] X.env).onRaise (fun x => do noteFrame x X.env; theTreesLotGoes x)) >>= fun f => (.pure (.done f) : Sem PySem.Fin)) _ s4
        exact seg_leaf (.ok .next) (k.ok n ys s₀ s4 .next hn ⟨σ3, H3, ⟨acc3, cc3, r3, I4⟩, qn⟩)
      · refine wpAny_mono (T.item X rfl rfl rfl hc i _ s3 σ3 H3 X.xe I3 (stat fr3) st3 go) (fun r s4 hr4 => ?_) (fun e s' hx => ee n s₀ e s' hx)
        obtain ⟨u, hr, h4⟩ := hr4
        subst hr
        refine wpAny_mono h4 (fun _ s5 h5 => ?_) (fun e s' hx => ee n s₀ e s' hx)
        obtain ⟨x, H5, I5, r5, y5, st5, fr5⟩ := h5
        have I5' := I5.pinned (stat fr5) (T.obj _ _ st5)
        refine wpAny_mono (hg.run _ s5 σ3 H5 x u _ I5' r5 (step x H5 y5)) (fun _ s6 h6 => ?_) (fun e s' hx => ee n s₀ e s' hx)
        obtain ⟨σ6, H6, I6, q6⟩ := h6
        have ipS : ∀ p ∈ ip ++ pinsAt fp s5.heap, p.1 ≠ S := fun p hp => (List.mem_append.mp hp).elim (fun z => gc.ip p z) fun z => hSfp p.1 (of_pinsAt z).1
        have again : ∀ (n' : Nat) (ys' : List V) (s₀' s7 : Shared) (σ7 : L2.St) (H7 : Hp), n' + ys'.length = sizeLine → GI X S (ip ++ pinsAt fp s5.heap) ys' σ7 H7 s7 → N ys' σ7 H7 →
            Seg (model X.prog X.w) A R (GY X S) n' s₀' (.forLoop tg (.ref it) body [] X.env) (.pure (.again (.forLoop tg (.ref it) body [] X.env)))
              (.ret (fun r => ((match r with | .ok f => (.pure f : Sem Flow) | .error e => .raise e).onRaise (cameBack X.env)).wrap K J gd lv) none (gd false) (lv []) c p [] :: fs) s7 := fun n' ys' s₀' s7 σ7 H7 hn' hI7 n7 => by
          obtain ⟨acc7, cc7, r7, I7⟩ := hI7
          obtain ⟨m', hm, w7⟩ := hN ys' σ7 H7 n7
          refine seg_again rfl (ih m' hm n' ys' s₀' s7 (i + 1) σ7 H7 hn' w7 ⟨acc7, cc7, r7, I7.pins_of fun p hp => I7.pin p ?_⟩ (T.keep _ _ _ st5 fun b hb o e => (I7.pin (b, o) ?_).1) fun b hb => ?_)
          · rcases List.mem_cons.mp hp with z | z
            · exact List.mem_append_right _ (by rw [z]; exact List.mem_cons_self)
            · exact List.mem_append_right _ (List.mem_cons_of_mem _ (List.mem_append_left _ z))
          · exact List.mem_append_right _ (List.mem_cons_of_mem _ (List.mem_append_right _ (mem_pinsAt hb e)))
          · obtain ⟨o, e, d⟩ := T.obj _ _ st5 b hb
            exact (I7.pin (b, o) (List.mem_append_right _ (List.mem_cons_of_mem _ (List.mem_append_right _ (mem_pinsAt hb e))))).2.1
        have drop : ∀ {ys' : List V} {σ7 : L2.St} {H7 : Hp} {s7 : Shared}, GI X S (ip ++ pinsAt fp s5.heap) ys' σ7 H7 s7 → GI X S ip ys' σ7 H7 s7 := fun {ys' σ7 H7 s7} hI7 => by
          obtain ⟨acc7, cc7, r7, I7⟩ := hI7
          refine ⟨acc7, cc7, r7, I7.pins_of fun p hp => I7.pin p ?_⟩
          rcases List.mem_cons.mp hp with z | z
          · exact List.mem_append_right _ (by rw [z]; exact List.mem_cons_self)
          · exact List.mem_append_right _ (List.mem_cons_of_mem _ (List.mem_append_left _ z))
        refine hb.run A S (ip ++ pinsAt fp s5.heap) R n ys s₀ _ _ _ _ id id s6 σ6 H6 { D with nx := N, ct := N, bk := D.nx } (gc_ip (gl _) ipS) hn ⟨fun n' ys' s₀' s7 f hn' hs => ?_, fun n' s₀' x s7 hx => ee n' s₀' x s7 hx⟩ ⟨acc3, cc3, r3, I6.pins_of fun p hp => I6.pin p ?_⟩ q6
        · cases f with
          | next => obtain ⟨σ7, H7, I7, n7⟩ := hs; exact again n' ys' s₀' s7 σ7 H7 hn' I7 n7
          | cont => obtain ⟨σ7, H7, I7, n7⟩ := hs; exact again n' ys' s₀' s7 σ7 H7 hn' I7 n7
          | brk =>
            obtain ⟨σ7, H7, I7, n7⟩ := hs
            exact seg_leaf (.ok .next) (k.ok n' ys' s₀' s7 .next hn' ⟨σ7, H7, drop I7, n7⟩)
          | ret v =>
            obtain ⟨x7, σ7, H7, I7, rv, n7⟩ := hs
            exact seg_leaf (.ok (.ret v)) (k.ok n' ys' s₀' s7 (.ret v) hn' ⟨x7, σ7, H7, drop I7, rv, n7⟩)
        · exact List.mem_append_right _ hp
  exact loop m0 n ys s₀ s2 0 σ H2 hn w0 ⟨acc, cc, r, I2⟩ st2 fun b hb => (f2 b hb).1
end
end Mo
namespace Mo
open PySem PySem.Spec PyProof.Rows GenW L2
abbrev MGn := List MV → Lo → MH → List MV × SR
def gPl (m : MS) : MGn := fun ys s h => (ys, m s h)
def gNx : MGn := fun ys s h => (ys, .nx s h)
def gKY (ys : List MV) (s : Lo) : Rz MV → List MV × SR
  | .ok v h1 => (ys ++ [v], .nx s h1)
  | .err e h1 => (ys, .err e s h1)
  | .no => (ys, .no)
def gYld (e : ME) : MGn := fun ys s h => if ys.length < SZ then gKY ys s (e s h) else (ys, .no)
def gKS (b : MGn) : List MV × SR → List MV × SR
  | (zs, .nx s1 h1) => b zs s1 h1
  | r => r
def gSq (a b : MGn) : MGn := fun ys s h => gKS b (a ys s h)
def gKI (a b : MGn) (ys : List MV) (s : Lo) : Rz Bool → List MV × SR
  | .ok k h1 => if k = true then a ys s h1 else b ys s h1
  | .err e h1 => (ys, .err e s h1)
  | .no => (ys, .no)
def gIf (c : MB) (a b : MGn) : MGn := fun ys s h => gKI a b ys s (c s h)
def gKT (again : MGn) : List MV × SR → List MV × SR
  | (zs, .nx s2 h2) => again zs s2 h2
  | (zs, .ct s2 h2) => again zs s2 h2
  | (zs, .bk s2 h2) => (zs, .nx s2 h2)
  | r => r
def gFoG (get : Itm) (g : MG) (b : MGn) : Nat → Nat → MGn
  | 0, _, ys, _, _ => (ys, .no)
  | n + 1, i, ys, s, h => match get i h with
    | none => (ys, .no)
    | some none => (ys, .nx s h)
    | some (some x) => match g x s with
      | none => (ys, .no)
      | some s1 => gKT (gFoG get g b n (i + 1)) (b ys s1 h)
def gKF (g : MG) (b : MGn) (ys : List MV) (s : Lo) : Rz MV → List MV × SR
  | .ok v h1 => match asT v with
    | some xs => gFoG (getL xs) g b (xs.length + 1) 0 ys s h1
    | none => match seqOf h1 v with
      | some xs => gFoG (getSeq v) g b (xs.length + 1) 0 ys s h1
      | none => (ys, .no)
  | .err e h1 => (ys, .err e s h1)
  | .no => (ys, .no)
def gFor (it : ME) (g : MG) (b : MGn) : MGn := fun ys s h => gKF g b ys s (it s h)
section
variable {K : PySem.W.Frag} {G : String → Option V} {W : WX}
def RGE (K : PySem.W.Frag) (G : String → Option V) (W : WX) (D : GEnds) (ρ : List Addr) (H : Hp) (r : List MV × SR) : Prop :=
  match r.2 with
  | .nx sm1 mh1 => ∀ ρ1 H1 σ1 ys1, Ext K ρ H ρ1 H1 → HR K G ρ1 H1 mh1 → SRl K G ρ1 H1 sm1 σ1 → VRs K G ρ1 H1 r.1 ys1 → D.nx ys1 σ1 H1
  | .bk sm1 mh1 => ∀ ρ1 H1 σ1 ys1, Ext K ρ H ρ1 H1 → HR K G ρ1 H1 mh1 → SRl K G ρ1 H1 sm1 σ1 → VRs K G ρ1 H1 r.1 ys1 → D.bk ys1 σ1 H1
  | .ct sm1 mh1 => ∀ ρ1 H1 σ1 ys1, Ext K ρ H ρ1 H1 → HR K G ρ1 H1 mh1 → SRl K G ρ1 H1 sm1 σ1 → VRs K G ρ1 H1 r.1 ys1 → D.ct ys1 σ1 H1
  | .rt v mh1 => ∀ ρ1 H1 v1 ys1, Ext K ρ H ρ1 H1 → HR K G ρ1 H1 mh1 → VR K G ρ1 H1 v v1 → VRs K G ρ1 H1 r.1 ys1 → D.rt ys1 v1 H1
  | .err e sm1 mh1 => ∀ ρ1 H1 σ1 cls d, Ext K ρ H ρ1 H1 → HR K G ρ1 H1 mh1 → SRl K G ρ1 H1 sm1 σ1 → ER K G ρ1 H1 e cls d → W cls d σ1 H1
  | .no => False
def RG (K : PySem.W.Frag) (G : String → Option V) (W : WX) (m : MGn) : TGn := fun D ys σ H => ∃ ρ sm mh yms, Rl K G ρ H sm σ mh ∧ VRs K G ρ H yms ys ∧ RGE K G W D ρ H (m yms sm mh)
theorem RGE.mono {D : GEnds} {ρ ρ1 : List Addr} {H H1 : Hp} {r : List MV × SR} (x : Ext K ρ H ρ1 H1) (h : RGE K G W D ρ H r) : RGE K G W D ρ1 H1 r := by
  obtain ⟨zs, r⟩ := r
  cases r with
  | nx s m => exact fun ρ2 H2 σ1 ys1 e a b c => h ρ2 H2 σ1 ys1 (x.trans e) a b c
  | bk s m => exact fun ρ2 H2 σ1 ys1 e a b c => h ρ2 H2 σ1 ys1 (x.trans e) a b c
  | ct s m => exact fun ρ2 H2 σ1 ys1 e a b c => h ρ2 H2 σ1 ys1 (x.trans e) a b c
  | rt v m => exact fun ρ2 H2 σ1 ys1 e a b c => h ρ2 H2 σ1 ys1 (x.trans e) a b c
  | err v s m => exact fun ρ2 H2 σ1 c d e a b => h ρ2 H2 σ1 c d (x.trans e) a b
  | no => exact h
variable {X : Cx} {st : Stmt} {sts : List Stmt}
theorem gs_imp {t t' : TGn} (h : L2.GS X st t) (i : ∀ D ys σ H, t' D ys σ H → t D ys σ H) : L2.GS X st t' :=
  ⟨fun A S ip R n ys s₀ c fs K J gd lv s σ H D g hn k hI ht => h.run A S ip R n ys s₀ c fs K J gd lv s σ H D g hn k hI (i D ys σ H ht)⟩
theorem gss_imp {t t' : TGn} (h : L2.GSs X sts t) (i : ∀ D ys σ H, t' D ys σ H → t D ys σ H) : L2.GSs X sts t' :=
  ⟨fun A S ip R n ys s₀ c fs K J gd lv s σ H D g hn k hI ht => h.run A S ip R n ys s₀ c fs K J gd lv s σ H D g hn k hI (i D ys σ H ht)⟩
theorem g_ps {m : MS} (h : PS X st (RS X.K G W m)) : L2.GS X st (RG X.K G W (gPl m)) := by
  refine gs_imp (gs_ps h) fun D ys σ H ⟨ρ, sm, mh, yms, r, ry, q⟩ => ⟨ρ, sm, mh, r, ?_⟩
  unfold gPl RGE at q
  dsimp only at q
  cases e : m sm mh with
  | nx s1 m1 => rw [e] at q; exact fun ρ1 H1 σ1 x a b => q ρ1 H1 σ1 ys x a b (ry.ext x)
  | bk s1 m1 => rw [e] at q; exact fun ρ1 H1 σ1 x a b => q ρ1 H1 σ1 ys x a b (ry.ext x)
  | ct s1 m1 => rw [e] at q; exact fun ρ1 H1 σ1 x a b => q ρ1 H1 σ1 ys x a b (ry.ext x)
  | rt v m1 => rw [e] at q; exact fun ρ1 H1 σ1 x a b => q ρ1 H1 σ1 ys x a b (ry.ext x)
  | err v s1 m1 => rw [e] at q; exact q
  | no => rw [e] at q; exact q
theorem g_nil : L2.GSs X [] (RG X.K G W gNx) :=
  gss_imp L2.gss_nil fun D ys σ H ⟨ρ, sm, mh, yms, r, ry, q⟩ => q ρ H σ ys Ext.refl r.hr r.sr ry
theorem g_cons {a b : MGn} (h : L2.GS X st (RG X.K G W a)) (h' : L2.GSs X sts (RG X.K G W b)) : L2.GSs X (st :: sts) (RG X.K G W (gSq a b)) := by
  refine gss_imp (L2.gss_cons h h') fun D ys σ H ⟨ρ, sm, mh, yms, r, ry, q⟩ => ⟨ρ, sm, mh, yms, r, ry, ?_⟩
  unfold gSq at q
  cases e : a yms sm mh with
  | mk zs r1 =>
    rw [e] at q
    cases r1 with
    | nx s1 m1 => exact fun ρ1 H1 σ1 ys1 x a1 b1 c1 => ⟨ρ1, s1, m1, zs, ⟨a1, b1⟩, c1, RGE.mono x q⟩
    | bk s1 m1 => exact q
    | ct s1 m1 => exact q
    | rt v m1 => exact q
    | err v s1 m1 => exact q
    | no => exact q
theorem g_one {a : MGn} (h : L2.GS X st (RG X.K G W a)) : L2.GSs X [st] (RG X.K G W a) := by
  refine gss_imp (L2.gss_cons h L2.gss_nil) fun D ys σ H q => q
theorem g_yld {e : Expr} {m : ME} {yp pos : Pos} (he : PE X e (RE X.K G W m)) (hco : X.env.scope.isCoroutine = false := by rfl) (hi : interactive X.env = false := by rfl) : L2.GS X (.Expr (.Yield (some e) yp) pos) (RG X.K G W (gYld m)) := by
  refine gs_imp (gs_yield he hco hi) fun D ys σ H ⟨ρ, sm, mh, yms, r, ry, q⟩ => ?_
  unfold gYld at q
  split at q
  · rename_i hl
    refine ⟨by rw [← ry.length]; exact hl, ρ, sm, mh, r, ?_⟩
    cases e1 : m sm mh with
    | no => rw [e1] at q; exact False.elim q
    | err v m1 => rw [e1] at q; exact fun ρ1 H1 cls d x hr er => q ρ1 H1 σ cls d x hr (r.sr.ext x) er
    | ok v m1 => rw [e1] at q; exact fun ρ1 H1 x hr w rv => q ρ1 H1 σ (ys ++ [w]) x hr (r.sr.ext x) ((ry.ext x).append (VRs.cons rv VRs.nil))
  · exact False.elim q
theorem g_if {c : Expr} {a b : List Stmt} {pos : Pos} {mc : MB} {ma mb : MGn} (hc : PT X c (RT X.K G W mc)) (ha : L2.GSs X a (RG X.K G W ma)) (hb : L2.GSs X b (RG X.K G W mb)) : L2.GS X (.If c a b pos) (RG X.K G W (gIf mc ma mb)) := by
  refine gs_imp (gs_if hc ha hb) fun D ys σ H ⟨ρ, sm, mh, yms, r, ry, q⟩ => ⟨ρ, sm, mh, r, ?_⟩
  unfold gIf at q
  cases e1 : mc sm mh with
  | no => rw [e1] at q; exact q
  | err v m1 => rw [e1] at q; exact fun ρ1 H1 cls d x hr er => q ρ1 H1 σ cls d x hr (r.sr.ext x) er
  | ok v m1 =>
    rw [e1] at q
    intro ρ1 H1 x hr
    unfold gKI at q
    dsimp only at q
    cases v with
    | true => exact ⟨ρ1, sm, m1, yms, r.at x hr, ry.ext x, RGE.mono x q⟩
    | false => exact ⟨ρ1, sm, m1, yms, r.at x hr, ry.ext x, RGE.mono x q⟩
theorem turn_rg {again b : MGn} {D : GEnds} {N : List V → L2.St → Hp → Prop} {ρ : List Addr} {sm : Lo} {mh : MH} {yms : List MV} {ys : List V} {σ : L2.St} {H : Hp} (r : Rl X.K G ρ H sm σ mh) (ry : VRs X.K G ρ H yms ys) (q : RGE X.K G W D ρ H (gKT again (b yms sm mh)))
    (hN : ∀ ρ1 H1 σ1 ys1 sm1 mh1 zs, Ext X.K ρ H ρ1 H1 → Rl X.K G ρ1 H1 sm1 σ1 mh1 → VRs X.K G ρ1 H1 zs ys1 → RGE X.K G W D ρ1 H1 (again zs sm1 mh1) → N ys1 σ1 H1) :
    RG X.K G W b { D with nx := N, ct := N, bk := D.nx } ys σ H := by
  refine ⟨ρ, sm, mh, yms, r, ry, ?_⟩
  cases e : b yms sm mh with
  | mk zs r1 =>
    rw [e] at q
    cases r1 with
    | nx s1 m1 => exact fun ρ1 H1 σ1 ys1 x a1 b1 c1 => hN ρ1 H1 σ1 ys1 s1 m1 zs x ⟨a1, b1⟩ c1 (RGE.mono x q)
    | ct s1 m1 => exact fun ρ1 H1 σ1 ys1 x a1 b1 c1 => hN ρ1 H1 σ1 ys1 s1 m1 zs x ⟨a1, b1⟩ c1 (RGE.mono x q)
    | bk s1 m1 => exact q
    | rt v m1 => exact q
    | err v s1 m1 => exact q
    | no => exact q
theorem gfor_sim {ρ0 ρ : List Addr} {H0 H : Hp} {J : It} {get : Itm} {t : TG} {g : MG} {b : MGn} {D : GEnds} {n : Nat} {sm : Lo} {σ : L2.St} {mh : MH} {yms : List MV} {ys : List V} (T : ItS X.K G ρ0 H0 J get) (hg : Mo.GS X.K G t g) (x0 : Ext X.K ρ0 H0 ρ H) (r0 : Rl X.K G ρ H sm σ mh) (ry0 : VRs X.K G ρ H yms ys)
    (h : RGE X.K G W D ρ H (gFoG get g b n 0 yms sm mh)) :
    ∃ W' : Nat → Nat → List V → L2.St → Hp → Prop, (∃ m, W' 0 m ys σ H) ∧ ∀ i m ys σ H, W' i m ys σ H →
      (J.stop i H ∧ D.nx ys σ H) ∨ (J.go i H ∧ ∃ N : List V → L2.St → Hp → Prop, (∀ ys' σ' H', N ys' σ' H' → ∃ m', m' < m ∧ W' (i + 1) m' ys' σ' H') ∧ ∀ x H', J.yld i H x H' → t x σ H' fun σ2 H2 => RG X.K G W b { D with nx := N, ct := N, bk := D.nx } ys σ2 H2) := by
  refine ⟨fun i m ys σ H => ∃ ρ sm mh yms, Ext X.K ρ0 H0 ρ H ∧ Rl X.K G ρ H sm σ mh ∧ VRs X.K G ρ H yms ys ∧ RGE X.K G W D ρ H (gFoG get g b m i yms sm mh), ⟨n, ρ, sm, mh, yms, x0, r0, ry0, h⟩, ?_⟩
  rintro i m ys σ H ⟨ρ, sm, mh, yms, x, r, ry, q⟩
  cases m with
  | zero => exact False.elim q
  | succ m =>
    unfold gFoG at q
    cases e : get i mh with
    | none => rw [e] at q; exact False.elim q
    | some o =>
      rw [e] at q
      cases o with
      | none => exact .inl ⟨T.stop x r.hr e, q ρ H σ ys Ext.refl r.hr r.sr ry⟩
      | some v =>
        refine .inr ⟨T.go x r.hr e, fun ys' σ' H' => ∃ ρ sm mh yms, Ext X.K ρ0 H0 ρ H' ∧ Rl X.K G ρ H' sm σ' mh ∧ VRs X.K G ρ H' yms ys' ∧ RGE X.K G W D ρ H' (gFoG get g b m (i + 1) yms sm mh), fun ys' σ' H' z => ⟨m, Nat.lt_succ_self _, z⟩, fun y H' hy => ?_⟩
        obtain ⟨ρ', x', hr', rv⟩ := T.yld x r.hr e hy
        dsimp only at q
        cases e2 : g v sm with
        | none => rw [e2] at q; exact False.elim q
        | some s1 =>
          rw [e2] at q
          refine hg hr' (r.sr.ext x') rv e2 fun σ1 sr1 => ?_
          dsimp only at q
          exact turn_rg ⟨hr', sr1⟩ (ry.ext x') (RGE.mono x' q) fun ρ2 H2 σ2 ys2 sm2 mh2 zs x2 r2 ry2 q2 => ⟨ρ2, sm2, mh2, zs, (x.trans x').trans x2, r2, ry2, q2⟩
def mGen (n : Nat) (b : MGn) : List MV → MH → Option (List MV × MH) := fun xs h => match b [] (xs.map some ++ List.replicate (n - xs.length) none) h with
  | (ys, .nx _ h1) => some (ys, h1)
  | _ => none
def SpGM (K : PySem.W.Frag) (G : String → Option V) (n : Nat) (f : List MV → MH → Option (List MV × MH)) : SpG := fun vs H Q _ => ∃ ρ xs mh ys mh1, HR K G ρ H mh ∧ VRs K G ρ H xs vs ∧ vs.length = n ∧ f xs mh = some (ys, mh1) ∧
  ∀ ρ1 H1 ys1, Ext K ρ H ρ1 H1 → HR K G ρ1 H1 mh1 → VRs K G ρ1 H1 ys ys1 → Q ys1 H1
theorem fn_gen {P : Program} {w : World} {mg : Str → Option Value} {base : Heap} {x qual : Str} {params : Arguments} {body : List Stmt} {scope : Scope} {dvs : List V} {kws : List (Str × V)} {f : Addr} {fd : FuncData} {N ps : List Str} {k : Nat} {b : MGn} (F : FunD K x qual params body scope dvs kws f fd) (S : GScope N ps scope)
    (hb : ∀ (cdv : Value) (A : Around) (outer : List Env) (s : Shared) (H : Hp) (E : XK) (pn : List (Addr × Obj)), Room k (A.deeper (PyProof.Rows.envOfC qual scope s.heap.objs.size f cdv)) →
      L2.GSs (gcxOf P w K mg base N qual scope f cdv A outer s H E pn) body (RG K G noW b)) :
    GFn P w K mg base (k + 1) f fd ps (SpGM K G ps.length (mGen N.length b)) := by
  obtain ⟨oc, od, dV, kV, doc, pm, an, cdv, ct, osl, rfl, lk, hcd, _, _⟩ := F.ex
  refine gfn_of lk hcd S (fun vs H Q E h => h.choose_spec.choose_spec.choose_spec.choose_spec.choose_spec.2.2.1) fun A outer s H vs Q E pn hr h => ⟨_, hb cdv A outer s H E pn hr, ?_⟩
  obtain ⟨ρ, xs, mh, ys, mh1, h1, h2, h3, h4, h5⟩ := h
  refine ⟨ρ, _, mh, [], ⟨h1, h2.at (n := N.length)⟩, VRs.nil, ?_⟩
  unfold mGen at h4
  cases e : b [] (xs.map some ++ List.replicate (N.length - xs.length) none) mh with
  | mk zs r =>
    rw [e] at h4
    cases r with
    | nx s m =>
      cases h4
      exact fun ρ1 H1 σ1 ys1 x hr sr ry => h5 ρ1 H1 ys1 x hr ry
    | _ => cases h4
def gKL (f : List MV → MH → Option (List MV × MH)) (n : Nat) (xs : List MV) (h : MH) : Rz MV := if xs.length = n then match f xs h with
  | some (ys, h2) => .ok (.ref h2.length) (h2 ++ [.lst ys])
  | none => .no else .no
theorem noCX {P : Program} {w : World} {outer : List Env} {H : Hp} {s s' : Shared} {e : Value} (h : L2.CX P w outer H s (fun _ _ _ => False) e s') : False := by
  obtain ⟨_, _, _, _, _, _, _, _, _, _, _, _, w⟩ := h
  exact w
end
end Mo
namespace Mo
open PySem PySem.Spec PyProof.Rows L2
def inK (ks : List Key) (l : List (List Key)) : Bool := l.any fun z => decide (z = ks)
section
variable {P : Program} {w : World} {K : PySem.W.Frag} {H : Hp} {h : Heap} {a b : Addr} {ks : List Key} {xs : List (List Key × Addr)}
end
section
variable {X : Cx} {pins : List (Addr × Obj)} {σ : L2.St} {H : Hp} {s : Shared} {a b : Addr} {ks : List Key} {xs : List (List Key × Addr)} {E : Value → Shared → Prop} {A : Around}
end
end Mo
namespace Mo
open PySem L2
def keyX : MV → Option (List Key)
  | .tup ys => keysM ys
  | .ktp ys => keysM ys
  | _ => none
open Classical in
noncomputable def putX (hs0 : List Key → Int) (d k v : MV) (h : MH) : Option MH := match d, v with
  | .ref i, .bl true => match h[i]? with
    | some (.dx hs ks) => match keyX k with
      | some k => if hs = hs0 ∧ ks.length < SZ ∧ inK k ks = false then some (h.set i (.dx hs (ks ++ [k]))) else none
      | none => none
    | _ => none
  | _, _ => none
noncomputable def sPutX (hs0 : List Key → Int) (d k e : ME) : MS := fun s h => (e s h).bnS s fun v h1 => (d s h1).bnS s fun x h2 => (k s h2).bnS s fun y h3 => match putX hs0 x y v h3 with
  | some h4 => .nx s h4
  | none => .no
def eDx0 (hs0 : List Key → Int) : ME := fun _ h => .ok (.ref h.length) (h ++ [.dx hs0 []])
section
variable {K : PySem.W.Frag} {G : String → Option V} {ρ : List Addr} {H : Hp} {mh : MH}
theorem HR.dx (hr : HR K G ρ H mh) {i : Nat} {hs : List Key → Int} {ks : List (List Key)} {v : V} (e : mh[i]? = some (.dx hs ks)) (r : VR K G ρ H (.ref i) v) :
    ∃ a xs, v = .ref a ∧ ρ[i]? = some a ∧ H a = some (.ext (dxP hs a xs)) ∧ xs.map (fun x : List Key × Addr => x.1) = ks ∧ ∀ x ∈ xs, KeyAt K H x.2 x.1 := by
  simp only [VR] at r
  obtain ⟨a, rfl, ha⟩ := r
  obtain ⟨xs, h1, h2, h3⟩ := hr.get e ha
  exact ⟨a, xs, rfl, ha, h1, h2, h3⟩
theorem KeyAt.ext {ρ1 : List Addr} {H1 : Hp} {b : Addr} {ks : List Key} (x : Ext K ρ H ρ1 H1) (q : KeyAt K H b ks) : KeyAt K H1 b ks := q.imp_left (x.tup _ _)
end
section
variable {X : Cx} {G : String → Option V} {W : WX}
end
section
variable {h : MH} {hs : List Key → Int} {i : Nat} {ks : List (List Key)} {kvs : List (List Key × MV)} {k : List Key} {y : MV} {f : Bool → Bool}
variable {s : Lo} {v : MV} {a b c : ME}
@[simp] theorem eDx0_ev : eDx0 hs s h = .ok (.ref h.length) (h ++ [.dx hs []]) := rfl
noncomputable def KPX1 (r : Rz MV) (hs0 : List Key → Int) (d k : ME) (s : Lo) : SR := r.bnS s fun v h1 => (d s h1).bnS s fun x h2 => (k s h2).bnS s fun y h3 => match putX hs0 x y v h3 with
  | some h4 => .nx s h4
  | none => .no
noncomputable def KPX2 (r : Rz MV) (hs0 : List Key → Int) (v : MV) (k : ME) (s : Lo) : SR := r.bnS s fun x h2 => (k s h2).bnS s fun y h3 => match putX hs0 x y v h3 with
  | some h4 => .nx s h4
  | none => .no
noncomputable def KPX3 (r : Rz MV) (hs0 : List Key → Int) (v x : MV) (s : Lo) : SR := r.bnS s fun y h3 => match putX hs0 x y v h3 with
  | some h4 => .nx s h4
  | none => .no
variable {d kk e : ME} {x : MV}
@[simp] theorem sPutX_ev : sPutX hs d kk e s h = KPX1 (e s h) hs d kk s := rfl
@[simp] theorem KPX1_ok : KPX1 (.ok v h) hs d kk s = KPX2 (d s h) hs v kk s := rfl
@[simp] theorem KPX2_ok : KPX2 (.ok x h) hs v kk s = KPX3 (kk s h) hs v x s := rfl
@[simp] theorem KPX3_ok : KPX3 (.ok y h) hs v x s = KNx (putX hs x y v h) s := rfl
variable {ys : List MV} {g : MG} {bb : MGn}
@[simp] theorem gPl_ev {m : MS} : gPl m ys s h = (ys, m s h) := rfl
@[simp] theorem gSq_ev {aa : MGn} : gSq aa bb ys s h = gKS bb (aa ys s h) := rfl
@[simp] theorem gKS_nx : gKS bb (ys, .nx s h) = bb ys s h := rfl
@[simp] theorem gNx_ev : gNx ys s h = (ys, .nx s h) := rfl
@[simp] theorem gKY_ok : gKY ys s (.ok v h) = (ys ++ [v], .nx s h) := rfl
@[simp] theorem gIf_ev {mc : MB} {aa : MGn} : gIf mc aa bb ys s h = gKI aa bb ys s (mc s h) := rfl
@[simp] theorem gKI_ok {b : Bool} {aa : MGn} : gKI aa bb ys s (.ok b h) = if b = true then aa ys s h else bb ys s h := rfl
@[simp] theorem gFor_ev {it : ME} : gFor it g bb ys s h = gKF g bb ys s (it s h) := rfl
end
end Mo
namespace Mo
open PySem PySem.Spec PyProof.Rows L2
open PySem.W (KSb.Asc KSb.enc KSb.codes)
namespace Asci
open Builtin
theorem found {b : Array UInt8} {p : Nat} (h : (b.getD p 0).toNat < 128) : _codecs.asciiDecoder.find true b p = .text [(b.getD p 0).toNat] (p + 1) := by
  show (let c := (b.getD p 0).toNat; if c < 128 then _codecs.Found.char c (p + 1) else .bad (p + 1) "ordinal not in range(128)" false) = _
  dsimp only
  rw [if_pos h]
  rfl
theorem run {b : Array UInt8} (ha : ∀ p, p < b.size → (b.getD p 0).toNat < 128) (hz : b.size ≤ 16777216) (id : String) :
    _codecs.runDecoder id _codecs.asciiDecoder none true b 0 [] = pure ((b.toList.map UInt8.toNat).toArray, b.size) := by
  have big : ∀ p, ¬ ((PySem.W.KBdo.out b p).size > sizeLine) := fun p => by
    have h := PySem.W.KBdo.out_size b p
    rw [sizeLine_eq]
    omega
  unfold _codecs.runDecoder
  refine (PySem.W.KBdo.loop_bind (mk := fun p => ((p, PySem.W.KBdo.out b p, ({} : _codecs.Faults)) : Nat × Array Nat × _codecs.Faults)) (n := b.size) (fun x p hp => ?_)).trans ?_
  · simp only [if_neg (big p), if_neg (Nat.not_le.mpr hp), found (ha p hp), PySem.W.KBdo.out_next hp]
  · show pure (PySem.W.KBdo.out b b.size, b.size) = _
    rw [PySem.W.KBdo.out_whole]
section
variable {b : Array UInt8} {c : UInt8} {cs : List UInt8} {t u : Tok} {x : PySem.Str} {n : Nat}
end
def txt (b : Array UInt8) : PySem.Str := ⟨(b.toList.map UInt8.toNat).toArray⟩
section
variable {prog : Program} {w : World} {A : Around} {E : Value → Shared → Prop} {s : Shared} {b : Array UInt8} {t u : Tok}
end
end Asci
section
variable {X : Cx}
end
instance (a : PySem.Str) : Decidable (PySem.W.KSb.Asc a) := by unfold PySem.W.KSb.Asc; infer_instance
def fDecA (x y : MV) (h : MH) : OV := match x, y with
  | .byt b, .str e => if e = Str.ofString "ascii" ∧ (∀ c ∈ b.toList, c.toNat < 128) ∧ b.size ≤ 16777216 then some (.str (Asci.txt b), h) else none
  | _, _ => none
def KDec (r : Rz MV) (me : ME) (s : Lo) : Rz MV := r.bnd fun x h1 => match x with
  | .byt b => (me s h1).bnd fun y h2 => lift (fDecA (.byt b) y h2)
  | _ => .no
def eDecA (mo me : ME) : ME := fun s h => KDec (mo s h) me s
section
variable {X : Cx} {G : String → Option V} {W : WX}
end
end Mo
namespace Mo
open PySem PySem.Spec PyProof.Rows L2
section
variable {X : Cx} {G : String → Option V} {W : WX}
inductive PJM (X : Cx) (G : String → Option V) (W : WX) : List Expr → List ME → Prop where
  | nil : PJM X G W [] []
  | cons {e : Expr} {m : ME} {es : List Expr} {ms : List ME} (h : PE X e (RE X.K G W m)) (r : PJM X G W es ms) : PJM X G W (e :: es) (m :: ms)
def KCF (n : Nat) (f : MF) (xs : List MV) (h : MH) : Rz MV := if xs.length = n then okR (f xs h) else .no
def eCFn (n : Nat) (f : MF) (ms : MEs) : ME := fun s h => (ms s h).bnd (KCF n f)
end
end Mo
namespace Mo
open PySem PySem.Spec PyProof.Rows L2
def fDivW (x y : MV) (h : MH) : OV := match x, y with
  | .int i, .int j => if 0 < j ∧ j < 4611686018427387904 then some (.int (i / j), h) else none
  | _, _ => none
@[simp] theorem fDivW_ev {i j : Int} {h : MH} : fDivW (.int i) (.int j) h = if 0 < j ∧ j < 4611686018427387904 then some (.int (i / j), h) else none := rfl
section
variable {s : Lo} {h : MH} {m me : ME} {ms : List ME} {acc : Str} {f : MF} {n : Nat} {as : MEs} {xs : List MV} {v : MV} {x : MX}
def KCFn (r : Rz (List MV)) (n : Nat) (f : MF) : Rz MV := r.bnd (KCF n f)
@[simp] theorem eCFn_ev : eCFn n f as s h = KCFn (as s h) n f := rfl
@[simp] theorem KCFn_ok : KCFn (.ok xs h) n f = if xs.length = n then okR (f xs h) else .no := rfl
@[simp] theorem eDecA_ev : eDecA m me s h = KDec (m s h) me s := rfl
@[simp] theorem KDec_ok {b : Array UInt8} : KDec (.ok (.byt b) h) me s = K3 (me s h) fDecA (.byt b) := rfl
end
end Mo
namespace Mo
open PySem PySem.Spec PyProof.Rows L2
section
variable {X : Cx} {G : String → Option V}
def fListB (xs : List MV) (h : MH) : OV := match xs with
  | [.byt b] => if b.size ≤ 16777216 then some (.ref h.length, h ++ [.lst ((bi b).map .int)]) else none
  | _ => none
def fOrd (xs : List MV) (h : MH) : OV := match xs with
  | [.str x] => if x.length = 1 then some (.int (x.cps.getD 0 0 : Nat), h) else none
  | _ => none
@[simp] theorem fListB_ev {b : Array UInt8} {h : MH} : fListB [.byt b] h = if b.size ≤ 16777216 then some (.ref h.length, h ++ [.lst ((bi b).map .int)]) else none := rfl
@[simp] theorem fOrd_ev {x : Str} {h : MH} : fOrd [.str x] h = if x.length = 1 then some (.int (x.cps.getD 0 0 : Nat), h) else none := rfl
end
end Mo
namespace Mo
open PySem L2
structure OwnD (P : Program) (w : World) (K : PySem.W.Frag) (mg : Str → Option Value) (base : Heap) (G : String → Option V) (k : Nat) (name : Str) (n : Nat) (p : String × MF) : Prop where
  ex : ∃ C fa fd ps, G p.1 = some (.ref C) ∧ Meth K C name fa ∧ FnOk P w K mg base (L2.CX P w) k fa fd ps (SpM K G ps.length p.2) ∧ Binds K fd ps [] ∧ ps.length = n
theorem passNo {X : Cx} (σ : St) : PassesAt (L2.CX X.prog X.w) X σ (fun _ _ _ => False) := by
  intro pins H s e s' I c
  obtain ⟨_, _, _, _, _, _, _, _, _, _, _, _, f⟩ := c
  exact f.elim
section
variable {X : Cx} {G : String → Option V} {W : WX} {k n : Nat} {f : MF} {C fa : Addr} {fd : FuncData} {ps : List Str}
theorem ownD_run {pins : List (Addr × Obj)} {σ : St} {H : Hp} {s : Shared} {A : Around} {us : List Value} {vs : List V} {Q : VK} {E : XK}
    (F : FnOk X.prog X.w X.K X.mg X.base (L2.CX X.prog X.w) k fa fd ps (SpM X.K G ps.length f)) (B : Binds X.K fd ps []) (hl : ps.length = n) (hr : Room k A)
    (e0 : Env0 X.prog X.w X.K X.mg X.base A X.stack s H) (hx : PassesAt (L2.CX X.prog X.w) X σ E) (I : Inv X pins σ H s) (r : Vals vs us) (hu : us.length = n) (q : SpM X.K G n f vs H Q E) :
    PySem.wpAny (model X.prog X.w) A (PySem.call (.ref fa) us) (EP X pins σ Q) X.xe s := by
  refine wpAny_call (codeAny_mono (F.run A X.stack s H ⟨us, []⟩ us vs Q E hr e0 (by
    have := B s us I.kIn (by rw [hl, ← hu]; simp)
    simpa using this) r (by rw [hl]; exact q)) fun r s' hq => ?_)
  cases r with
  | error e => exact hx pins H s e s' I hq
  | ok fl =>
    cases fl with
    | ret w => exact I.after hq
    | next => exact False.elim hq
    | brk => exact False.elim hq
    | cont => exact False.elim hq
def rOwnD (K : PySem.W.Frag) (G : String → Option V) (tab : List (String × MF)) (n : Nat) (E : XK) : List V → Hp → VK → Prop := fun vs H Q => ∃ a us p C dx fs, vs = .ref a :: us ∧ p ∈ tab ∧ G p.1 = some (.ref C) ∧ H a = some (.ins C dx fs) ∧ vs.length = n ∧
  SpM K G n p.2 vs H Q E
theorem op_inO {tab : List (String × MF)} (T : ∀ p ∈ tab, OwnD X.prog X.w X.K X.mg X.base G k "__contains__" 2 p) (hr : Room k X.A) :
    OpR X (compareOp .In) (fun v x H Q => rOwnD X.K G tab 2 (fun _ _ _ => False) [x, v] H fun z H' => ∃ b, z = .bl b ∧ Q (.bl b) H') := by
  intro pins s σ H v x u w Q I rv rx h
  obtain ⟨a, us, p, C, dx, fs, ev, hp, hG, ha, hl, q⟩ := h
  obtain ⟨C', fa, fd, ps, g1, M, F, B, hn⟩ := (T p hp).ex
  rw [hG] at g1
  cases g1
  cases ev
  cases rx
  obtain ⟨mA, J, _⟩ := ins_get I.hok ha
  obtain ⟨od, J, _⟩ := J.look
  obtain ⟨m, hF⟩ := I.fr
  refine PySem.W.in_K hF I.ok.mod.kin J M.at_ M.fn (wpAny_mono (ownD_run (us := [.ref a, u]) (vs := [.ref a, v]) F B hn hr I.env0 (passNo σ) I (.cons rfl (.cons rv .nil)) rfl q) (fun y s' z => ?_) fun _ _ e => e)
  obtain ⟨z', H', I', rz, b, ez, qz⟩ := z
  subst ez
  cases rz
  exact wpAny_truthy_bool ⟨.bl b, H', I', rfl, qz⟩
theorem c_lenO {tab : List (String × MF)} (T : ∀ p ∈ tab, OwnD X.prog X.w X.K X.mg X.base G k "__len__" 1 p) (hr : Room (k + 1) X.A) :
    CallR X (.builtin "len") (fun xs H Q => rOwnD X.K G tab 1 (fun _ _ _ => False) xs H fun z H' => ∃ i, z = .int i ∧ (0 ≤ i ∧ i < 2 ^ 63) ∧ Q (.int i) H') := by
  intro pins s σ H xs us Q I r h
  obtain ⟨a, vs, p, C, dx, fs, ev, hp, hG, ha, hl, q⟩ := h
  subst ev
  obtain rfl : vs = [] := by cases vs with | nil => rfl | cons _ _ => simp at hl
  obtain ⟨u, rfl, ru⟩ := r.one
  cases (show u = Value.ref a from ru)
  obtain ⟨C', fa, fd, ps, g1, M, F, B, hn⟩ := (T p hp).ex
  rw [hG] at g1
  cases g1
  obtain ⟨mA, J, _⟩ := ins_get I.hok ha
  obtain ⟨od, J, _⟩ := J.look
  obtain ⟨m, hF⟩ := I.fr
  refine PySem.W.len_K hF I.ok.mod.kin J M.at_ M.fn (wpAny_mono (ownD_run (us := [.ref a]) (vs := [.ref a]) F B hn hr.in1 I.env0.in1 (passNo σ) I (.cons rfl .nil) rfl q) (fun y s' z => ?_) fun _ _ e => e)
  obtain ⟨z', H', I', rz, i, ez, hi, qz⟩ := z
  subst ez
  obtain ⟨t, e⟩ := (show ∃ t, y = Value.int i t from rz)
  cases e
  exact ⟨hi, .int i, H', I'.tok _, ⟨_, rfl⟩, qz⟩
end
def dunRun (tab : List (String × MF)) (xs : List MV) (h : MH) : MR := match xs with
  | x :: _ => match insC h x with
    | some c => match tab.lookup c with
      | some g => match g xs h with
        | .ok v h1 => .ok v h1
        | _ => .no
      | none => .no
    | none => .no
  | [] => .no
def notB (neg : Bool) (v : MV) (h : MH) : MR := match v with
  | .bl b => .ok (.bl (if neg then !b else b)) h
  | _ => .no
def eInO (tab : List (String × MF)) (neg : Bool) (a b : ME) : ME := fun s h => (a s h).bnd fun x h1 => (b s h1).bnd fun y h2 => (dunRun tab [y, x] h2).bnd (notB neg)
def lenB (v : MV) (h : MH) : MR := match v with
  | .int i => if 0 ≤ i ∧ i < 9223372036854775808 then .ok (.int i) h else .no
  | _ => .no
def eLenO (tab : List (String × MF)) (ms : MEs) : ME := fun s h => (ms s h).bnd fun xs h1 => if xs.length = 1 then (dunRun tab xs h1).bnd lenB else .no
section
variable {X : Cx} {G : String → Option V} {W : WX} {k n : Nat} {a b e : Expr} {es : List Expr} {ma mb : ME} {ms : MEs} {pos p : Pos} {tab : List (String × MF)} {x : Str}
theorem dun_re {ρ : List Addr} {H : Hp} {mh : MH} {xs : List MV} {vs : List V} {P : MV → List Addr → Hp → Prop} {Q : VK} {σ : St} (hT : ∀ p ∈ tab, ∃ C, G p.1 = some (.ref C)) (hn : xs.length = n) (hr : HR X.K G ρ H mh) (rv : VRs X.K G ρ H xs vs)
    (q : RO X.K G W σ P ρ H (dunRun tab xs mh)) (hP : ∀ z ρ1 H1 (v : V), Ext X.K ρ H ρ1 H1 → VR X.K G ρ1 H1 z v → P z ρ1 H1 → Q v H1) : rOwnD X.K G tab n (fun _ _ _ => False) vs H Q := by
  unfold dunRun at q
  split at q
  · rename_i x xs'
    split at q
    · rename_i c hc
      split at q
      · rename_i g hg
        have hm := lookup_mem hg
        obtain ⟨C, hC⟩ := hT _ hm
        have hl := rv.length
        have rvs := rv
        simp only [VRs] at rv
        obtain ⟨v, us, rfl, rx, rus⟩ := rv
        have ins : ∃ a dx fs, v = .ref a ∧ H a = some (.ins C dx fs) := by
          unfold insC at hc
          split at hc
          · split at hc
            · rename_i i _ _ e
              cases hc
              obtain ⟨a, C', dx, us, rfl, ha, g1, g2, g3⟩ := hr.ins e rx
              rw [hC] at g1
              cases g1
              exact ⟨a, dx, us, rfl, g2⟩
            · cases hc
          · cases hc
        obtain ⟨a, dx, fs, rfl, ha⟩ := ins
        refine ⟨a, us, (c, g), C, dx, fs, rfl, hm, hC, ha, by rw [← hl]; exact hn, ρ, x :: xs', mh, hr, rvs, by rw [← hl]; exact hn, ?_⟩
        show RO X.K G _ [] _ ρ H (g (x :: xs') mh)
        cases hq : g (x :: xs') mh with
        | ok v3 h3 =>
          rw [hq] at q
          intro ρ3 H3 x3 hr3 v1 rv1
          exact hP _ _ _ _ x3 rv1 (q ρ3 H3 x3 hr3)
        | err e h3 => rw [hq] at q; exact q.elim
        | no => rw [hq] at q; exact q.elim
      · exact q.elim
    · exact q.elim
  · exact q.elim
end
end Mo
namespace Mo
open PySem L2
section
variable {X : Cx} {G : String → Option V} {W : WX} {k n : Nat} {a b e : Expr} {es : List Expr} {ma mb : ME} {ms : MEs} {pos p : Pos} {tab : List (String × MF)} {x : Str}
theorem in_re {neg : Bool} (hT : ∀ p ∈ tab, ∃ C, G p.1 = some (.ref C)) (σ : St) (H : Hp) (Q : VK) (h : RE X.K G W (eInO tab neg ma mb) σ H Q) :
    tOp (fun v x H Q => rOwnD X.K G tab 2 (fun _ _ _ => False) [x, v] H fun z H' => ∃ b, z = .bl b ∧ Q (.bl (if neg then !b else b)) H') (RE X.K G W ma) (RE X.K G W mb) σ H Q := by
  obtain ⟨ρ, sm, mh, r0, q⟩ := h
  refine re_bnd r0 q fun x ρ1 H1 mh1 v x1 r1 rv q1 => ?_
  refine re_bnd r1 q1 fun y ρ2 H2 mh2 w x2 r2 rw' q2 => ?_
  have rel := VRs.cons rw' (VRs.cons (rv.ext x2) VRs.nil)
  cases hq : dunRun tab [y, x] mh2 with
  | ok z h3 =>
    rw [hq] at q2
    cases z with
    | bl b =>
      refine dun_re (W := W) (σ := σ) (P := fun z ρ3 H3 => z = .bl b ∧ Q (.bl (if neg then !b else b)) H3) hT rfl r2.hr rel ?_ fun z ρ1 H1 v _ rz hz => ?_
      · rw [hq]
        intro ρ3 H3 x3 hr3
        exact ⟨rfl, q2 ρ3 H3 x3 hr3 _ (by simp [VR])⟩
      · obtain ⟨rfl, hz⟩ := hz
        simp only [VR] at rz
        exact ⟨b, rz, hz⟩
    | _ => exact q2.elim
  | err e h3 => rw [hq] at q2; exact (by unfold dunRun at hq; split at hq <;> (try split at hq) <;> (try split at hq) <;> (try split at hq) <;> cases hq)
  | no => rw [hq] at q2; exact q2.elim
theorem tabG {nm : Str} (T : ∀ p ∈ tab, OwnD X.prog X.w X.K X.mg X.base G k nm n p) : ∀ p ∈ tab, ∃ C, G p.1 = some (.ref C) := fun p hp => let ⟨⟨C, _, _, _, e, _⟩⟩ := T p hp; ⟨C, e⟩
theorem m_inO (T : ∀ p ∈ tab, OwnD X.prog X.w X.K X.mg X.base G k "__contains__" 2 p) (hr : Room k X.A) (ha : PE X a (RE X.K G W ma)) (hb : PE X b (RE X.K G W mb)) (hm : behindInMarks .In b = false) :
    PE X (.Compare a [.In] [b] pos) (RE X.K G W (eInO tab false ma mb)) := pe_imp (pe_cmpR (op_inO T hr) ha hb hm) (in_re (tabG T))
theorem m_inOT (T : ∀ p ∈ tab, OwnD X.prog X.w X.K X.mg X.base G k "__contains__" 2 p) (hr : Room k X.A) (ha : PE X a (RE X.K G W ma)) (hb : PE X b (RE X.K G W mb)) (hm : behindInMarks .In b = false) :
    PT X (.Compare a [.In] [b] pos) (RT X.K G W (bB (eInO tab false ma mb))) := pt_imp (pt_cmpR (op_inO T hr) ha hb hm) fun σ H Q h => in_re (tabG T) σ H _ (bB_re σ H Q h)
theorem len_re (hT : ∀ p ∈ tab, ∃ C, G p.1 = some (.ref C)) (σ : St) (H : Hp) (Q : VK) (h : RE X.K G W (eLenO tab ms) σ H Q) :
    tCB (fun xs H Q => rOwnD X.K G tab 1 (fun _ _ _ => False) xs H fun z H' => ∃ i, z = .int i ∧ (0 ≤ i ∧ i < 2 ^ 63) ∧ Q (.int i) H') (RA X.K G W ms) σ H Q := by
  obtain ⟨ρ, sm, mh, r0, q⟩ := h
  refine ra_bnd r0 q fun xs ρ1 H1 mh1 vs x1 r1 rvs q1 => ?_
  split at q1
  · rename_i hn
    cases hq : dunRun tab xs mh1 with
    | ok z h3 =>
      rw [hq] at q1
      cases z with
      | int i =>
        change RO X.K G W σ _ ρ1 H1 (if 0 ≤ i ∧ i < 9223372036854775808 then (Rz.ok (MV.int i) h3 : MR) else .no) at q1
        split at q1
        · rename_i hi
          refine dun_re (W := W) (σ := σ) (P := fun z ρ3 H3 => z = .int i ∧ Q (.int i) H3) hT hn r1.hr rvs ?_ fun z ρ1 H1 v _ rz hz => ?_
          · rw [hq]
            intro ρ3 H3 x3 hr3
            exact ⟨rfl, q1 ρ3 H3 x3 hr3 _ (by simp [VR])⟩
          · obtain ⟨rfl, hz⟩ := hz
            simp only [VR] at rz
            exact ⟨i, rz, ⟨hi.1, by have := hi.2; omega⟩, hz⟩
        · exact q1.elim
      | _ => exact q1.elim
    | err e h3 => exact (by unfold dunRun at hq; split at hq <;> (try split at hq) <;> (try split at hq) <;> (try split at hq) <;> cases hq)
    | no => rw [hq] at q1; exact q1.elim
  · exact q1.elim
theorem m_lenO (T : ∀ p ∈ tab, OwnD X.prog X.w X.K X.mg X.base G k "__len__" 1 p) (hr : Room (k + 1) X.A) (hg : Gl X x) (hm : X.mg x = none) (hv : bootBuiltins x = some (.builtin "len")) (ha : PA X (e :: es) (RA X.K G W ms)) (hn : x ≠ "__name__" := by decide) (hdb : (x == ("__debug__" : Str)) = false := by decide)
    (he : starEach (e :: es) X.env = (false, eval e X.env) :: starEach es X.env := by rfl) (hpl : (backTo pos (starEach es X.env)).any (·.1) = false := by rfl) : PE X (.Call (.Name x p) (e :: es) [] pos) (RE X.K G W (eLenO tab ms)) :=
  pe_imp (pe_callB (c_lenO T hr) hg hm hv ha hn hdb he hpl) (len_re (tabG T))
end
def sAugO (tab : List (String × MF)) (i : Nat) (m : ME) : MS := fun s h => match s[i]? with
  | some (some x) => (m s h).bnS s fun y h1 => (dunRun tab [x, y] h1).bnS s fun z h2 => .nx (s.set i (some z)) h2
  | _ => .no
def augI (f : Int → Int → Int) (x y : MV) : Option MV := match x, y with
  | .int i, .int j => some (.int (f i j))
  | _, _ => none
def sAugI (f : Int → Int → Int) (i : Nat) (m : ME) : MS := fun s h => match s[i]? with
  | some (some x) => (m s h).bnS s fun y h1 => match augI f x y with
    | some z => .nx (s.set i (some z)) h1
    | none => .no
  | _ => .no
section
variable {X : Cx} {G : String → Option V} {W : WX} {k n i : Nat} {e : Expr} {m : ME} {pos pos' : Pos} {tab : List (String × MF)} {x nm : Str} {op : Operator} {f : Int → Int → Int}
end
end Mo
namespace Mo
open PySem L2
open PyProof.Rows hiding St
structure OwnG (P : Program) (w : World) (K : PySem.W.Frag) (mg : Str → Option Value) (base : Heap) (G : String → Option V) (k : Nat) (name : Str) (n : Nat) (p : String × MF) : Prop where
  ex : ∃ C fa fd ps, G p.1 = some (.ref C) ∧ Meth K C name fa ∧ FnOk P w K mg base (L2.CX P w) k fa fd ps (SpM K G ps.length p.2) ∧ Binds K fd ps [] ∧ ps.length = n ∧ PySem.W.fnIn K fa = true ∧ PySem.W.noSeq K C = true
def dunRunE (tab : List (String × MF)) (xs : List MV) (h : MH) : MR := match xs with
  | x :: _ => match insC h x with
    | some c => match tab.lookup c with
      | some g => g xs h
      | none => .no
    | none => .no
  | [] => .no
def eIxO (tab : List (String × MF)) (a b : ME) : ME := fun s h => (a s h).bnd fun x h1 => (b s h1).bnd fun y h2 => dunRunE tab [x, y] h2
def sPutO (tab : List (String × MF)) (d k e : ME) : MS := fun s h => (e s h).bnS s fun v h1 => (d s h1).bnS s fun x h2 => (k s h2).bnS s fun y h3 => (dunRunE tab [x, y, v] h3).bnS s fun _ h4 => .nx s h4
section
variable {X : Cx} {G : String → Option V} {W : WX} {k n : Nat} {a b : Expr} {ma mb : ME} {pos : Pos} {tab : List (String × MF)}
theorem dunE_re {ρ : List Addr} {H : Hp} {mh : MH} {xs : List MV} {vs : List V} {Q : VK} {σ : St} (hT : ∀ p ∈ tab, ∃ C, G p.1 = some (.ref C)) (hn : xs.length = n) (hr : HR X.K G ρ H mh) (rv : VRs X.K G ρ H xs vs)
    (q : RO X.K G W σ (PV X.K G Q) ρ H (dunRunE tab xs mh)) : rOwnD X.K G tab n (WE W σ) vs H Q := by
  unfold dunRunE at q
  split at q
  · rename_i x xs'
    split at q
    · rename_i c hc
      split at q
      · rename_i g hg
        have hm := lookup_mem hg
        obtain ⟨C, hC⟩ := hT _ hm
        have hl := rv.length
        have rvs := rv
        simp only [VRs] at rv
        obtain ⟨v, us, rfl, rx, rus⟩ := rv
        have ins : ∃ a dx fs, v = .ref a ∧ H a = some (.ins C dx fs) := by
          unfold insC at hc
          split at hc
          · split at hc
            · rename_i i _ _ e
              cases hc
              obtain ⟨a, C', dx, us, rfl, ha, g1, g2, g3⟩ := hr.ins e rx
              rw [hC] at g1
              cases g1
              exact ⟨a, dx, us, rfl, g2⟩
            · cases hc
          · cases hc
        obtain ⟨a, dx, fs, rfl, ha⟩ := ins
        exact ⟨a, us, (c, g), C, dx, fs, rfl, hm, hC, ha, by rw [← hl]; exact hn, ρ, x :: xs', mh, hr, rvs, by rw [← hl]; exact hn, ro_anyS q⟩
      · exact q.elim
    · exact q.elim
  · exact q.elim
theorem pe_subO {ta tb : TE} (T : ∀ p ∈ tab, OwnG X.prog X.w X.K X.mg X.base G k "__getitem__" 2 p) (hr : Room (k + 1) X.A) (tk : Takes X W) (ha : PE X a ta) (hb : PE X b tb)
    (hs : ∀ x i, subscripted b true (.ref x) i = runValue (.builtin "lifetime.subscript" ⟨[.ref x, i], []⟩)) :
    PE X (.Subscript a b pos) (fun σ H Q => tOp (fun x y H Q => rOwnD X.K G tab 2 (WE W σ) [x, y] H Q) ta tb σ H Q) := by
  refine ⟨fun pins s σ H Q I h => ?_⟩
  refine Subscript_ (binT ha hb I h fun v u s2 x y H2 I2 rx ry q => ?_)
  obtain ⟨a, us, p, C, dx, fs, ev, hp, hG, hH, hl, q⟩ := q
  obtain ⟨C', fa, fd, ps, g1, M, F, B, hn, hf, hq⟩ := (T p hp).ex
  rw [hG] at g1
  cases g1
  cases ev
  cases rx
  obtain ⟨mA, J, _⟩ := ins_get I2.hok hH
  obtain ⟨od, J, _⟩ := J.look
  obtain ⟨m, hF⟩ := I2.fr
  exact PySem.W.sub_K hF I2.ok.mod.kin J M.at_ hf M.fn (ownD_run (us := [.ref a, u]) (vs := [.ref a, y]) F B hn hr.in1 I2.env0.in1 (passAt tk σ) I2 (.cons rfl (.cons ry .nil)) rfl q) (hs _ _)
theorem tabGG {nm : Str} (T : ∀ p ∈ tab, OwnG X.prog X.w X.K X.mg X.base G k nm n p) : ∀ p ∈ tab, ∃ C, G p.1 = some (.ref C) := fun p hp => let ⟨⟨C, _, _, _, e, _⟩⟩ := T p hp; ⟨C, e⟩
theorem m_ixO (T : ∀ p ∈ tab, OwnG X.prog X.w X.K X.mg X.base G k "__getitem__" 2 p) (hr : Room (k + 1) X.A) (tk : Takes X W) (ha : PE X a (RE X.K G W ma)) (hb : PE X b (RE X.K G W mb))
    (hs : ∀ x i, subscripted b true (.ref x) i = runValue (.builtin "lifetime.subscript" ⟨[.ref x, i], []⟩) := by exact fun _ _ => rfl) : PE X (.Subscript a b pos) (RE X.K G W (eIxO tab ma mb)) := by
  refine pe_imp (pe_subO T hr tk ha hb hs) fun σ H Q ⟨ρ, sm, mh, r0, q⟩ => ?_
  refine re_bnd r0 q fun x ρ1 H1 mh1 v x1 r1 rv q1 => ?_
  refine re_bnd r1 q1 fun y ρ2 H2 mh2 w x2 r2 rw' q2 => ?_
  exact dunE_re (tabGG T) rfl r2.hr (VRs.cons (rv.ext x2) (VRs.cons rw' VRs.nil)) q2
end
section
variable {X : Cx} {G : String → Option V} {W : WX} {o i value : Expr} {mo mi me : ME} {pos pos' tpos : Pos} {k : Nat} {tab : List (String × MF)} {op : Operator} {f : Int → Int → Int} {fl : Str}
end
end Mo
namespace Mo
open PySem L2
def leS (a b : Str) : Bool := !PySem.Spec.ltCps b.cps.toList a.cps.toList
theorem leS_iff {a b : Str} : leS a b = true ↔ a.cps.toList ≤ b.cps.toList := by
  unfold leS
  rw [PyProof.Rows.ltCps_eq]
  simp
theorem leS_trans (a b c : Str) (h1 : leS a b = true) (h2 : leS b c = true) : leS a c = true := leS_iff.mpr (List.le_trans (leS_iff.mp h1) (leS_iff.mp h2))
theorem leS_total (a b : Str) : (leS a b || leS b a) = true := by
  rw [Bool.or_eq_true, leS_iff, leS_iff]
  exact List.le_total ..
theorem leS_anti (a b : Str) (h1 : leS a b = true) (h2 : leS b a = true) : a = b := TL.ext_tl (List.le_antisymm (leS_iff.mp h1) (leS_iff.mp h2))
theorem rising_pw : ∀ (l : List Str) (p : Str), PyProof.Rows.risingS p l = true → (p :: l).Pairwise (fun a b => leS a b = true)
  | [], p, _ => by simp
  | x :: r, p, h => by
    unfold PyProof.Rows.risingS at h
    obtain ⟨h1, h2⟩ := Bool.and_eq_true_iff.mp h
    have ih := rising_pw r x h2
    have px : leS p x = true := h1
    refine List.pairwise_cons.mpr ⟨fun y hy => ?_, ih⟩
    rcases List.mem_cons.mp hy with rfl | hy
    · exact px
    · exact leS_trans _ _ _ px ((List.pairwise_cons.mp ih).1 y hy)
theorem sortedS_pw : ∀ (l : List Str), PyProof.Rows.sortedS l = true → l.Pairwise (fun a b => leS a b = true)
  | [], _ => List.Pairwise.nil
  | x :: r, h => rising_pw r x h
def srt (xs : List Str) : List Str := xs.mergeSort leS
theorem srt_perm (xs : List Str) : (srt xs).Perm xs := List.mergeSort_perm xs leS
theorem srt_pw (xs : List Str) : (srt xs).Pairwise (fun a b => leS a b = true) := List.pairwise_mergeSort leS_trans leS_total xs
theorem srt_eq {xs ys : List Str} (hp : ys.Perm xs) (hs : PyProof.Rows.sortedS ys = true) : ys = srt xs :=
  List.Perm.eq_of_pairwise (fun a b _ _ h1 h2 => leS_anti a b h1 h2) (sortedS_pw _ hs) (srt_pw xs) (hp.trans (srt_perm xs).symm)
def fSortS (xs : List MV) (h : MH) : OV := match xs with
  | [.ref i] => match h[i]? with
    | some (.lst zs) => match strsM zs with
      | some ys => if ys.length < 64 then some (.ref h.length, h ++ [.lst ((srt ys).map .str)]) else none
      | none => none
    | _ => none
  | _ => none
section
variable {X : Cx} {G : String → Option V}
theorem VRs_strs {K : PySem.W.Frag} {ρ : List Addr} {H : Hp} : ∀ l : List Str, VRs K G ρ H (l.map MV.str) (l.map V.str)
  | [] => by simp [VRs]
  | x :: l => by simp only [List.map_cons, VRs]; exact ⟨_, _, rfl, by simp [VR], VRs_strs l⟩
theorem s_sortS : CallS X.K G (rSortedS X.K) fSortS := by
  intro ρ H mh mh1 xs z vs Q hr rvs e k
  unfold fSortS at e
  split at e
  · obtain ⟨v, rfl, rv⟩ := rvs.one
    split at e
    · rename_i zs q
      split at e
      · rename_i ys hy
        split at e
        · rename_i h64
          cases e
          obtain ⟨a, us, rfl, ha, g1, g2⟩ := hr.lst q rv
          have eu := strs_V hy g2
          subst eu
          refine ⟨a, ys, rfl, SqL.of g1, h64, fun ws p hp hs hn => ?_⟩
          rw [srt_eq hp hs]
          obtain ⟨a1, a2, a3⟩ := new_lst hr (VRs_strs (srt ys)) hn
          exact k _ _ a2 a1 _ a3
        · cases e
      · cases e
    · cases e
  · cases e
def fStrS (xs : List MV) (h : MH) : OV := match xs with
  | [.str a] => some (.str a, h)
  | _ => none
theorem s_strS : CallS X.K G (fun xs H Q => ∃ a, xs = [.str a] ∧ Q (.str a) H) fStrS := by
  intro ρ H mh mh1 xs z vs Q hr rvs e k
  unfold fStrS at e
  split at e
  · obtain ⟨v, rfl, rv⟩ := rvs.one
    simp only [VR] at rv; subst rv
    cases e
    exact ⟨_, rfl, k _ _ Ext.refl hr _ (by simp [VR])⟩
  · cases e
@[simp] theorem fStrS_ev {a : Str} {h : MH} : fStrS [.str a] h = some (.str a, h) := rfl
theorem fSortS_ev {i : Nat} {xs : List Str} {h : MH} (e : h[i]? = some (.lst (xs.map .str))) (hl : xs.length < 64) : fSortS [.ref i] h = some (.ref h.length, h ++ [.lst ((srt xs).map .str)]) := by
  have : ∀ l : List Str, strsM (l.map MV.str) = some l := fun l => by
    induction l with
    | nil => rfl
    | cons x l ih => simp [strsM, ih]
  simp [fSortS, e, this, hl]
end
end Mo
namespace Mo
open PySem L2
section
variable {s : Lo} {h : MH} {x y z v : MV} {e : MX} {tab : List (String × MF)} {neg : Bool} {xs : List MV} {i : Nat} {f : Int → Int → Int} {c : String} {g : MF}
def KDu (o : Option String) (tab : List (String × MF)) (xs : List MV) (h : MH) : MR := match o with
  | some c => match tab.lookup c with
    | some g => match g xs h with
      | .ok v h1 => .ok v h1
      | _ => .no
    | none => .no
  | none => .no
def KDv (o : Option MF) (xs : List MV) (h : MH) : MR := match o with
  | some g => match g xs h with
    | .ok v h1 => .ok v h1
    | _ => .no
  | none => .no
def KDw (r : MR) : MR := match r with
  | .ok v h1 => .ok v h1
  | _ => .no
@[simp] theorem dunRun_ev : dunRun tab (x :: xs) h = KDu (insC h x) tab (x :: xs) h := rfl
@[simp] theorem KDu_some : KDu (some c) tab xs h = KDv (tab.lookup c) xs h := rfl
@[simp] theorem KDv_some : KDv (some g) xs h = KDw (g xs h) := rfl
@[simp] theorem KDw_ok : KDw (.ok v h) = .ok v h := rfl
theorem insC_ref {fs : List (Str × MV)} (e : h[i]? = some (.ins c fs)) : insC h (.ref i) = some c := by simp [insC, e]
def KI1 (r : MR) (tab : List (String × MF)) (neg : Bool) (b : ME) (s : Lo) : MR := r.bnd fun x h1 => (b s h1).bnd fun y h2 => (dunRun tab [y, x] h2).bnd (notB neg)
def KI2 (r : MR) (tab : List (String × MF)) (neg : Bool) (x : MV) : MR := r.bnd fun y h2 => (dunRun tab [y, x] h2).bnd (notB neg)
def KI3 (r : MR) (neg : Bool) : MR := r.bnd (notB neg)
@[simp] theorem eInO_ev {a b} : eInO tab neg a b s h = KI1 (a s h) tab neg b s := rfl
@[simp] theorem KI1_ok {b} : KI1 (.ok x h) tab neg b s = KI2 (b s h) tab neg x := rfl
@[simp] theorem KI2_ok : KI2 (.ok y h) tab neg x = KI3 (dunRun tab [y, x] h) neg := rfl
@[simp] theorem KI3_f {b : Bool} : KI3 (.ok (.bl b) h) false = .ok (.bl b) h := rfl
@[simp] theorem KI3_t {b : Bool} : KI3 (.ok (.bl b) h) true = .ok (.bl (!b)) h := rfl
@[simp] theorem KI1_err {b} : KI1 (.err e h) tab neg b s = .err e h := rfl
@[simp] theorem KI2_err : KI2 (.err e h) tab neg x = .err e h := rfl
def KL1 (r : Rz (List MV)) (tab : List (String × MF)) : MR := r.bnd fun xs h1 => if xs.length = 1 then (dunRun tab xs h1).bnd lenB else .no
def KL2 (r : MR) : MR := r.bnd lenB
@[simp] theorem eLenO_ev {ms} : eLenO tab ms s h = KL1 (ms s h) tab := rfl
@[simp] theorem KL1_ok : KL1 (.ok [x] h) tab = KL2 (dunRun tab [x] h) := rfl
theorem lenB_ev {i : Int} : lenB (.int i) h = if 0 ≤ i ∧ i < 9223372036854775808 then .ok (.int i) h else .no := by unfold lenB; rfl
theorem KL2_e : KL2 (.ok v h) = lenB v h := by unfold KL2; rfl
theorem KL2_ok {n : Nat} (hn : n < 9223372036854775808) : KL2 (.ok (.int n) h) = .ok (.int n) h := by
  rw [KL2_e, lenB_ev, if_pos ⟨by omega, by omega⟩]
def KDuE (o : Option String) (tab : List (String × MF)) (xs : List MV) (h : MH) : MR := match o with
  | some c => match tab.lookup c with
    | some g => g xs h
    | none => .no
  | none => .no
def KDvE (o : Option MF) (xs : List MV) (h : MH) : MR := match o with
  | some g => g xs h
  | none => .no
@[simp] theorem dunRunE_ev : dunRunE tab (x :: xs) h = KDuE (insC h x) tab (x :: xs) h := rfl
@[simp] theorem KDuE_some : KDuE (some c) tab xs h = KDvE (tab.lookup c) xs h := rfl
@[simp] theorem KDvE_some : KDvE (some g) xs h = g xs h := rfl
def KX1 (r : MR) (tab : List (String × MF)) (b : ME) (s : Lo) : MR := r.bnd fun x h1 => (b s h1).bnd fun y h2 => dunRunE tab [x, y] h2
def KX2 (r : MR) (tab : List (String × MF)) (x : MV) : MR := r.bnd fun y h2 => dunRunE tab [x, y] h2
@[simp] theorem eIxO_ev {a b} : eIxO tab a b s h = KX1 (a s h) tab b s := rfl
@[simp] theorem KX1_ok {b} : KX1 (.ok x h) tab b s = KX2 (b s h) tab x := rfl
@[simp] theorem KX2_ok : KX2 (.ok y h) tab x = dunRunE tab [x, y] h := rfl
@[simp] theorem KX1_err {b} : KX1 (.err e h) tab b s = .err e h := rfl
@[simp] theorem KX2_err : KX2 (.err e h) tab x = .err e h := rfl
def KP1 (r : MR) (tab : List (String × MF)) (d k : ME) (s : Lo) : SR := r.bnS s fun v h1 => (d s h1).bnS s fun x h2 => (k s h2).bnS s fun y h3 => (dunRunE tab [x, y, v] h3).bnS s fun _ h4 => .nx s h4
def KP2 (r : MR) (tab : List (String × MF)) (v : MV) (k : ME) (s : Lo) : SR := r.bnS s fun x h2 => (k s h2).bnS s fun y h3 => (dunRunE tab [x, y, v] h3).bnS s fun _ h4 => .nx s h4
def KP3 (r : MR) (tab : List (String × MF)) (v x : MV) (s : Lo) : SR := r.bnS s fun y h3 => (dunRunE tab [x, y, v] h3).bnS s fun _ h4 => .nx s h4
def KP4 (r : MR) (s : Lo) : SR := r.bnS s fun _ h4 => .nx s h4
@[simp] theorem sPutO_ev {d k m} : sPutO tab d k m s h = KP1 (m s h) tab d k s := rfl
@[simp] theorem KP1_ok {d k} : KP1 (.ok v h) tab d k s = KP2 (d s h) tab v k s := rfl
@[simp] theorem KP2_ok {k} : KP2 (.ok x h) tab v k s = KP3 (k s h) tab v x s := rfl
@[simp] theorem KP3_ok : KP3 (.ok y h) tab v x s = KP4 (dunRunE tab [x, y, v] h) s := rfl
@[simp] theorem KP4_ok : KP4 (.ok v h) s = .nx s h := rfl
@[simp] theorem KP4_err : KP4 (.err e h) s = .err e s h := rfl
@[simp] theorem KP1_err {d k} : KP1 (.err e h) tab d k s = .err e s h := rfl
def KA0 (o : Option (Option MV)) (tab : List (String × MF)) (i : Nat) (m : ME) (s : Lo) (h : MH) : SR := match o with
  | some (some x) => (m s h).bnS s fun y h1 => (dunRun tab [x, y] h1).bnS s fun z h2 => .nx (s.set i (some z)) h2
  | _ => .no
def KA1 (r : MR) (tab : List (String × MF)) (i : Nat) (x : MV) (s : Lo) : SR := r.bnS s fun y h1 => (dunRun tab [x, y] h1).bnS s fun z h2 => .nx (s.set i (some z)) h2
def KA2 (r : MR) (i : Nat) (s : Lo) : SR := r.bnS s fun z h2 => .nx (s.set i (some z)) h2
@[simp] theorem sAugO_ev {m} : sAugO tab i m s h = KA0 (s[i]?) tab i m s h := rfl
@[simp] theorem KA0_some {m} : KA0 (some (some x)) tab i m s h = KA1 (m s h) tab i x s := rfl
@[simp] theorem KA1_ok : KA1 (.ok y h) tab i x s = KA2 (dunRun tab [x, y] h) i s := rfl
@[simp] theorem KA2_ok : KA2 (.ok z h) i s = .nx (s.set i (some z)) h := rfl
def KGu0 (o : Option (Option MV)) (f : Int → Int → Int) (i : Nat) (m : ME) (s : Lo) (h : MH) : SR := match o with
  | some (some x) => (m s h).bnS s fun y h1 => match augI f x y with
    | some z => .nx (s.set i (some z)) h1
    | none => .no
  | _ => .no
def KGu1 (r : MR) (f : Int → Int → Int) (i : Nat) (x : MV) (s : Lo) : SR := r.bnS s fun y h1 => match augI f x y with
    | some z => .nx (s.set i (some z)) h1
    | none => .no
@[simp] theorem sAugI_ev {m} : sAugI f i m s h = KGu0 (s[i]?) f i m s h := rfl
@[simp] theorem KG0_some {m} : KGu0 (some (some x)) f i m s h = KGu1 (m s h) f i x s := rfl
@[simp] theorem KG1_ok {a b : Int} : KGu1 (.ok (.int b) h) f i (.int a) s = .nx (s.set i (some (.int (f a b)))) h := rfl
end
end Mo
namespace Mo
open PySem L2
def tLockW (W : WX) (t : WX → TS) : TS := fun D σ H => ∃ d u, H d = some u ∧ Mut (some u) ∧ ∀ od,
  t (fun cls dd σ' H' => H' d = some (.frz od u) ∧ W cls dd σ' (upd H' d u))
    ⟨fun σ' H' => H' d = some (.frz od u) ∧ D.nx σ' (upd H' d u), fun v H' => H' d = some (.frz od u) ∧ D.rt v (upd H' d u), fun σ' H' => H' d = some (.frz od u) ∧ D.bk σ' (upd H' d u), fun σ' H' => H' d = some (.frz od u) ∧ D.ct σ' (upd H' d u)⟩
    σ (upd H d (.frz od u))
section
variable {X : Cx} {W : WX}
theorem takes_unlock {d : Addr} {od : Obj} {u : HO} (tk : Takes X W) (hn : ∀ o' u', X.H_0 d ≠ some (.frz o' u')) : Takes X (fun cls dd σ' H' => H' d = some (.frz od u) ∧ W cls dd σ' (upd H' d u)) := by
  intro e s' ⟨a, B, sI, pins, σ, H, cls, dd, eu, I, nb, up, sky, na, os, ag, hd, w⟩
  have ne : a ≠ d := fun z => by rw [z, hd] at na; cases na
  exact tk e s' ⟨a, B, sI, pins, σ, upd H d u, cls, dd, eu, I.unlock hd hn, nb, up, sky, by rw [upd_ne ne]; exact na, os, ag, w⟩
theorem ps_lockW {st : Stmt} {t : WX → TS} (tk : Takes X W) (h : ∀ W', Takes X W' → PS X st (t W')) : PS X st (tLockW W t) := by
  refine ⟨fun pins s σ H D I hw => ?_⟩
  obtain ⟨d, u, hd, mu, hw⟩ := hw
  obtain ⟨od, I1⟩ := I.lock hd mu
  refine thn ((h _ (takes_unlock tk (I.nofrz hd mu))).run pins s σ _ _ I1 (hw od)) fun f s1 q => ?_
  cases f with
  | next => obtain ⟨σ', H', I2, e, q⟩ := q; exact ⟨σ', _, I2.unlock e (I.nofrz hd mu), q⟩
  | brk => obtain ⟨σ', H', I2, e, q⟩ := q; exact ⟨σ', _, I2.unlock e (I.nofrz hd mu), q⟩
  | cont => obtain ⟨σ', H', I2, e, q⟩ := q; exact ⟨σ', _, I2.unlock e (I.nofrz hd mu), q⟩
  | ret v => obtain ⟨x, σ', H', I2, r, e, q⟩ := q; exact ⟨x, σ', _, I2.unlock e (I.nofrz hd mu), r, q⟩
end
def kM : Key → MV
  | .inl i => .int i
  | .inr x => .str x
theorem kM_V {K : PySem.W.Frag} {G : String → Option V} {ρ : List Addr} {H : Hp} (k : Key) : VR K G ρ H (kM k) (kV k) := by
  cases k <;> simp [kM, kV, VR]
theorem KRs.at {K : PySem.W.Frag} {G : String → Option V} {ρ : List Addr} {H : Hp} : ∀ {xs : List (Key × MV)} {vs : List (Key × V)} (i : Nat), KRs K G ρ H id xs vs → (∀ {k v}, vs[i]? = some (k, v) → ∃ y, xs[i]? = some (k, y) ∧ VR K G ρ H y v)
  | [], vs, i, h, k, v, e => by cases h; simp at e
  | x :: xs, vs, i, h, k, v, e => by
    obtain ⟨w, r, rfl, hw, hr⟩ := h
    cases i with
    | zero => simp only [List.getElem?_cons_zero, Option.some.injEq] at e; cases e; exact ⟨x.2, rfl, hw⟩
    | succ i => simp only [List.getElem?_cons_succ] at e ⊢; exact KRs.at i hr e
open Classical in
noncomputable def getFD (od : Obj) (vs : List (Key × V)) (i : Nat) : Itm := fun j h => match h[i]? with
  | some (.fdk od' vs' kvs) => if od' = od ∧ vs' = vs then some ((kvs[j]?).map fun kv => kM kv.1) else none
  | _ => none
theorem its_keys {K : PySem.W.Frag} {G : String → Option V} {ρ0 : List Addr} {H0 : Hp} {d : Addr} {od : Obj} {vs : List (Key × V)} {i : Nat} (hi : ρ0[i]? = some d) : ItS K G ρ0 H0 (Itk d od vs) (getFD od vs i) := by
  have key : ∀ {j ρ H mh o}, Ext K ρ0 H0 ρ H → HR K G ρ H mh → getFD od vs i j mh = some o → ∃ kvs, H d = some (.frz od (.dK vs)) ∧ KRs K G ρ H id kvs vs ∧ o = (kvs[j]?).map fun kv => kM kv.1 := by
    intro j ρ H mh o x hr e
    unfold getFD at e
    split at e
    · rename_i od' vs' kvs q
      split at e
      · rename_i hc
        obtain ⟨rfl, rfl⟩ := hc
        cases e
        obtain ⟨a, ha, hH, hk⟩ := hr.obj i _ q
        obtain ⟨t, ht⟩ := x.pre
        have : ρ[i]? = some d := by
          have hlt := (List.getElem?_eq_some_iff.mp hi).1
          rw [ht, List.getElem?_append_left hlt]; exact hi
        rw [this] at ha
        cases ha
        exact ⟨kvs, hH, hk, rfl⟩
      · cases e
    · cases e
  refine ⟨fun {j ρ H mh} x hr e => ?_, fun {j ρ H mh z} x hr e => ?_, fun {j ρ H mh z y H'} x hr e hy => ?_⟩
  · obtain ⟨kvs, h1, h2, h3⟩ := key x hr e
    have : kvs.length ≤ j := by
      cases q : kvs[j]? with
      | none => exact List.getElem?_eq_none_iff.mp q
      | some p => rw [q] at h3; cases h3
    exact ⟨h1, by rw [← KRs.length h2]; exact this⟩
  · obtain ⟨kvs, h1, h2, h3⟩ := key x hr e
    refine ⟨h1, ?_⟩
    rw [← KRs.length h2]
    cases q : kvs[j]? with
    | none => rw [q] at h3; cases h3
    | some p => exact (List.getElem?_eq_some_iff.mp q).1
  · obtain ⟨kvs, h1, h2, h3⟩ := key x hr e
    obtain ⟨rfl, k, v, hv, rfl⟩ := hy
    obtain ⟨w, hw, _⟩ := KRs.at j h2 hv
    rw [hw] at h3
    cases h3
    exact ⟨ρ, Ext.refl, hr, kM_V k⟩
open Classical in
noncomputable def unlH (od : Obj) (vs : List (Key × V)) (i : Nat) (k : MH → SR) (h : MH) : SR := match h[i]? with
  | some (.fdk od' vs' kvs) => if od' = od ∧ vs' = vs then k (h.set i (.dk kvs)) else .no
  | _ => .no
theorem unlH_at {od : Obj} {vs : List (Key × V)} {i : Nat} {k : MH → SR} {h : MH} {kvs : List (Key × MV)} (e : h[i]? = some (.fdk od vs kvs)) : unlH od vs i k h = k (h.set i (.dk kvs)) := by
  unfold unlH
  rw [e]
  exact if_pos ⟨rfl, rfl⟩
theorem unlH_split {P : SR → Prop} (hP : ¬ P .no) {od : Obj} {vs : List (Key × V)} {i : Nat} {k : MH → SR} {h : MH} (q : P (unlH od vs i k h)) : ∃ kvs, h[i]? = some (.fdk od vs kvs) ∧ P (k (h.set i (.dk kvs))) := by
  unfold unlH at q
  split at q
  · rename_i od' vs' kvs e
    split at q
    · rename_i hc
      obtain ⟨h1, h2⟩ := hc
      subst h1 h2
      exact ⟨kvs, e, q⟩
    · exact absurd q hP
  · exact absurd q hP
noncomputable def unlD (od : Obj) (vs : List (Key × V)) (i : Nat) : SR → SR
  | .nx s h => unlH od vs i (fun h' => .nx s h') h
  | .rt v h => unlH od vs i (fun h' => .rt v h') h
  | .err e s h => unlH od vs i (fun h' => .err e s h') h
  | _ => .no
open Classical in
noncomputable def sUniD (f : Obj → List (Key × V) → SR) : SR := if h : ∃ r, ∀ od vs, f od vs = r then h.choose else .no
theorem sUniD_eq {f : Obj → List (Key × V) → SR} {r : SR} (h : ∀ od vs, f od vs = r) : sUniD f = r := by
  have hx : ∃ r, ∀ od vs, f od vs = r := ⟨r, h⟩
  unfold sUniD
  rw [dif_pos hx, ← h default [], hx.choose_spec]
theorem sUniD_at {f : Obj → List (Key × V) → SR} {P : SR → Prop} (hP : ¬ P .no) (h : P (sUniD f)) (od : Obj) (vs : List (Key × V)) : P (f od vs) := by
  unfold sUniD at h
  split at h
  · rename_i hx
    rw [hx.choose_spec od vs]; exact h
  · exact absurd h hP
open Classical in
noncomputable def forD1 (od : Obj) (vs : List (Key × V)) (i : Nat) (g : MG) (b : MS) (v : MV) (s : Lo) (h : MH) : SR := match v with
  | .ref j => match h[j]? with
    | some (.fdk od' vs' kvs) => if (j = i ∧ od' = od) ∧ vs' = vs then forG (getFD od vs i) g b (kvs.length + 1) 0 s h else .no
    | _ => .no
  | _ => .no
noncomputable def forD (od : Obj) (vs : List (Key × V)) (i : Nat) (m : ME) (g : MG) (b : MS) : MS := fun s h => (m s h).bnS s fun v h1 => forD1 od vs i g b v s h1
@[irreducible] noncomputable def sForD (m : ME) (g : MG) (b : MS) : MS := fun s h => match m s h with
  | .ok (.ref i) _ => match h[i]? with
    | some (.dk kvs) => sUniD fun od vs => unlD od vs i (forD od vs i m g b s (h.set i (.fdk od vs kvs)))
    | _ => .no
  | _ => .no
section
variable {X : Cx} {G : String → Option V} {W : WX} {tg iter : Expr} {body : List Stmt} {m : ME} {g : MG} {b : MS} {t : TG} {pos : Pos}
theorem unl_RSE {K : PySem.W.Frag} {D : Ends} {ρ ρ1 : List Addr} {H H1 : Hp} {d : Addr} {od : Obj} {vs : List (Key × V)} {i : Nat} {r : SR} (hi : ρ[i]? = some d) (hd : H d = some (.dK vs)) (x1 : Ext K ρ (upd H d (.frz od (.dK vs))) ρ1 H1)
    (h : RSE K G W D ρ H (unlD od vs i r)) :
    RSE K G (fun cls dd σ' H' => H' d = some (.frz od (.dK vs)) ∧ W cls dd σ' (upd H' d (.dK vs)))
      ⟨fun σ' H' => H' d = some (.frz od (.dK vs)) ∧ D.nx σ' (upd H' d (.dK vs)), fun v H' => H' d = some (.frz od (.dK vs)) ∧ D.rt v (upd H' d (.dK vs)), fun σ' H' => H' d = some (.frz od (.dK vs)) ∧ D.bk σ' (upd H' d (.dK vs)), fun σ' H' => H' d = some (.frz od (.dK vs)) ∧ D.ct σ' (upd H' d (.dK vs))⟩ ρ1 H1 r := by
  have x0 : Ext K ρ H ρ (upd H d (.frz od (.dK vs))) := ext_write hd (by simp [Plain])
  have back : ∀ {ρ2 H2 h2 kvs}, Ext K ρ1 H1 ρ2 H2 → HR K G ρ2 H2 h2 → h2[i]? = some (.fdk od vs kvs) → H2 d = some (.frz od (.dK vs)) ∧ Ext K ρ H ρ2 (upd H2 d (.dK vs)) ∧ Ext K ρ2 H2 ρ2 (upd H2 d (.dK vs)) ∧ HR K G ρ2 (upd H2 d (.dK vs)) (h2.set i (.dk kvs)) := by
    intro ρ2 H2 h2 kvs x2 hr q
    have x3 := x1.trans x2
    obtain ⟨a, ha, hH, hk⟩ := hr.obj i _ q
    obtain ⟨t, ht⟩ := x3.pre
    have : ρ2[i]? = some d := by
      have hlt := (List.getElem?_eq_some_iff.mp hi).1
      rw [ht, List.getElem?_append_left hlt]; exact hi
    rw [this] at ha
    cases ha
    have xw : Ext K ρ2 H2 ρ2 (upd H2 d (.dK vs)) := ext_write hH (by simp [Plain])
    obtain ⟨a1, a2⟩ := hr.write (u := .dK vs) (o1 := .dk kvs) q this ⟨vs, upd_same, KRs.ext xw hk⟩
    exact ⟨hH, (x0.trans x3).trans xw, xw, a1⟩
  cases r with
  | nx s h2 =>
    intro ρ2 H2 σ2 x2 hr sr
    obtain ⟨kvs, q, h⟩ := unlH_split (P := fun r => RSE K G W D ρ H r) (fun z => z) (k := fun h' => .nx s h') h
    obtain ⟨e1, e2, e3, e4⟩ := back x2 hr q
    exact ⟨e1, h _ _ _ e2 e4 (sr.ext e3)⟩
  | rt v h2 =>
    intro ρ2 H2 v2 x2 hr rv
    obtain ⟨kvs, q, h⟩ := unlH_split (P := fun r => RSE K G W D ρ H r) (fun z => z) (k := fun h' => .rt v h') h
    obtain ⟨e1, e2, e3, e4⟩ := back x2 hr q
    exact ⟨e1, h _ _ _ e2 e4 (rv.ext e3)⟩
  | bk s h2 => exact h.elim
  | ct s h2 => exact h.elim
  | no => exact h.elim
  | err e s h2 =>
    intro ρ2 H2 σ2 cls dd x2 hr sr er
    obtain ⟨kvs, q, h⟩ := unlH_split (P := fun r => RSE K G W D ρ H r) (fun z => z) (k := fun h' => .err e s h') h
    obtain ⟨e1, e2, e3, e4⟩ := back x2 hr q
    refine ⟨e1, h _ _ _ _ _ e2 e4 (sr.ext e3) ?_⟩
    obtain ⟨C, a, us, g1, rfl, rfl, hn, ha, hf⟩ := er
    refine ⟨C, a, us, g1, rfl, rfl, hn, ?_, KRs.ext e3 hf⟩
    rw [upd_ne (fun z => by rw [z, e1] at ha; cases ha)]; exact ha
theorem m_forD (hp : PassesOwn (model X.prog X.w) X.A X.env X.xe) (hc : X.calm = true) (tk : Takes X W) (hi : ∀ W, PE X iter (RE X.K G W m)) (hg : PG X tg t) (hgs : GS X.K G t g) (hb : ∀ W, Takes X W → PSs X body (RS X.K G W b))
    (hs : ∀ x, foldedSetIterable iter X.env x = pure x := by intro _; rfl) : PS X (.For tg iter body [] pos) (RS X.K G W (sForD m g b)) := by
  refine ps_imp (ps_lockW (t := fun W' => tFor (iKeys (RE X.K G W' m)) t (RS X.K G W' b)) tk fun W' tk' => ps_for hp hc (pi_keys (hi W')) hg (hb W' tk') hs) fun D σ H ⟨ρ, sm, mh, r, q⟩ => ?_
  unfold sForD at q
  split at q
  · rename_i i h0 e0
    split at q
    · rename_i kvs ek
      obtain ⟨d, hd, vs, hH, hk⟩ := r.hr.obj i _ ek
      refine ⟨d, .dK vs, hH, trivial, fun od => ?_⟩
      have q1 := sUniD_at (P := fun r => RSE X.K G W D ρ H r) (fun z => z) q od vs
      have xw : Ext X.K ρ H ρ (upd H d (.frz od (.dK vs))) := ext_write hH (by simp [Plain])
      obtain ⟨a1, a2⟩ := r.hr.write (u := .frz od (.dK vs)) (o1 := .fdk od vs kvs) ek hd ⟨upd_same, KRs.ext xw hk⟩
      have rl : Rl X.K G ρ (upd H d (.frz od (.dK vs))) sm σ (mh.set i (.fdk od vs kvs)) := r.at a2 a1
      have q2 := unl_RSE (G := G) (W := W) hd hH (Ext.refl (ρ := ρ) (H := upd H d (.frz od (.dK vs)))) q1
      refine res_bnd rl q2 fun v ρ1 H1 mh1 w x1 r1 rv q3 => ?_
      unfold forD1 at q3
      split at q3
      · rename_i j
        split at q3
        · rename_i od' vs' kvs' e5
          split at q3
          · rename_i hj
            obtain ⟨⟨h1, h2⟩, h3⟩ := hj
            subst h1 h2 h3
            simp only [VR] at rv
            obtain ⟨a, rfl, ha⟩ := rv
            obtain ⟨aa, haa, hH2, _⟩ := r1.hr.obj j _ e5
            have e6 : aa = a := Option.some.inj (haa.symm.trans ha)
            exact ⟨a, od', rfl, .inl ⟨vs', by rw [← e6]; exact hH2, for_sim (its_keys ha) hgs (Ext.refl (ρ := ρ1)) r1 q3⟩⟩
          · exact q3.elim
        · exact q3.elim
      · exact q3.elim
    · exact q.elim
  · exact q.elim
end
end Mo
namespace Mo
open PySem L2
open Classical in
noncomputable def unlE (od : Obj) (vs : List (Key × V)) (i : Nat) : MR → MR
  | .ok v h => match h[i]? with
    | some (.fdk od' vs' kvs) => if od' = od ∧ vs' = vs then .ok v (h.set i (.dk kvs)) else .no
    | _ => .no
  | _ => .no
theorem unlE_at {od : Obj} {vs : List (Key × V)} {i : Nat} {v : MV} {h : MH} {kvs : List (Key × MV)} (e : h[i]? = some (.fdk od vs kvs)) : unlE od vs i (.ok v h) = .ok v (h.set i (.dk kvs)) := by
  unfold unlE
  simp only [e, and_self, if_true]
theorem unlE_split {od : Obj} {vs : List (Key × V)} {i : Nat} {r : MR} {P : MR → Prop} (hP : ¬ P .no) (q : P (unlE od vs i r)) : ∃ v h kvs, r = .ok v h ∧ h[i]? = some (.fdk od vs kvs) ∧ P (.ok v (h.set i (.dk kvs))) := by
  cases r with
  | ok v h =>
    dsimp only [unlE] at q
    split at q
    · rename_i od' vs' kvs e
      split at q
      · rename_i hc
        obtain ⟨h1, h2⟩ := hc
        subst h1 h2
        exact ⟨v, h, kvs, rfl, e, q⟩
      · exact absurd q hP
    · exact absurd q hP
  | err e h => exact absurd q hP
  | no => exact absurd q hP
open Classical in
noncomputable def uniDE (f : Obj → List (Key × V) → MR) : MR := if h : ∃ r, ∀ od vs, f od vs = r then h.choose else .no
theorem uniDE_eq {f : Obj → List (Key × V) → MR} {r : MR} (h : ∀ od vs, f od vs = r) : uniDE f = r := by
  have hx : ∃ r, ∀ od vs, f od vs = r := ⟨r, h⟩
  unfold uniDE
  rw [dif_pos hx, ← h default [], hx.choose_spec]
theorem uniDE_at {f : Obj → List (Key × V) → MR} {P : MR → Prop} (hP : ¬ P .no) (h : P (uniDE f)) (od : Obj) (vs : List (Key × V)) : P (f od vs) := by
  unfold uniDE at h
  split at h
  · rename_i hx
    rw [hx.choose_spec od vs]; exact h
  · exact absurd h hP
open Classical in
noncomputable def lcD1 (od : Obj) (vs : List (Key × V)) (i : Nat) (g : MG) (c : MB) (me : ME) (us : List Nat) (s : Lo) (v : MV) (h : MH) : MR := match v with
  | .ref j => match h[j]? with
    | some (.fdk od' vs' kvs) => if (j = i ∧ od' = od) ∧ vs' = vs then lcG (getFD od vs i) g c me h.length (kvs.length + 1) 0 (wipeM s us) (h ++ [.lst []]) else .no
    | _ => .no
  | _ => .no
noncomputable def lcD (od : Obj) (vs : List (Key × V)) (i : Nat) (m : ME) (g : MG) (c : MB) (me : ME) (us : List Nat) : ME := fun s h => (m s h).bnd fun v h1 => lcD1 od vs i g c me us s v h1
@[irreducible] noncomputable def eLcD (m : ME) (g : MG) (c : MB) (me : ME) (us : List Nat) : ME := fun s h => match m s h with
  | .ok (.ref i) _ => match h[i]? with
    | some (.dk kvs) => uniDE fun od vs => unlE od vs i (lcD od vs i m g c me us s (h.set i (.fdk od vs kvs)))
    | _ => .no
  | _ => .no
section
variable {X : Cx} {G : String → Option V} {W : WX} {tg iter elt : Expr} {ifs : List Expr} {m me : ME} {g : MG} {c : MB} {t : TG} {pos : Pos} {scope : Scope} {own : List (Str × Nat)}
theorem lcD_re {us : List Nat} (hgw : GW X.K G t g us) (σ : St) (H : Hp) (Q : VK) (h : RE X.K G W (eLcD m g c me us) σ H Q) :
    tLockE (tLc (iKeys (RE X.K G noW m)) t (RT X.K G noW c) (RE X.K G noW me) us) σ H Q := by
  obtain ⟨ρ, sm, mh, r, q⟩ := h
  unfold eLcD at q
  split at q
  · rename_i i h0 e0
    split at q
    · rename_i kvs ek
      obtain ⟨d, hd, vs, hH, hk⟩ := r.hr.obj i _ ek
      refine ⟨d, .dK vs, hH, trivial, fun od => ?_⟩
      have q1 := uniDE_at (P := fun r => RO X.K G W σ (PV X.K G Q) ρ H r) (fun z => z) q od vs
      have x0 : Ext X.K ρ H ρ (upd H d (.frz od (.dK vs))) := ext_write hH (by simp [Plain])
      obtain ⟨a1, a2⟩ := r.hr.write (u := .frz od (.dK vs)) (o1 := .fdk od vs kvs) ek hd ⟨upd_same, KRs.ext x0 hk⟩
      have rl : Rl X.K G ρ (upd H d (.frz od (.dK vs))) sm σ (mh.set i (.fdk od vs kvs)) := r.at a2 a1
      -- the run under the lock, with the lock's own wish
      have q2 : RO X.K G noW σ (PV X.K G fun v H' => H' d = some (.frz od (.dK vs)) ∧ Q v (upd H' d (.dK vs))) ρ (upd H d (.frz od (.dK vs))) (lcD od vs i m g c me us sm (mh.set i (.fdk od vs kvs))) := by
        obtain ⟨v, h2, kvs2, er, e2, q2⟩ := unlE_split (P := fun r => RO X.K G W σ (PV X.K G Q) ρ H r) (fun z => z) q1
        rw [er]
        intro ρ2 H2 x2 hr v2 rv2
        obtain ⟨a, ha, hH2, hk2⟩ := hr.obj i _ e2
        have e6 : a = d := by
          obtain ⟨t, ht⟩ := x2.pre
          have hlt := (List.getElem?_eq_some_iff.mp hd).1
          have := hd
          rw [← List.getElem?_append_left (l₂ := t) hlt, ← ht] at this
          exact Option.some.inj (ha.symm.trans this)
        rw [e6] at hH2 ha
        have xw : Ext X.K ρ2 H2 ρ2 (upd H2 d (.dK vs)) := ext_write hH2 (by simp [Plain])
        obtain ⟨b1, b2⟩ := hr.write (u := .dK vs) (o1 := .dk kvs2) e2 ha ⟨vs, upd_same, KRs.ext xw hk2⟩
        exact ⟨hH2, q2 _ _ ((x0.trans x2).trans xw) b1 v2 (rv2.ext xw)⟩
      refine re_bnd rl q2 fun v ρ1 H1 mh1 w x1 r1 rv q3 => ?_
      unfold lcD1 at q3
      split at q3
      · rename_i j
        split at q3
        · rename_i od' vs' kvs' e5
          split at q3
          · rename_i hj
            obtain ⟨⟨h1, h2⟩, h3⟩ := hj
            subst h1 h2 h3
            simp only [VR] at rv
            obtain ⟨a, rfl, ha⟩ := rv
            obtain ⟨aa, haa, hH2, _⟩ := r1.hr.obj j _ e5
            have e6 : aa = a := Option.some.inj (haa.symm.trans ha)
            exact ⟨a, od', rfl, .inl ⟨vs', by rw [← e6]; exact hH2, fun D hD => lc_sim (its_keys ha) hgw (Ext.refl (ρ := ρ1)) r1 hD q3⟩⟩
          · exact q3.elim
        · exact q3.elim
      · exact q3.elim
    · exact q.elim
  · exact q.elim
theorem m_lcD (hc : X.calm = true) (hN : X.N.Nodup) (ok : BlkOk X.N X.env.scope scope own) (hi : PE X iter (RE X.K G noW m)) (hgw : GW X.K G t g (own.map (·.2)))
    (hg : InBlk X scope fun Y => PG Y tg t) (ht : InBlk X scope fun Y => PTs Y ifs (RT X.K G noW c)) (he : InBlk X scope fun Y => PE Y elt (RE X.K G noW me)) (hs : ∀ x, foldedSetIterable iter X.env x = pure x := by intro _; rfl) :
    PE X (.ListComp elt [⟨tg, iter, ifs, 0⟩] scope pos) (RE X.K G W (eLcD m g c me (own.map (·.2)))) :=
  pe_imp (pe_lock (pe_lc hc hN (pi_keys hi) ok hg ht he hs)) fun σ H Q h => lcD_re hgw σ H Q h
end
section
variable {s : Lo} {h : MH} {g : MG} {b : MS} {c : MB} {m me : ME} {us : List Nat} {i : Nat} {kvs : List (Key × MV)} {h0 : MH}
theorem sForD_at {r : SR} (e : m s h = .ok (.ref i) h0) (q : h[i]? = some (.dk kvs))
    (e2 : ∀ od vs, m s (h.set i (.fdk od vs kvs)) = .ok (.ref i) (h.set i (.fdk od vs kvs)))
    (hr : ∀ od vs, unlD od vs i (forG (getFD od vs i) g b (kvs.length + 1) 0 s (h.set i (.fdk od vs kvs))) = r) : sForD m g b s h = r := by
  have hlt := (List.getElem?_eq_some_iff.mp q).1
  unfold sForD
  rw [e]
  simp only [q]
  refine sUniD_eq fun od vs => ?_
  rw [← hr od vs]
  unfold forD
  rw [e2]
  show unlD od vs i (forD1 od vs i g b (.ref i) s (h.set i (.fdk od vs kvs))) = _
  have q2 : (h.set i (.fdk od vs kvs))[i]? = some (.fdk od vs kvs) := List.getElem?_set_self hlt
  unfold forD1
  simp only [q2, and_self, if_true]
theorem eLcD_at {v : MV} {hz : MH} (e : m s h = .ok (.ref i) h0) (q : h[i]? = some (.dk kvs))
    (e2 : ∀ od vs, m s (h.set i (.fdk od vs kvs)) = .ok (.ref i) (h.set i (.fdk od vs kvs)))
    (hr : ∀ od vs, unlE od vs i (lcG (getFD od vs i) g c me h.length (kvs.length + 1) 0 (wipeM s us) (h.set i (.fdk od vs kvs) ++ [.lst []])) = .ok v hz) : eLcD m g c me us s h = .ok v hz := by
  have hlt := (List.getElem?_eq_some_iff.mp q).1
  unfold eLcD
  rw [e]
  simp only [q]
  refine uniDE_eq fun od vs => ?_
  rw [← hr od vs]
  unfold lcD
  rw [e2]
  show unlE od vs i (lcD1 od vs i g c me us s (.ref i) (h.set i (.fdk od vs kvs))) = _
  have q2 : (h.set i (.fdk od vs kvs))[i]? = some (.fdk od vs kvs) := List.getElem?_set_self hlt
  unfold lcD1
  simp only [q2, and_self, if_true, List.length_set]
theorem getFD_at {od : Obj} {vs : List (Key × V)} {j : Nat} (q : h[i]? = some (.fdk od vs kvs)) : getFD od vs i j h = some ((kvs[j]?).map fun kv => kM kv.1) := by
  unfold getFD
  simp only [q, and_self, if_true]
theorem unlD_nx {od : Obj} {vs : List (Key × V)} (q : h[i]? = some (.fdk od vs kvs)) : unlD od vs i (.nx s h) = .nx s (h.set i (.dk kvs)) := unlH_at (k := fun h' => .nx s h') q
theorem unlD_rt {od : Obj} {vs : List (Key × V)} {v : MV} (q : h[i]? = some (.fdk od vs kvs)) : unlD od vs i (.rt v h) = .rt v (h.set i (.dk kvs)) := unlH_at (k := fun h' => .rt v h') q
end
end Mo
namespace Mo
open PySem L2
def putDc (p : Nat) (y z : MV) (h : MH) : Option MH := match h[p]? with
  | some (.dk kvs) => match keyM y with
    | some k => if kvs.length < SZ then some (h.set p (.dk (putM kvs k z))) else none
    | none => none
  | _ => none
def dcG (get : Itm) (g : MG) (c : MB) (mk mv : ME) (p : Nat) : Nat → Nat → Lo → MH → Rz MV
  | 0, _, _, _ => .no
  | n + 1, i, s, h => match get i h with
    | none => .no
    | some none => .ok (.ref p) h
    | some (some x) => match g x s with
      | none => .no
      | some s1 => (c s1 h).bdN fun b h1 => if b = true then (mk s1 h1).bdN fun y h2 => (mv s1 h2).bdN fun z h3 => match putDc p y z h3 with
          | some h4 => dcG get g c mk mv p n (i + 1) s h4
          | none => .no
        else dcG get g c mk mv p n (i + 1) s h1
section
variable {K : PySem.W.Frag} {G : String → Option V} {W : WX}
theorem dc_sim {ρ0 ρ : List Addr} {H0 H : Hp} {J : It} {get : Itm} {t : TG} {g : MG} {c : MB} {mk mv : ME} {us : List Nat} {n : Nat} {sm : Lo} {σ : St} {mh : MH} {Q : VK} {D : Addr} (T : ItS K G ρ0 H0 J get) (hg : GW K G t g us) (x0 : Ext K ρ0 H0 ρ H) (r0 : Rl K G ρ H sm σ mh)
    (hD : H D = none) (h : RO K G W σ (PV K G Q) ρ H (dcG get g c mk mv mh.length n 0 (wipeM sm us) (mh ++ [.dk []]))) :
    ∃ W' : Nat → Nat → Hp → Prop, (∃ q, W' 0 q (upd H D (.dK []))) ∧ ∀ i q H, W' i q H →
      (J.stop i H ∧ Q (.ref D) H) ∨ (J.go i H ∧ ∃ Nx : Hp → Prop, (∀ H', Nx H' → ∃ m', m' < q ∧ W' (i + 1) m' H') ∧ ∀ x H', J.yld i H x H' → t x (wipe σ us) H' fun σ2 H2 => wipe σ2 us = wipe σ us ∧ RT K G noW c σ2 H2 fun b H3 =>
        if b = true then RE K G noW mk σ2 H3 fun y H4 => RE K G noW mv σ2 H4 fun z H5 => ∃ kvs k, y = kV k ∧ H5 D = some (.dK kvs) ∧ kvs.length < sizeLine ∧ Nx (upd H5 D (.dK (putK kvs k z))) else Nx H3) := by
  let P : Nat → Nat → Hp → Prop := fun i q H => ∃ ρ mh', Ext K ρ0 H0 ρ H ∧ HR K G ρ H mh' ∧ ρ[mh.length]? = some D ∧ SRl K G ρ H (wipeM sm us) (wipe σ us) ∧ RO K G W σ (PV K G Q) ρ H (dcG get g c mk mv mh.length q i (wipeM sm us) mh')
  refine ⟨P, ⟨n, ?_⟩, ?_⟩
  · obtain ⟨h1, x1⟩ := r0.hr.new (u := .dK []) (o := .dk []) hD ⟨[], upd_same, rfl⟩
    exact ⟨ρ ++ [D], mh ++ [.dk []], x0.trans x1, h1, by rw [← r0.hr.len, List.getElem?_append_right (Nat.le_refl _)]; simp, (r0.sr.wipe us).ext x1, h.ext x1⟩
  rintro i q H1 ⟨ρ1, mh1, x, hr, hk, sr, q1⟩
  cases q with
  | zero => exact False.elim q1
  | succ q =>
    unfold dcG at q1
    cases e : get i mh1 with
    | none => rw [e] at q1; exact False.elim q1
    | some o =>
      rw [e] at q1
      cases o with
      | none => exact .inl ⟨T.stop x hr e, RO.ok (P := PV K G Q) q1 hr _ (by simp only [VR]; exact ⟨D, rfl, hk⟩)⟩
      | some v =>
        refine .inr ⟨T.go x hr e, fun H' => P (i + 1) q H', fun H' z => ⟨q, Nat.lt_succ_self _, z⟩, fun y H' hy => ?_⟩
        obtain ⟨ρ', x', hr', rv⟩ := T.yld x hr e hy
        dsimp only at q1
        cases e2 : g v (wipeM sm us) with
        | none => rw [e2] at q1; exact False.elim q1
        | some s1 =>
          rw [e2] at q1
          refine hg hr' (sr.ext x') rv e2 fun σ1 sr1 w1 => ⟨w1.trans wipe_wipe, ρ', s1, mh1, ⟨hr', sr1⟩, ?_⟩
          dsimp only at q1
          cases e3 : c s1 mh1 with
          | no => rw [e3] at q1; exact False.elim q1
          | err z m1 => rw [e3] at q1; exact False.elim q1
          | ok b mh2 =>
            rw [e3] at q1
            dsimp only [Rz.bdN] at q1
            intro ρ2 H2 x2 hr2
            have xx := x'.trans x2
            cases b with
            | false =>
              rw [if_neg Bool.false_ne_true] at q1
              dsimp only [PB]
              rw [if_neg Bool.false_ne_true]
              exact ⟨ρ2, mh2, x.trans xx, hr2, xx.at hk, sr.ext xx, q1.ext xx⟩
            | true =>
              rw [if_pos rfl] at q1
              dsimp only [PB]
              rw [if_pos rfl]
              refine ⟨ρ2, s1, mh2, ⟨hr2, sr1.ext x2⟩, ?_⟩
              cases e4 : mk s1 mh2 with
              | no => rw [e4] at q1; exact False.elim q1
              | err z m1 => rw [e4] at q1; exact False.elim q1
              | ok u mh3 =>
                rw [e4] at q1
                dsimp only at q1
                intro ρ3 H3 x3 hr3 u1 ru
                have x4 := xx.trans x3
                refine ⟨ρ3, s1, mh3, ⟨hr3, (sr1.ext x2).ext x3⟩, ?_⟩
                cases e9 : mv s1 mh3 with
                | no => rw [e9] at q1; exact False.elim q1
                | err z m1 => rw [e9] at q1; exact False.elim q1
                | ok w mh4 =>
                  rw [e9] at q1
                  dsimp only at q1
                  intro ρ4 H4 x5 hr4 w1 rw1
                  have x6 := x4.trans x5
                  unfold putDc at q1
                  split at q1
                  · rename_i h5 e5
                    split at e5
                    · rename_i kvs e6
                      split at e5
                      · rename_i k hkey
                        split at e5
                        · rename_i hl
                          cases e5
                          obtain ⟨vs, g1, g2⟩ := hr4.get e6 (x6.at hk)
                          have ek := keyM_V hkey (ru.ext x5)
                          refine ⟨vs, k, ek, g1, by rw [SZ_eq, ← KRs.length g2]; exact hl, ?_⟩
                          obtain ⟨z1, z2⟩ := hr4.write (u := .dK (putK vs k w1)) (o1 := .dk (putM kvs k w)) e6 (x6.at hk) ⟨_, upd_same, KRs.ext (ext_write g1 (by simp [Plain])) (putM_V g2 rw1)⟩
                          have x7 := x6.trans z2
                          exact ⟨ρ4, _, x.trans x7, z1, x7.at hk, sr.ext x7, q1.ext x7⟩
                        · cases e5
                      · cases e5
                    · cases e5
                  · exact False.elim q1
end
def eDc (it : ME) (g : MG) (c : MB) (mk mv : ME) (us : List Nat) : ME := fun s h => (it s h).bnd fun v h1 => match v with
  | .ref i => match h1[i]? with
    | some (.lst xs) => dcG (getSeq (.ref i)) g c mk mv h1.length (xs.length + 1) 0 (wipeM s us) (h1 ++ [.dk []])
    | _ => .no
  | _ => .no
open Classical in
noncomputable def dcD1 (od : Obj) (vs : List (Key × V)) (i : Nat) (g : MG) (c : MB) (mk mv : ME) (us : List Nat) (s : Lo) (v : MV) (h : MH) : MR := match v with
  | .ref j => match h[j]? with
    | some (.fdk od' vs' kvs) => if (j = i ∧ od' = od) ∧ vs' = vs then dcG (getFD od vs i) g c mk mv h.length (kvs.length + 1) 0 (wipeM s us) (h ++ [.dk []]) else .no
    | _ => .no
  | _ => .no
noncomputable def dcD (od : Obj) (vs : List (Key × V)) (i : Nat) (m : ME) (g : MG) (c : MB) (mk mv : ME) (us : List Nat) : ME := fun s h => (m s h).bnd fun v h1 => dcD1 od vs i g c mk mv us s v h1
@[irreducible] noncomputable def eDcD (m : ME) (g : MG) (c : MB) (mk mv : ME) (us : List Nat) : ME := fun s h => match m s h with
  | .ok (.ref i) _ => match h[i]? with
    | some (.dk kvs) => uniDE fun od vs => unlE od vs i (dcD od vs i m g c mk mv us s (h.set i (.fdk od vs kvs)))
    | _ => .no
  | _ => .no
section
variable {X : Cx} {G : String → Option V} {W : WX} {tg iter kx vx : Expr} {ifs : List Expr} {m mk mv : ME} {g : MG} {c : MB} {t : TG} {pos : Pos} {scope : Scope} {own : List (Str × Nat)}
theorem dcl_re {us : List Nat} (hgw : GW X.K G t g us) (σ : St) (H : Hp) (Q : VK) (h : RE X.K G W (eDc m g c mk mv us) σ H Q) : tDc (iList X.K (RE X.K G W m)) t (RT X.K G noW c) (RE X.K G noW mk) (RE X.K G noW mv) us σ H Q := by
  obtain ⟨ρ, sm, mh, r, q⟩ := h
  refine re_bnd (m := m) r q fun v ρ1 H1 mh1 x x1 r1 rv q1 => ?_
  split at q1
  · split at q1
    · rename_i i xs hx
      obtain ⟨a, vs, rfl, ha, h1, h2⟩ := r1.hr.lst hx rv
      exact ⟨a, rfl, ⟨vs, SqL.of h1⟩, fun D hD => dc_sim (its_list rv rfl) hgw (Ext.refl (ρ := ρ1)) r1 hD q1⟩
    · exact False.elim q1
  · exact False.elim q1
theorem m_dc (hc : X.calm = true) (hN : X.N.Nodup) (ok : BlkOk X.N X.env.scope scope own) (hi : PE X iter (RE X.K G W m)) (hgw : GW X.K G t g (own.map (·.2)))
    (hg : InBlk X scope fun Y => PG Y tg t) (ht : InBlk X scope fun Y => PTs Y ifs (RT X.K G noW c)) (hk : InBlk X scope fun Y => PE Y kx (RE X.K G noW mk)) (he : InBlk X scope fun Y => PE Y vx (RE X.K G noW mv)) (hs : ∀ x, foldedSetIterable iter X.env x = pure x := by intro _; rfl) :
    PE X (.DictComp kx vx [⟨tg, iter, ifs, 0⟩] scope pos) (RE X.K G W (eDc m g c mk mv (own.map (·.2)))) :=
  pe_imp (pe_dc hc hN (pi_list hi) ok hg ht hk he hs) fun σ H Q h => dcl_re hgw σ H Q h
theorem dcD_re {us : List Nat} (hgw : GW X.K G t g us) (σ : St) (H : Hp) (Q : VK) (h : RE X.K G W (eDcD m g c mk mv us) σ H Q) :
    tLockE (tDc (iKeys (RE X.K G noW m)) t (RT X.K G noW c) (RE X.K G noW mk) (RE X.K G noW mv) us) σ H Q := by
  obtain ⟨ρ, sm, mh, r, q⟩ := h
  unfold eDcD at q
  split at q
  · rename_i i h0 e0
    split at q
    · rename_i kvs ek
      obtain ⟨d, hd, vs, hH, hk⟩ := r.hr.obj i _ ek
      refine ⟨d, .dK vs, hH, trivial, fun od => ?_⟩
      have q1 := uniDE_at (P := fun r => RO X.K G W σ (PV X.K G Q) ρ H r) (fun z => z) q od vs
      have x0 : Ext X.K ρ H ρ (upd H d (.frz od (.dK vs))) := ext_write hH (by simp [Plain])
      obtain ⟨a1, a2⟩ := r.hr.write (u := .frz od (.dK vs)) (o1 := .fdk od vs kvs) ek hd ⟨upd_same, KRs.ext x0 hk⟩
      have rl : Rl X.K G ρ (upd H d (.frz od (.dK vs))) sm σ (mh.set i (.fdk od vs kvs)) := r.at a2 a1
      have q2 : RO X.K G noW σ (PV X.K G fun v H' => H' d = some (.frz od (.dK vs)) ∧ Q v (upd H' d (.dK vs))) ρ (upd H d (.frz od (.dK vs))) (dcD od vs i m g c mk mv us sm (mh.set i (.fdk od vs kvs))) := by
        obtain ⟨v, h2, kvs2, er, e2, q2⟩ := unlE_split (P := fun r => RO X.K G W σ (PV X.K G Q) ρ H r) (fun z => z) q1
        rw [er]
        intro ρ2 H2 x2 hr v2 rv2
        obtain ⟨a, ha, hH2, hk2⟩ := hr.obj i _ e2
        have e6 : a = d := by
          obtain ⟨t, ht⟩ := x2.pre
          have hlt := (List.getElem?_eq_some_iff.mp hd).1
          have := hd
          rw [← List.getElem?_append_left (l₂ := t) hlt, ← ht] at this
          exact Option.some.inj (ha.symm.trans this)
        rw [e6] at hH2 ha
        have xw : Ext X.K ρ2 H2 ρ2 (upd H2 d (.dK vs)) := ext_write hH2 (by simp [Plain])
        obtain ⟨b1, b2⟩ := hr.write (u := .dK vs) (o1 := .dk kvs2) e2 ha ⟨vs, upd_same, KRs.ext xw hk2⟩
        exact ⟨hH2, q2 _ _ ((x0.trans x2).trans xw) b1 v2 (rv2.ext xw)⟩
      refine re_bnd rl q2 fun v ρ1 H1 mh1 w x1 r1 rv q3 => ?_
      unfold dcD1 at q3
      split at q3
      · rename_i j
        split at q3
        · rename_i od' vs' kvs' e5
          split at q3
          · rename_i hj
            obtain ⟨⟨h1, h2⟩, h3⟩ := hj
            subst h1 h2 h3
            simp only [VR] at rv
            obtain ⟨a, rfl, ha⟩ := rv
            obtain ⟨aa, haa, hH2, _⟩ := r1.hr.obj j _ e5
            have e6 : aa = a := Option.some.inj (haa.symm.trans ha)
            exact ⟨a, od', rfl, .inl ⟨vs', by rw [← e6]; exact hH2, fun D hD => dc_sim (its_keys ha) hgw (Ext.refl (ρ := ρ1)) r1 hD q3⟩⟩
          · exact q3.elim
        · exact q3.elim
      · exact q3.elim
    · exact q.elim
  · exact q.elim
theorem m_dcD (hc : X.calm = true) (hN : X.N.Nodup) (ok : BlkOk X.N X.env.scope scope own) (hi : PE X iter (RE X.K G noW m)) (hgw : GW X.K G t g (own.map (·.2)))
    (hg : InBlk X scope fun Y => PG Y tg t) (ht : InBlk X scope fun Y => PTs Y ifs (RT X.K G noW c)) (hk : InBlk X scope fun Y => PE Y kx (RE X.K G noW mk)) (he : InBlk X scope fun Y => PE Y vx (RE X.K G noW mv)) (hs : ∀ x, foldedSetIterable iter X.env x = pure x := by intro _; rfl) :
    PE X (.DictComp kx vx [⟨tg, iter, ifs, 0⟩] scope pos) (RE X.K G W (eDcD m g c mk mv (own.map (·.2)))) :=
  pe_imp (pe_lock (pe_dc hc hN (pi_keys hi) ok hg ht hk he hs)) fun σ H Q h => dcD_re hgw σ H Q h
end
end Mo
namespace Mo
open PySem L2
def fDictC (xs : List MV) (h : MH) : OV := match xs with
  | [.ref i] => match h[i]? with
    | some (.dk kvs) => some (.ref h.length, h ++ [.dk kvs])
    | _ => none
  | _ => none
def fListD (xs : List MV) (h : MH) : OV := match xs with
  | [.ref i] => match h[i]? with
    | some (.dk kvs) => some (.ref h.length, h ++ [.lst (kvs.map fun kv => kM kv.1)])
    | _ => none
  | _ => none
def fClear (x : MV) (xs : List MV) (h : MH) : OV := match x, xs with
  | .ref i, [] => match h[i]? with
    | some (.dk _) => some (.non, h.set i (.dk []))
    | _ => none
  | _, _ => none
def isK (x : MV) (h : MH) : Bool := match x with
  | .ref i => match h[i]? with
    | some (.dk _) => true
    | _ => false
  | _ => false
section
variable {X : Cx} {G : String → Option V}
theorem VRs_keys {K : PySem.W.Frag} {ρ ρ' : List Addr} {H H' : Hp} : ∀ {kvs : List (Key × MV)} {vs : List (Key × V)}, KRs K G ρ H id kvs vs → VRs K G ρ' H' (kvs.map fun kv => kM kv.1) (vs.map fun kv => kV kv.1)
  | [], vs, h => by cases h; simp [VRs]
  | x :: xs, vs, h => by
    obtain ⟨w, r, rfl, hw, hr⟩ := h
    simp only [List.map_cons, VRs]
    exact ⟨_, _, rfl, kM_V _, VRs_keys hr⟩
theorem s_dictC : CallS X.K G (fun xs H Q => ∃ (a : Addr) (kvs : List (Key × V)), xs = [.ref a] ∧ Rd H a (.dK kvs) ∧ ∀ p, H p = none → Q (.ref p) (upd H p (.dK kvs))) fDictC := by
  intro ρ H mh mh1 xs z vs Q hr rvs e k
  unfold fDictC at e
  split at e
  · obtain ⟨v, rfl, rv⟩ := rvs.one
    split at e
    · rename_i kvs q
      cases e
      obtain ⟨a, ws, rfl, _, g1, g2⟩ := hr.dk q rv
      refine ⟨a, ws, rfl, .inl g1, fun p hp => ?_⟩
      obtain ⟨a1, a2, a3⟩ := new_dk hr g2 hp
      exact k _ _ a2 a1 _ a3
    · cases e
  · cases e
theorem s_listD : CallS X.K G (fun xs H Q => ∃ (a : Addr) (kvs : List (Key × V)), xs = [.ref a] ∧ Rd H a (.dK kvs) ∧ ∀ p, H p = none → Q (.ref p) (upd H p (.lst (kvs.map fun kv => kV kv.1)))) fListD := by
  intro ρ H mh mh1 xs z vs Q hr rvs e k
  unfold fListD at e
  split at e
  · obtain ⟨v, rfl, rv⟩ := rvs.one
    split at e
    · rename_i kvs q
      cases e
      obtain ⟨a, ws, rfl, _, g1, g2⟩ := hr.dk q rv
      refine ⟨a, ws, rfl, .inl g1, fun p hp => ?_⟩
      obtain ⟨a1, a2, a3⟩ := new_lst hr (VRs_keys g2) hp
      exact k _ _ a2 a1 _ a3
    · cases e
  · cases e
theorem s_clear : MtS X.K G rDClear fClear := by
  intro ρ H mh mh1 x z xs v vs Q hr rv rvs e k
  unfold fClear at e
  split at e
  · split at e
    · rename_i kvs q
      cases e
      obtain ⟨a, ws, rfl, ha, g1, g2⟩ := hr.dk q rv
      obtain ⟨a1, a2⟩ := hr.write (u := .dK []) (o1 := .dk []) q ha ⟨[], upd_same, rfl⟩
      simp only [VRs] at rvs
      subst rvs
      exact ⟨a, ws, rfl, rfl, g1, k _ _ a2 a1 _ (by simp [VR])⟩
    · cases e
  · cases e
end
end Mo
namespace Mo
open PySem L2
section
variable {X : Cx} {G : String → Option V} {W : WX} {iter : Expr} {elts : List Expr} {kk : Nat} {body : List Stmt} {m : ME} {g : MG} {b : MS} {t : TG} {pos tpos apos cpos : Pos}
end
section
variable {s : Lo} {h : MH} {g : MG} {b : MS} {m : ME} {i : Nat} {kvs : List (Key × MV)} {h0 : MH}
end
end Mo
namespace Mo
open PySem L2
open PyProof.Rows hiding St
structure PSet' (K : PySem.W.Frag) (C : Addr) (f : Str) (p g : Addr) : Prop where
  sa : PySem.W.findIn K (.ref C) "__setattr__" = some (some (.builtin "object.__setattr__"))
  po : PySem.W.plainOver K C = true
  tk : PySem.W.takerIn K C f = some (some (.ref p))
  ty : PySem.W.typeIn K (.ref p) = some (.type "property")
  rc : ∃ a rest, PySem.W.recIn K p "property" = some (a :: .ref g :: rest)
def eProp (c : String) (g : MF) (m : ME) : ME := fun s h => (m s h).bnd fun x h1 => dunRun [(c, g)] [x] h1
def sPutP (c : String) (g : MF) (o e : ME) : MS := fun s h => (e s h).bnS s fun v h1 => (o s h1).bnS s fun x h2 => (dunRunE [(c, g)] [x, v] h2).bnS s fun _ h3 => .nx s h3
section
variable {X : Cx} {G : String → Option V} {W : WX} {k : Nat} {C p fa : Addr} {fd : FuncData} {ps : List Str} {f : Str} {g : MF} {c : String} {e o value : Expr} {pos pos' : Pos} {m mo me : ME}
theorem passNoX : Passes (L2.CX X.prog X.w) X.nox (fun _ _ _ => False) := by
  intro pins σ H s e s' I c
  obtain ⟨_, _, _, _, _, _, _, _, _, _, _, _, f⟩ := c
  exact f.elim
theorem m_prop (hG : G c = some (.ref C)) (hc : Cls X.K C) (hp : PropOf X.K C f p fa) (F : FnOk X.prog X.w X.K X.mg X.base (L2.CX X.prog X.w) k fa fd ps (SpM X.K G ps.length g)) (hl : ps.length = 1) (B : Binds X.K fd ps []) (hr : Room (k + 1) X.A)
    (he : PE X e (RE X.K G W m)) (hb : attributeBase e f X.env (eval e X.env) = eval e X.env := by rfl) : PE X (.Attribute e f pos) (RE X.K G W (eProp c g m)) := by
  refine pe_imp (pe_prop (E := fun _ _ _ => False) (dvs := []) he hc hp F hr B .nil passNoX hb) fun σ H Q ⟨ρ, sm, mh, r0, q⟩ => ?_
  refine re_bnd r0 q fun x ρ1 H1 mh1 v x1 r1 rv q1 => ?_
  obtain ⟨a, us, p', C', dx, fs, ev, hp', hG', hH, hn, q2⟩ := dun_re (tab := [(c, g)]) (n := 1) (W := W) (σ := σ) (P := PV X.K G Q) (fun p hp => ⟨C, by rw [List.mem_singleton.mp hp]; exact hG⟩) rfl r1.hr (VRs.cons rv VRs.nil) q1 fun z ρ1 H1 v _ rz hz => hz v rz
  have hp2 := List.mem_singleton.mp hp'
  subst hp2
  rw [hG] at hG'
  cases hG'
  cases ev
  exact ⟨a, dx, fs, rfl, hH, by rw [hl]; exact q2⟩
end
end Mo
namespace Mo
open PySem L2
open PyProof.Rows hiding St
def eMk00 (c : String) : ME := fun _ h => .ok (.ref h.length) (h ++ [.ins c []])
structure Mk00 (K : PySem.W.Frag) (C : Addr) : Prop where
  makes : PySem.W.makesIn K C = true
  init : PySem.W.findIn K (.ref C) "__init__" = some (some (.builtin "object.__init__"))
  kp : PySem.W.keepIn K (.ref C) = true
section
variable {X : Cx} {G : String → Option V} {W : WX} {C : Addr} {c : String} {x : Str} {p pos : Pos}
theorem run_make00 {pins : List (Addr × Obj)} {σ : L2.St} {H : Hp} {s : Shared} {Q : VK} (M : Mk00 X.K C) (I : Inv X pins σ H s)
    (h : ∀ x dx, H x = none → H dx = none → dx ≠ x → Q (.ref x) (upd (upd H dx (.own x)) x (.ins C dx []))) : PySem.wpAny (model X.prog X.w) X.A (PySem.call (.ref C) []) (EP X pins σ Q) X.xe s := by
  have hq := h (s.heap.objs.size + 1) s.heap.objs.size (I.hok.fresh (Nat.le_succ _)) (I.hok.fresh (Nat.le_refl _)) (Nat.ne_of_lt (Nat.lt_succ_self _))
  have I2 := Inv.made (C := C) I
  have Y := PySem.W.makes_of (M := model X.prog X.w) I.kIn M.makes
  have e2 : ((s.heap.push PySem.W.emptyDict).push (PySem.W.instObj C s.heap.objs.size)).get? (s.heap.objs.size + 1) = some (PySem.W.instObj C s.heap.objs.size) := by
    have := Heap.get?_push_size (s.heap.push PySem.W.emptyDict) (o := PySem.W.instObj C s.heap.objs.size) rfl
    rw [Heap.size_push] at this
    exact this
  have t1 : PySem.W.Looks (model X.prog X.w) ((s.heap.push PySem.W.emptyDict).push (PySem.W.instObj C s.heap.objs.size)) (typeOf (.ref (s.heap.objs.size + 1))) (.ref C) := (PySem.W.Looks.ld e2).andThen .now
  have t2 : PySem.W.Looks (model X.prog X.w) ((s.heap.push PySem.W.emptyDict).push (PySem.W.instObj C s.heap.objs.size)) (isInstance (.ref (s.heap.objs.size + 1)) (.type "object")) true := t1.andThen (Y.top.keeps fun b o e => Heap.get?_push_of_some _ (Heap.get?_push_of_some _ e))
  refine wpAny_call (make_map0 I.kIn M.makes M.init (fun self => PySem.W.Looks.of_pure (PySem.W.oi_bind self)) ?_)
  refine codeAny_call_builtin PySem.W.oi_plain PySem.W.entry_oi (@PySem.W.check_slot (model X.prog X.w) _ _ _ "object.__init__" "object" "__init__" (.ref (s.heap.objs.size + 1)) [] [] _ PySem.W.oi_kind PySem.W.oi_split t2 (PySem.W.oi_args (.ref (s.heap.objs.size + 1))) ?_)
  rw [PySem.W.oi_run]
  exact wpAny_pure (And.intro rfl ⟨V.ref (s.heap.objs.size + 1), _, I2, rfl, hq⟩)
theorem m_make00 (hG : G c = some (.ref C)) (M : Mk00 X.K C) (hg : Gl X x) (hm : X.mg x = some (.ref C)) (hdb : (x == ("__debug__" : Str)) = false := by decide) : PE X (.Call (.Name x p) [] [] pos) (RE X.K G W (eMk00 c)) := by
  refine ⟨fun pins s σ H Q I ⟨ρ, sm, mh, r, q⟩ => ?_⟩
  refine wpAny_Call_Name_kw (ld_glob I hg hm ?_ hdb)
  refine PySem.W.callWith_K0 I.kIn M.kp (run_make00 M I fun a dx ha hd hn => ?_)
  obtain ⟨a1, a2, a3⟩ := new_ins r.hr hG ha hd hn
  exact q _ _ a2 a1 _ a3
end
@[simp] theorem eMk00_ev {c : String} {s : Lo} {h : MH} : eMk00 c s h = .ok (.ref h.length) (h ++ [.ins c []]) := rfl
end Mo
namespace Mo
open PySem L2
section
variable {get : Itm} {g : MG} {c : MB} {m mk mv : ME} {p n i k : Nat} {s s1 : Lo} {h h2 h3 h4 : MH} {x y z v : MV} {us : List Nat}
theorem dcG_step (e1 : get i h = some (some x)) (e2 : g x s = some s1) (e3 : c s1 h = .ok true h) (e4 : mk s1 h = .ok y h2) (e5 : mv s1 h2 = .ok z h3) (e6 : putDc p y z h3 = some h4) :
    dcG get g c mk mv p (n + 1) i s h = dcG get g c mk mv p n (i + 1) s h4 := by
  conv => lhs; unfold dcG
  rw [e1]
  simp only [e2, e3, Rz.bdN, if_true, e4, e5, e6]
theorem dcG_end (e1 : get i h = some none) : dcG get g c mk mv p (n + 1) i s h = .ok (.ref p) h := by
  conv => lhs; unfold dcG
  rw [e1]
theorem dcG_inv {N : Nat} (I : Nat → MH → Prop) (R : MR → Prop) (end_ : ∀ h, I N h → get N h = some none ∧ R (.ok (.ref p) h))
    (step : ∀ i h, i < N → I i h → ∃ x s1 y h2 z h3 h4, get i h = some (some x) ∧ g x s = some s1 ∧ c s1 h = .ok true h ∧ mk s1 h = .ok y h2 ∧ mv s1 h2 = .ok z h3 ∧ putDc p y z h3 = some h4 ∧ I (i + 1) h4) :
    ∀ m i h, i + m = N → I i h → R (dcG get g c mk mv p (m + 1) i s h) := by
  intro m
  induction m with
  | zero =>
    intro i h e hI
    have : i = N := by omega
    subst this
    obtain ⟨e1, e2⟩ := end_ h hI
    rw [dcG_end e1]
    exact e2
  | succ m ih =>
    intro i h e hI
    obtain ⟨x, s1, y, h2, z, h3, h4, e1, e2, e3, e4, e5, e6, t⟩ := step i h (by omega) hI
    rw [dcG_step e1 e2 e3 e4 e5 e6]
    exact ih (i + 1) h4 (by omega) t
theorem lcG_stepY (e1 : get i h = some (some x)) (e2 : g x s = some s1) (e3 : c s1 h = .ok true h) (e4 : m s1 h = .ok y h2) (e5 : putLc k y h2 = some h3) :
    lcG get g c m k (n + 1) i s h = lcG get g c m k n (i + 1) s h3 := by
  conv => lhs; unfold lcG
  rw [e1]
  simp only [e2, e3, Rz.bdN, if_true, e4, e5]
theorem lcG_stepN (e1 : get i h = some (some x)) (e2 : g x s = some s1) (e3 : c s1 h = .ok false h2) :
    lcG get g c m k (n + 1) i s h = lcG get g c m k n (i + 1) s h2 := by
  conv => lhs; unfold lcG
  rw [e1]
  simp only [e2, e3, Rz.bdN, Bool.false_eq_true, if_false]
theorem lcG_end0 (e1 : get i h = some none) : lcG get g c m k (n + 1) i s h = .ok (.ref k) h := by
  conv => lhs; unfold lcG
  rw [e1]
theorem lcG_inv {N : Nat} (I : Nat → MH → Prop) (R : MR → Prop) (end_ : ∀ h, I N h → get N h = some none ∧ R (.ok (.ref k) h))
    (step : ∀ i h, i < N → I i h → ∃ x s1, get i h = some (some x) ∧ g x s = some s1 ∧ ((∃ h2, c s1 h = .ok false h2 ∧ I (i + 1) h2) ∨ ∃ y h2 h3, c s1 h = .ok true h ∧ m s1 h = .ok y h2 ∧ putLc k y h2 = some h3 ∧ I (i + 1) h3)) :
    ∀ n i h, i + n = N → I i h → R (lcG get g c m k (n + 1) i s h) := by
  intro n
  induction n with
  | zero =>
    intro i h e hI
    have : i = N := by omega
    subst this
    obtain ⟨e1, e2⟩ := end_ h hI
    rw [lcG_end0 e1]
    exact e2
  | succ n ih =>
    intro i h e hI
    obtain ⟨x, s1, e1, e2, t⟩ := step i h (by omega) hI
    rcases t with ⟨h2, e3, t⟩ | ⟨y, h2, h3, e3, e4, e5, t⟩
    · rw [lcG_stepN e1 e2 e3]
      exact ih (i + 1) h2 (by omega) t
    · rw [lcG_stepY e1 e2 e3 e4 e5]
      exact ih (i + 1) h3 (by omega) t
theorem putDc_at {kvs : List (Key × MV)} {q : Key} (e : h[p]? = some (.dk kvs)) (hk : keyM y = some q) (hl : kvs.length < SZ) : putDc p y z h = some (h.set p (.dk (putM kvs q z))) := by
  unfold putDc
  simp only [e, hk, if_pos hl]
theorem eDc_at {it : ME} {h1 : MH} {xs : List MV} (e : it s h = .ok (.ref i) h1) (q : h1[i]? = some (.lst xs)) :
    eDc it g c mk mv us s h = dcG (getSeq (.ref i)) g c mk mv h1.length (xs.length + 1) 0 (wipeM s us) (h1 ++ [.dk []]) := by
  unfold eDc
  rw [e]
  simp only [Rz.bnd, q]
theorem eDcD_at {hz h0 : MH} {kvs : List (Key × MV)} (e : m s h = .ok (.ref i) h0) (q : h[i]? = some (.dk kvs))
    (e2 : ∀ od vs, m s (h.set i (.fdk od vs kvs)) = .ok (.ref i) (h.set i (.fdk od vs kvs)))
    (hr : ∀ od vs, unlE od vs i (dcG (getFD od vs i) g c mk mv h.length (kvs.length + 1) 0 (wipeM s us) (h.set i (.fdk od vs kvs) ++ [.dk []])) = .ok v hz) : eDcD m g c mk mv us s h = .ok v hz := by
  have hlt := (List.getElem?_eq_some_iff.mp q).1
  unfold eDcD
  rw [e]
  simp only [q]
  refine uniDE_eq fun od vs => ?_
  rw [← hr od vs]
  unfold dcD
  rw [e2]
  show unlE od vs i (dcD1 od vs i g c mk mv us s (.ref i) (h.set i (.fdk od vs kvs))) = _
  have q2 : (h.set i (.fdk od vs kvs))[i]? = some (.fdk od vs kvs) := List.getElem?_set_self hlt
  unfold dcD1
  simp only [q2, and_self, if_true, List.length_set]
end
section
variable {s : Lo} {h : MH} {x v : MV} {e : MX} {c : String} {g : MF}
def KPr (r : MR) (c : String) (g : MF) : MR := r.bnd fun x h1 => dunRun [(c, g)] [x] h1
@[simp] theorem eProp_ev {m : ME} : eProp c g m s h = KPr (m s h) c g := rfl
@[simp] theorem KPr_ok : KPr (.ok x h) c g = dunRun [(c, g)] [x] h := rfl
def KQ1 (r : MR) (c : String) (g : MF) (o : ME) (s : Lo) : SR := r.bnS s fun v h1 => (o s h1).bnS s fun x h2 => (dunRunE [(c, g)] [x, v] h2).bnS s fun _ h3 => .nx s h3
def KQ2 (r : MR) (c : String) (g : MF) (v : MV) (s : Lo) : SR := r.bnS s fun x h2 => (dunRunE [(c, g)] [x, v] h2).bnS s fun _ h3 => .nx s h3
@[simp] theorem sPutP_ev {o m : ME} : sPutP c g o m s h = KQ1 (m s h) c g o s := rfl
@[simp] theorem KQ1_ok {o : ME} : KQ1 (.ok v h) c g o s = KQ2 (o s h) c g v s := rfl
@[simp] theorem KQ2_ok : KQ2 (.ok x h) c g v s = KP4 (dunRunE [(c, g)] [x, v] h) s := rfl
end
end Mo
namespace Mo
open PySem L2
theorem prop_of {K : PySem.W.Frag} {C : Addr} {f : Str} (h : propB K C f = true) : PropOf K C f (prA K C f) (prG K C f) := by
  unfold propB at h
  obtain ⟨h1, h⟩ := He.ba h
  obtain ⟨h2, h⟩ := He.ba h
  obtain ⟨h3, h⟩ := He.ba h
  refine ⟨beq_iff_eq.mp h1, beq_iff_eq.mp h2, beq_iff_eq.mp h3, ?_⟩
  split at h
  · rename_i g rest e
    exact ⟨rest, by unfold prG; rw [e]⟩
  · cases h
end Mo
namespace Mo
open PySem L2 PySem.Spec
open PyProof.Rows hiding St
def RLK (Q : VK) (_ : Addr) (kvs : List (Key × V)) (H1 : Hp) : Prop := ∀ p, H1 p = none → Q (.ref p) (upd H1 p (.lst (kvs.map fun kv => kV kv.1)))
def tListK (td : TE) : TE := fun σ H Q => td σ H fun x H1 => ∃ (a : Addr) (kvs : List (Key × V)), x = .ref a ∧ Rd H1 a (.dK kvs) ∧ ∀ p, H1 p = none → Q (.ref p) (upd H1 p (.lst (kvs.map fun kv => kV kv.1)))
section
variable {X : Cx} {e : Expr} {td : TE} {apos cpos pos p : Pos}
theorem keys_view {pins : List (Addr × Obj)} {σ : L2.St} {H : Hp} {s : Shared} {R : Addr → List (Key × V) → Hp → Prop} (he : PE X e td) (hbase : attributeBase e "keys" X.env (eval e X.env) = eval e X.env) (hline : (apos.endLine == cpos.line) = true)
    (I : Inv X pins σ H s) (h : td σ H fun x H1 => ∃ a kvs, x = .ref a ∧ Rd H1 a (.dK kvs) ∧ R a kvs H1) :
    PySem.wpAny (model X.prog X.w) X.A (eval (.Call (.Attribute e "keys" apos) [] [] cpos) X.env) (fun u s' => ∃ v a kvs H1, u = .ref v ∧ PySem.W.KdlKeysView s'.heap v a ∧ Inv X pins σ H1 s' ∧ Rd H1 a (.dK kvs) ∧ R a kvs H1) X.xe s := by
  refine wpAny_Call_method (T := "dict") (id := "dict.keys") hbase rfl hline PySem.F.plainAttrs_dict PySem.F.slot_dict_keys PySem.F.type_dict_keys (thn (he.run pins s σ H _ I h) fun u s1 ⟨x, H1, I1, rx, a, kvs, ex, hd, q⟩ => ?_)
  subst ex
  obtain rfl : u = Value.ref a := rx
  obtain ⟨z, lo, vs, rel, dd⟩ := dk_rd I1.hok hd
  refine ⟨dd.typeIs, dd.mapOf.noDict, ?_⟩
  have I2 : Inv X pins σ H1 { s1 with heap := s1.heap.push { cls := .type "dict_keys", data := .fields #[.ref a] } } := I1.kept (t' := s1.toks) fun b ob q => Heap.get?_push_of_some _ q
  show PySem.wpAny _ _ (callWith cpos (.builtin "dict.keys") [.ref a] [] []) _ X.xe s1
  exact method_meetsIn PySem.F.slot_dict_keys PySem.F.entry_dict_keys rfl (PySem.evalArgs_none ⟨rfl, dd.typeIs, PySem.F.args_dict_keys_1 _, _, PySem.W.kdl_meets_keys (mixKind X.prog X.w) a lo, ⟨vs, dd⟩,
    ⟨s1.heap.objs.size, a, kvs, H1, rfl, ⟨_, Heap.get?_push_size _ rfl, rfl, rfl⟩, I2, hd, q⟩⟩)
theorem pe_listKeys (hc : X.calm = true) (hg : Gl X "list") (hm : X.mg "list" = none) (he : PE X e td) (hbase : attributeBase e "keys" X.env (eval e X.env) = eval e X.env := by rfl) (hline : (apos.endLine == cpos.line) = true := by rfl)
    (na : starEach [.Call (.Attribute e "keys" apos) [] [] cpos] X.env = (false, eval (.Call (.Attribute e "keys" apos) [] [] cpos) X.env) :: starEach [] X.env := by rfl) :
    PE X (.Call (.Name "list" p) [.Call (.Attribute e "keys" apos) [] [] cpos] [] pos) (tListK td) := by
  refine ⟨fun pins s σ H Q I h => ?_⟩
  refine Call_ (ld_blt I hg hm boot_list (PyProof.Rows.callWith_type1 (args_cons (thn (keys_view (R := RLK Q) he hbase hline I (show td σ H _ from h)) fun u s1 ⟨v, a, kvs, H1, eu, hv, I1, hd, q⟩ => args_nil ?_) na) na))
  subst eu
  obtain ⟨z, lo, vs, rel, dd⟩ := dk_rd I1.hok hd
  obtain ⟨ep, hat⟩ := dd.dictAt
  have ek : (kvs.map fun kv => kV kv.1) = vs.map fun p => kV p.1 := by
    have e := congrArg (List.map kV) rel.keys
    rw [List.map_map, List.map_map] at e
    exact e
  refine PySem.W.kdl_call (PySem.W.kdl_keys (knd := mixKind X.prog X.w) (kvs := vs) (ep := ep)) (I1.ok.hd hc) ⟨hv, hat⟩ (by rw [← rel.length]; exact z) fun h' tk acc c' hk hD hacc => ?_
  have hv : Vals (vs.map fun p => kV p.1) acc.toList := keys_at (by rw [Array.length_toList]; exact hacc.1) fun j v e => hacc.2 j v (by rw [← Array.getElem?_toList]; exact e)
  exact ⟨.ref s1.heap.objs.size, upd H1 s1.heap.objs.size (.lst (kvs.map fun kv => kV kv.1)), I1.laid (t' := tk) hk (Nat.le_refl _)
    (show ObjOk X.prog X.w _ _ _ (.lst (kvs.map fun kv => kV kv.1)) from ⟨by rw [List.length_map]; exact z, acc.toList, c', by rw [ek]; exact hv, by rw [Array.toArray_toList]; exact hD⟩), rfl, q _ (I1.hok.fresh (Nat.le_refl _))⟩
end
def eLK (m : ME) : ME := fun s h => (m s h).bnd fun x h1 => lift (fListD [x] h1)
section
variable {X : Cx} {G : String → Option V} {W : WX} {e : Expr} {m : ME} {apos cpos pos p : Pos}
theorem m_listKeys (hc : X.calm = true) (hg : Gl X "list") (hm : X.mg "list" = none) (he : PE X e (RE X.K G W m)) (hbase : attributeBase e "keys" X.env (eval e X.env) = eval e X.env := by rfl) (hline : (apos.endLine == cpos.line) = true := by rfl)
    (na : starEach [.Call (.Attribute e "keys" apos) [] [] cpos] X.env = (false, eval (.Call (.Attribute e "keys" apos) [] [] cpos) X.env) :: starEach [] X.env := by rfl) :
    PE X (.Call (.Name "list" p) [.Call (.Attribute e "keys" apos) [] [] cpos] [] pos) (RE X.K G W (eLK m)) := by
  refine pe_imp (pe_listKeys hc hg hm he hbase hline na) fun σ H Q ⟨ρ, sm, mh, r0, q⟩ => ?_
  refine re_bnd r0 q fun x ρ1 H1 mh1 v x1 r1 rv q1 => ?_
  obtain ⟨z, h1, e1, k⟩ := ro_lift q1
  unfold fListD at e1
  split at e1
  · rename_i i ei
    have ei' := List.cons.inj ei
    obtain ⟨rfl, _⟩ := ei'
    split at e1
    · rename_i kvs q2
      cases e1
      obtain ⟨a, ws, rfl, _, g1, g2⟩ := r1.hr.dk q2 rv
      refine ⟨a, ws, rfl, .inl g1, fun p hp => ?_⟩
      obtain ⟨a1, a2, a3⟩ := new_lst r1.hr (VRs_keys g2) hp
      exact k _ _ a2 a1 _ a3
    · cases e1
  · cases e1
end
section
variable {s : Lo} {h : MH} {m : ME} {i : Nat} {kvs : List (Key × MV)} {x : MV}
def KLK (r : MR) : MR := r.bnd fun x h1 => lift (fListD [x] h1)
@[simp] theorem eLK_ev : eLK m s h = KLK (m s h) := rfl
theorem KLK_ok (e : h[i]? = some (.dk kvs)) : KLK (.ok (.ref i) h) = .ok (.ref h.length) (h ++ [.lst (kvs.map fun kv => kM kv.1)]) := by
  simp [KLK, Rz.bnd, fListD, e, lift]
end
end Mo
namespace Mo
open PySem L2
theorem t_dk {K : PySem.W.Frag} {G : String → Option V} : TyS K G "dict" isK := by
  intro ρ H mh x v hr rv h
  unfold isK at h
  split at h
  · split at h
    · rename_i q
      obtain ⟨a, vs, rfl, _, h1, _⟩ := hr.dk q rv
      exact .inr (.inr (.inl ⟨rfl, .inl ⟨_, h1⟩⟩))
    · cases h
  · cases h
def fClearL (x : MV) (xs : List MV) (h : MH) : OV := match x, xs with
  | .ref i, [] => match h[i]? with
    | some (.lst _) => some (.non, h.set i (.lst []))
    | _ => none
  | _, _ => none
section
variable {X : Cx} {G : String → Option V}
theorem s_clearL : MtS X.K G rClear fClearL := by
  intro ρ H mh mh1 x z xs v vs Q hr rv rvs e k
  unfold fClearL at e
  split at e
  · split at e
    · rename_i ys q
      cases e
      obtain ⟨a, ws, rfl, ha, g1, g2⟩ := hr.lst q rv
      obtain ⟨a1, a2⟩ := hr.write (u := .lst []) (o1 := .lst []) q ha ⟨[], upd_same, VRs.nil⟩
      simp only [VRs] at rvs
      subst rvs
      exact ⟨a, ws, rfl, rfl, g1, k _ _ a2 a1 _ (by simp [VR])⟩
    · cases e
  · cases e
end
theorem fClear_ref {h : MH} {i : Nat} {kvs : List (Key × MV)} (e : h[i]? = some (.dk kvs)) : fClear (.ref i) [] h = some (.non, h.set i (.dk [])) := by simp [fClear, e]
theorem fClearL_ref {h : MH} {i : Nat} {xs : List MV} (e : h[i]? = some (.lst xs)) : fClearL (.ref i) [] h = some (.non, h.set i (.lst [])) := by simp [fClearL, e]
end Mo
namespace Mo
open PySem PySem.Spec PyProof.Rows GenW L2
def tGLock (t : TGn) : TGn := fun D ys σ H => ∃ d u, H d = some u ∧ Mut (some u) ∧ ∀ od,
  t { nx := fun ys' σ' H' => H' d = some (.frz od u) ∧ D.nx ys' σ' (upd H' d u), rt := fun ys' v H' => H' d = some (.frz od u) ∧ D.rt ys' v (upd H' d u),
      bk := fun ys' σ' H' => H' d = some (.frz od u) ∧ D.bk ys' σ' (upd H' d u), ct := fun ys' σ' H' => H' d = some (.frz od u) ∧ D.ct ys' σ' (upd H' d u) } ys σ (upd H d (.frz od u))
section
variable {X : Cx} {st : Stmt} {t : TGn}
theorem gs_lock (h : L2.GS X st t) : L2.GS X st (tGLock t) := by
  refine ⟨fun A S ip R n ys s₀ c fs K J gd lv s σ H D g hn k hI ht => ?_⟩
  obtain ⟨d, u, hd, mu, ht⟩ := ht
  obtain ⟨acc, cc, r, I⟩ := hI
  obtain ⟨od, I1⟩ := I.lock hd mu
  refine h.run A S ip R n ys s₀ c fs K J gd lv s σ _ _ g hn ⟨fun n' ys' s₀' s' f hn' hs => k.ok n' ys' s₀' s' f hn' ?_, k.exc⟩ ⟨acc, cc, r, I1⟩ (ht od)
  cases f with
  | next => obtain ⟨σ', H', ⟨acc', c', r', I2⟩, e, q⟩ := hs; exact ⟨σ', _, ⟨acc', c', r', I2.unlock e (I.nofrz hd mu)⟩, q⟩
  | brk => obtain ⟨σ', H', ⟨acc', c', r', I2⟩, e, q⟩ := hs; exact ⟨σ', _, ⟨acc', c', r', I2.unlock e (I.nofrz hd mu)⟩, q⟩
  | cont => obtain ⟨σ', H', ⟨acc', c', r', I2⟩, e, q⟩ := hs; exact ⟨σ', _, ⟨acc', c', r', I2.unlock e (I.nofrz hd mu)⟩, q⟩
  | ret v => obtain ⟨x, σ', H', ⟨acc', c', r', I2⟩, r1, e, q⟩ := hs; exact ⟨x, σ', _, ⟨acc', c', r', I2.unlock e (I.nofrz hd mu)⟩, r1, q⟩
end
abbrev GRs := List MV × SR
noncomputable def unlG (od : Obj) (vs : List (Key × V)) (i : Nat) (r : GRs) : GRs := (r.1, unlD od vs i r.2)
open Classical in
noncomputable def uniG (f : Obj → List (Key × V) → GRs) : GRs := if h : ∃ r, ∀ od vs, f od vs = r then h.choose else ([], .no)
theorem uniG_eq {f : Obj → List (Key × V) → GRs} {r : GRs} (h : ∀ od vs, f od vs = r) : uniG f = r := by
  have hx : ∃ r, ∀ od vs, f od vs = r := ⟨r, h⟩
  unfold uniG
  rw [dif_pos hx, ← h default [], hx.choose_spec]
theorem uniG_at {f : Obj → List (Key × V) → GRs} {P : GRs → Prop} (hP : ¬ P ([], .no)) (h : P (uniG f)) (od : Obj) (vs : List (Key × V)) : P (f od vs) := by
  unfold uniG at h
  split at h
  · rename_i hx
    rw [hx.choose_spec od vs]; exact h
  · exact absurd h hP
open Classical in
noncomputable def gFD1 (od : Obj) (vs : List (Key × V)) (i : Nat) (g : MG) (b : MGn) (ys : List MV) (s : Lo) (v : MV) (h : MH) : GRs := match v with
  | .ref j => match h[j]? with
    | some (.fdk od' vs' kvs) => if (j = i ∧ od' = od) ∧ vs' = vs then gFoG (getFD od vs i) g b (kvs.length + 1) 0 ys s h else (ys, .no)
    | _ => (ys, .no)
  | _ => (ys, .no)
noncomputable def gFD0 (od : Obj) (vs : List (Key × V)) (i : Nat) (g : MG) (b : MGn) (ys : List MV) (s : Lo) : Rz MV → GRs
  | .ok v h1 => gFD1 od vs i g b ys s v h1
  | .err e h1 => (ys, .err e s h1)
  | .no => (ys, .no)
@[irreducible] noncomputable def gForD (m : ME) (g : MG) (b : MGn) : MGn := fun ys s h => match m s h with
  | .ok (.ref i) _ => match h[i]? with
    | some (.dk kvs) => uniG fun od vs => unlG od vs i (gFD0 od vs i g b ys s (m s (h.set i (.fdk od vs kvs))))
    | _ => (ys, .no)
  | _ => (ys, .no)
section
variable {X : Cx} {G : String → Option V} {tg iter : Expr} {body : List Stmt} {m : ME} {g : MG} {b : MGn} {t : TG} {pos : Pos}
theorem unl_RGE {K : PySem.W.Frag} {D : GEnds} {ρ ρ1 : List Addr} {H H1 : Hp} {d : Addr} {od : Obj} {vs : List (Key × V)} {i : Nat} {r : GRs} (hi : ρ[i]? = some d) (hd : H d = some (.dK vs)) (x1 : Ext K ρ (upd H d (.frz od (.dK vs))) ρ1 H1)
    (h : RGE K G noW D ρ H (unlG od vs i r)) :
    RGE K G noW { nx := fun ys' σ' H' => H' d = some (.frz od (.dK vs)) ∧ D.nx ys' σ' (upd H' d (.dK vs)), rt := fun ys' v H' => H' d = some (.frz od (.dK vs)) ∧ D.rt ys' v (upd H' d (.dK vs)), bk := fun ys' σ' H' => H' d = some (.frz od (.dK vs)) ∧ D.bk ys' σ' (upd H' d (.dK vs)), ct := fun ys' σ' H' => H' d = some (.frz od (.dK vs)) ∧ D.ct ys' σ' (upd H' d (.dK vs)) } ρ1 H1 r := by
  have x0 : Ext K ρ H ρ (upd H d (.frz od (.dK vs))) := ext_write hd (by simp [Plain])
  have back : ∀ {ρ2 H2 h2 kvs}, Ext K ρ1 H1 ρ2 H2 → HR K G ρ2 H2 h2 → h2[i]? = some (.fdk od vs kvs) → H2 d = some (.frz od (.dK vs)) ∧ Ext K ρ H ρ2 (upd H2 d (.dK vs)) ∧ Ext K ρ2 H2 ρ2 (upd H2 d (.dK vs)) ∧ HR K G ρ2 (upd H2 d (.dK vs)) (h2.set i (.dk kvs)) := by
    intro ρ2 H2 h2 kvs x2 hr q
    have x3 := x1.trans x2
    obtain ⟨a, ha, hH, hk⟩ := hr.obj i _ q
    obtain ⟨t, ht⟩ := x3.pre
    have : ρ2[i]? = some d := by
      have hlt := (List.getElem?_eq_some_iff.mp hi).1
      rw [ht, List.getElem?_append_left hlt]; exact hi
    rw [this] at ha
    cases ha
    have xw : Ext K ρ2 H2 ρ2 (upd H2 d (.dK vs)) := ext_write hH (by simp [Plain])
    obtain ⟨a1, a2⟩ := hr.write (u := .dK vs) (o1 := .dk kvs) q this ⟨vs, upd_same, KRs.ext xw hk⟩
    exact ⟨hH, (x0.trans x3).trans xw, xw, a1⟩
  obtain ⟨zs, r⟩ := r
  unfold unlG at h
  dsimp only at h
  cases r with
  | nx s h2 =>
    intro ρ2 H2 σ2 ys2 x2 hr sr ry
    obtain ⟨kvs, q, h⟩ := unlH_split (P := fun r => RGE K G noW D ρ H (zs, r)) (fun z => z) (k := fun h' => .nx s h') h
    obtain ⟨e1, e2, e3, e4⟩ := back x2 hr q
    exact ⟨e1, h _ _ _ ys2 e2 e4 (sr.ext e3) (ry.ext e3)⟩
  | rt v h2 =>
    intro ρ2 H2 v2 ys2 x2 hr rv ry
    obtain ⟨kvs, q, h⟩ := unlH_split (P := fun r => RGE K G noW D ρ H (zs, r)) (fun z => z) (k := fun h' => .rt v h') h
    obtain ⟨e1, e2, e3, e4⟩ := back x2 hr q
    exact ⟨e1, h _ _ _ ys2 e2 e4 (rv.ext e3) (ry.ext e3)⟩
  | bk s h2 => exact h.elim
  | ct s h2 => exact h.elim
  | no => exact h.elim
  | err e s h2 =>
    intro ρ2 H2 σ2 cls dd x2 hr sr er
    obtain ⟨kvs, q, h⟩ := unlH_split (P := fun r => RGE K G noW D ρ H (zs, r)) (fun z => z) (k := fun h' => .err e s h') h
    obtain ⟨e1, e2, e3, e4⟩ := back x2 hr q
    refine h ρ2 (upd H2 d (.dK vs)) σ2 cls dd e2 e4 (sr.ext e3) ?_
    obtain ⟨C, a, us, g1, rfl, rfl, hn, ha, hf⟩ := er
    refine ⟨C, a, us, g1, rfl, rfl, hn, ?_, KRs.ext e3 hf⟩
    rw [upd_ne (fun z => by rw [z, e1] at ha; cases ha)]; exact ha
theorem g_forD (hp : PassesOwn (model X.prog X.w) X.A X.env X.xe) (hc : X.calm = true) (hi : PE X iter (RE X.K G noW m)) (hg : PG X tg t) (hgs : Mo.GS X.K G t g) (hb : L2.GSs X body (RG X.K G noW b))
    (hs : ∀ x, foldedSetIterable iter X.env x = pure x := by intro _; rfl) : L2.GS X (.For tg iter body [] pos) (RG X.K G noW (gForD m g b)) := by
  refine gs_imp (gs_lock (gs_for hp hc (pi_keys hi) hg hb hs)) fun D ys σ H ⟨ρ, sm, mh, yms, r, ry, q⟩ => ?_
  unfold gForD at q
  split at q
  · rename_i i h0 e0
    split at q
    · rename_i kvs ek
      obtain ⟨d, hd, vs, hH, hk⟩ := r.hr.obj i _ ek
      refine ⟨d, .dK vs, hH, trivial, fun od => ?_⟩
      have q1 := uniG_at (P := fun r => RGE X.K G noW D ρ H r) (fun z => z) q od vs
      have xw : Ext X.K ρ H ρ (upd H d (.frz od (.dK vs))) := ext_write hH (by simp [Plain])
      obtain ⟨a1, a2⟩ := r.hr.write (u := .frz od (.dK vs)) (o1 := .fdk od vs kvs) ek hd ⟨upd_same, KRs.ext xw hk⟩
      have rl : Rl X.K G ρ (upd H d (.frz od (.dK vs))) sm σ (mh.set i (.fdk od vs kvs)) := r.at a2 a1
      have q2 := unl_RGE (G := G) hd hH (Ext.refl (ρ := ρ) (H := upd H d (.frz od (.dK vs)))) q1
      cases e1 : m sm (mh.set i (.fdk od vs kvs)) with
      | no => rw [e1] at q2; exact q2.elim
      | err e h1 =>
        rw [e1] at q2
        refine ⟨ρ, sm, _, rl, ?_⟩
        rw [e1]
        exact fun ρ1 H1 cls dd x hr er => q2 ρ1 H1 σ cls dd x hr (rl.sr.ext x) er
      | ok v h1 =>
        rw [e1] at q2
        refine ⟨ρ, sm, _, rl, ?_⟩
        rw [e1]
        intro ρ1 H1 x1 hr1 w rv
        have q3 := RGE.mono x1 q2
        unfold gFD0 gFD1 at q3
        dsimp only at q3
        split at q3
        · rename_i j
          split at q3
          · rename_i od' vs' kvs' e5
            split at q3
            · rename_i hj
              obtain ⟨⟨h1, h2⟩, h3⟩ := hj
              subst h1 h2 h3
              simp only [VR] at rv
              obtain ⟨a, rfl, ha⟩ := rv
              obtain ⟨aa, haa, hH2, _⟩ := hr1.obj j _ e5
              have e6 : aa = a := Option.some.inj (haa.symm.trans ha)
              exact ⟨a, od', rfl, .inl ⟨vs', by rw [← e6]; exact hH2, gfor_sim (its_keys ha) hgs (Ext.refl (ρ := ρ1)) (rl.at x1 hr1) (ry.ext (a2.trans x1)) q3⟩⟩
            · exact q3.elim
          · exact q3.elim
        · exact q3.elim
    · exact q.elim
  · exact q.elim
end
noncomputable def gKLm (c : String) (m : Str) (f : List MV → MH → Option (List MV × MH)) (x : MV) (h : MH) : Rz MV := match x with
  | .ref i => match h[i]? with
    | some (.ins c' fs) => if c' = c ∧ fs.lookup m = none then gKL f 1 [x] h else .no
    | _ => .no
  | _ => .no
noncomputable def eGenM (c : String) (m : Str) (f : List MV → MH → Option (List MV × MH)) (mo : ME) : ME := fun s h => (mo s h).bnd (gKLm c m f)
section
variable {X : Cx} {G : String → Option V} {W : WX} {o : Expr} {mo : ME} {m : Str} {c : String} {C : Addr}
theorem m_listGM {pl : Sem Bool} {k : Nat} {fa : Addr} {fd : FuncData} {ps : List Str} {f : List MV → MH → Option (List MV × MH)} {nm : Str} {p apos pos pos' : Pos} (hG : G c = some (.ref C)) (ho : PE X o (RE X.K G W mo)) (hc : Cls X.K C) (hm : Meth X.K C m fa)
    (F : GFn X.prog X.w X.K X.mg X.base k fa fd ps (SpGM X.K G 1 f)) (hr : Room k X.A) (hb : Binds X.K fd ps [])
    (hr3 : Room (k + 3) X.A) (hgl : Gl X nm) (hml : X.mg nm = none) (hv : bootBuiltins nm = some (.type "list"))
    (ht : eval (.Call (.Attribute o m apos) [] [] pos') X.env = (do
      let ov ← eval o X.env
      standAt apos.atName
      let (f, first) ← holding [ov] (getMethod ov m pl)
      callWith pos' f first (backTo pos' (starEach [] X.env)) (backToKw pos' (keywordEach [] X.env))) := by rfl)
    (hnm : nm ≠ "__name__" := by decide) (hdb2 : (nm == ("__debug__" : Str)) = false := by decide)
    (he2 : starEach [Expr.Call (.Attribute o m apos) [] [] pos'] X.env = (false, eval (Expr.Call (.Attribute o m apos) [] [] pos') X.env) :: starEach [] X.env := by rfl) :
    PE X (.Call (.Name nm p) [.Call (.Attribute o m apos) [] [] pos'] [] pos) (RE X.K G W (eGenM c m f mo)) := by
  refine pe_imp (pe_listG (E := fun _ _ _ => False) (pgen_meth0 (pl := pl) ho hc hm F hr hb .nil ht) (fun _ _ _ _ _ _ _ h => (noCX h).elim) (fun _ _ _ h => h.elim) hr3 hgl hml hv hnm hdb2 he2) fun σ H Q h => ?_
  obtain ⟨ρ, sm, mh, r0, q⟩ := h
  refine re_bnd r0 q fun x ρ1 H1 mh1 v x1 r1 rv q1 => ?_
  unfold gKLm at q1
  split at q1
  · rename_i i
    split at q1
    · rename_i c' fs q2
      split at q1
      · rename_i hc
        obtain ⟨rfl, hl⟩ := hc
        obtain ⟨a, C', dx, vs, rfl, ha, g1, g2, g3⟩ := r1.hr.ins q2 rv
        rw [hG] at g1; cases g1
        refine ⟨a, dx, vs, rfl, g2, (lookupF_V g3).2 hl, ?_⟩
        unfold gKL at q1
        split at q1
        · cases e : f [.ref i] mh1 with
          | none => rw [e] at q1; exact False.elim q1
          | some z =>
            obtain ⟨ys, h2⟩ := z
            rw [e] at q1
            refine ⟨ρ1, [.ref i], mh1, ys, h2, r1.hr, VRs.cons rv VRs.nil, rfl, e, fun ρ2 H2 ys1 x2 hr2 ry a hn => ?_⟩
            obtain ⟨n1, n2⟩ := hr2.new hn (o := .lst ys) (u := .lst ys1) ⟨ys1, upd_same, ry.ext (ext_new hn)⟩
            exact q1 _ _ (x2.trans n2) n1 _ (by simp only [VR]; exact ⟨a, rfl, by rw [← hr2.len]; simp⟩)
        · exact q1.elim
      · exact q1.elim
    · exact q1.elim
  · exact q1.elim
end
end Mo
namespace Mo
open PySem PySem.Spec PyProof.Rows L2
section
variable {X : Cx} {e : Expr} {es : List Expr} {ta : TA} {p pos : Pos}
end
section
variable {X : Cx} {G : String → Option V} {W : WX} {e : Expr} {es : List Expr} {ms ms2 : MEs} {x y : Str} {p pos rpos p2 pos2 : Pos} {c c2 : String} {f f2 : Str} {C C2 : Addr} {e2 : Expr} {t2 : TA}
end
section
variable {s : Lo} {h : MH} {c : String} {fs : List Str} {ms ms2 : MEs}
end
end Mo
namespace Mo
open PySem PySem.Spec PyProof.Rows L2
structure FnX (P : Program) (w : World) (K : PySem.W.Frag) (mg : Str → Option Value) (base : Heap) (k : Nat) (f : Addr) (fd : FuncData) (ps : List Str) (sp : Sp) : Prop where
  len : ∀ vs H Q E, sp vs H Q E → vs.length = ps.length
  run : ∀ (A : Around) (outer : List Env) (s : Shared) (H : Hp) (args : Args) (us : List Value) (vs : List V) (Q : VK) (E : XK), L2H.RoomH k A → Env0 P w K mg base A outer s H → BindsTo s fd args (ps.zip us) → Vals vs us → sp vs H Q E →
    codeAny (model P w) A (.call (.ref f) args) (CR (L2.CX P w) outer P w H s Q E) s
def exH (K : PySem.W.Frag) (f g : Str) (a : Addr) (H : Hp) (k : Hp → Prop) : Prop := ∃ (C dx : Addr) (fs : List (Str × V)) (hh C2 dx2 : Addr) (fs2 : List (Str × V)), H a = some (.ins C dx fs) ∧ Cls K C ∧ NoAttr K C f ∧ fs.lookup f = some (.ref hh) ∧
  H hh = some (.ins C2 dx2 fs2) ∧ Cls K C2 ∧ NoAttr K C2 g ∧ fs2.length < 1000 ∧ k (upd H hh (.ins C2 dx2 (putF g .non fs2)))
theorem exH.imp {K : PySem.W.Frag} {f g : Str} {a : Addr} {H : Hp} {k k' : Hp → Prop} (h : exH K f g a H k) (i : ∀ H', k H' → k' H') : exH K f g a H k' := by
  obtain ⟨C, dx, fs, hh, C2, dx2, fs2, a1, a2, a3, a4, a5, a6, a7, a8, a9⟩ := h
  exact ⟨C, dx, fs, hh, C2, dx2, fs2, a1, a2, a3, a4, a5, a6, a7, a8, i _ a9⟩
section
variable {prog : Program} {w : World} {A : Around} {E : Value → Shared → Prop} {s : Shared} {env : Env} {K : PySem.W.Frag} {x C fe fx : Addr} {ox : Obj} {od : Option Obj} {pos : Pos}
end
section
variable {X : Cx} {f g : Str} {fx : Addr} {fd : FuncData} {ps : List Str} {kX : Nat}
end
end Mo
namespace Mo
open PySem L2
section
variable {X : Cx} {kx vx tg iter : Expr} {ifs : List Expr} {scope : Scope} {own : List (Str × Nat)} {i : Nat} {y : Str} {py pos spos : Pos}
variable {G : String → Option V} {W : WX} {m mk mv me : ME} {g : MG} {c : MB} {t : TG} {elt : Expr}
end
end Mo
namespace Mo
open PySem L2
section
variable {K : PySem.W.Frag} {G : String → Option V} {W : WX} {f g : Str} {cs1 cs2 : List String}
end
section
variable {X : Cx} {G : String → Option V} {W : WX} {c : String} {f g : Str} {cs1 cs2 : List String} {ctx : Expr} {body : List Stmt} {mk : ME} {fe : MF} {b : MS} {pos : Pos} {C fae fax : Addr} {fdE fdX : FuncData} {psE psX : List Str} {kE kX : Nat}
end
section
variable {c : String} {f g : Str} {cs1 cs2 : List String} {mk : ME} {fe : MF} {b : MS} {s : Lo} {h h1 h2 : MH} {i : Nat} {fs : List (Str × MV)} {v : MV}
end
end Mo
namespace Mo
open PySem L2
section
variable {K : PySem.W.Frag} {G : String → Option V}
end
end Mo
namespace Mo
open PySem L2
section
variable {X : Cx} {CX : CXT} {k n : Nat} {f C : Addr} {fd : FuncData} {ps ks : List Str} {sp : Sp} {m : Str} {pos apos : Pos} {o e : Expr} {es : List Expr} {kws : List Keyword} {ta : TE} {t tk : TA} {g : List Value → List Value → List Value} {gV : List V → List V → List V}
end
section
variable {X : Cx} {G : String → Option V} {W : WX} {o e : Expr} {es : List Expr} {mo : ME} {ms mk : MEs} {m : Str} {pos apos : Pos} {k n l : Nat} {fa C : Addr} {fd : FuncData} {ps ks : List Str} {f : MF} {c : String} {kws : List Keyword} {g : List Value → List Value → List Value} {gM : List MV → List MV → List MV} {gV : List V → List V → List V}
end
section
variable {s : Lo} {h h1 h2 h3 : MH} {x : MV} {c : String} {m : Str} {n l N : Nat} {f : MF} {g : List MV → List MV → List MV} {a : ME} {as ks : MEs} {fs : List (Str × MV)} {i : Nat} {xs ys : List MV}
end
end Mo
namespace Mo
open PySem L2
theorem fnA_ofN {K : PySem.W.Frag} {a : Addr} {n q : Str} {p : Arguments} {b : FuncBody} {s : Scope} {g bi : Addr} (h : fnN K a = some (n, q, p, b, s, g, [], bi)) : He5.fnA K a = some (n, q, p, b, s, g, [], bi) := by
  unfold fnN nmCl at h
  cases e : He5.fnA K a with
  | none => rw [e] at h; cases h
  | some z =>
    obtain ⟨z1, z2, z3, z4, z5, z6, z7, z8⟩ := z
    rw [e] at h
    simp only [Option.map_some, Option.some.injEq, Prod.mk.injEq, List.map_eq_nil_iff] at h
    obtain ⟨rfl, rfl, rfl, rfl, rfl, rfl, rfl, rfl⟩ := h
    rfl
theorem fnC_ofN {K : PySem.W.Frag} {f : Addr} {qual : Str} {prm : Arguments} {body : List Stmt} {scope : Scope} (h : fnN K f = some (("__init__" : Str), qual, prm, FuncBody.stmts body, scope, mainGlobals, [("__class__" : Str)], builtinsNs)) : fnC K f qual prm body scope := by
  unfold fnC
  unfold fnN nmCl at h
  cases e : He5.fnA K f with
  | none => rw [e] at h; cases h
  | some z =>
    obtain ⟨z1, z2, z3, z4, z5, z6, z7, z8⟩ := z
    rw [e] at h
    simp only [Option.map_some, Option.some.injEq, Prod.mk.injEq] at h
    obtain ⟨rfl, rfl, rfl, rfl, rfl, rfl, h7, rfl⟩ := h
    match z7, h7, e with
    | [(x, c)], h7, e =>
      have hx : x = ("__class__" : Str) := by
        injection h7
      subst hx
      have : ccOf K f = c := by
        unfold He5.fnA at e
        unfold ccOf
        cases q : K.lookup f with
        | none => rw [q] at e; cases e
        | some o =>
          rw [q] at e
          obtain ⟨oc, od, dt, sl⟩ := o
          cases dt with
          | func fd =>
            have e2 := Option.some.inj e
            simp only [Prod.mk.injEq] at e2
            have e3 := e2.2.2.2.2.2.2.1
            show (match fd.closure with | [(_, c)] => c | _ => 0) = c
            rw [e3]
          | _ => cases e
      rw [this]
theorem SaysM.at {fa : List He.Fa} {fn : List He.DefD} {ts : List He.Tab} {ex : PySem.W.Frag → Bool} {ps : List (PySem.W.Frag → Addr)} {vs : List FnN} {w : World} {K : PySem.W.Frag} (c : SaysM fa fn ts ex ps vs w K) (i : Nat) {p : PySem.W.Frag → Addr} {v : FnN} (h : ps[i]? = some p := by rfl) (hv : vs[i]? = some v := by rfl) : fnN K (p K) = v := by
  have e : (ps.map fun p => fnN K (p K))[i]? = vs[i]? := by rw [c.p]
  rw [List.getElem?_map, h, hv] at e
  exact Option.some.inj e
theorem obsM_eq {n : Nat} {fa : List He.Fa} {fn : List He.DefD} {ts : List He.Tab} {ex : PySem.W.Frag → Bool} {ps : List (PySem.W.Frag → Addr)} {vs : List FnN} (s : PySem.W.SharedT) : obsM fa fn ts ex ps (gM n (HandSHeadRun.getT s)) = (hookM n fa fn ts ex ps vs).obs s.abs := by
  have e : HandSHeadRun.getT s = s.abs.heap.get? := funext (HandSHeadRun.getT_eq s)
  rw [e]
  rfl
theorem law_walkE {l : PySem.W.OpenLaw} {q : Program} {loose : List Str} {XP : (Str → Option Value) → Heap → Prop} {YP : World → Heap → Prop} {d : DefRec} {k : Nat} (hk : k ≤ 200) (hn : l.most = some 63) (hdf : d.params.defaults = [])
    (F : ∀ (w : World) (mg : Str → Option Value) (fa : Addr) (h : Heap), YP w h → h.Ns mainGlobals mg → mg d.name = some (.ref fa) → ∃ K : PySem.W.Frag, K.In h ∧
      ∃ fd : FuncData, (∀ (s : Shared) (u : Value), BindsTo s fd ⟨[u], []⟩ [("_law_script", u)]) ∧ ∀ base : Heap, K.In base → base.Ns mainGlobals mg → FnOk l.prog w K mg base (L2.CX l.prog w) k fa fd ["_law_script"] (spLaw K)) :
    PySem.W.WalkO q loose XP YP l.row.toRowW d [] (fun f vs => PySem.call f vs) := by
  have hr : Room k callerA := Room.mono (k := 200) ⟨rfl, by decide, by decide⟩ hk
  refine Att.attach_call hn hdf ?_
  intro w s0 s1 mg mb fa o pm cd doc a vs ns G Y ho hd hcd hmg hob hin hln hge
  obtain ⟨K, hK, fd, hb, hF⟩ := F w mg fa _ Y G.T.g hmg
  have hl63 : ns.length ≤ sizeLine := Nat.le_trans hln (by decide)
  refine law_call hK G.T.g G.T.b G.T.builtins G.T.nolimit hge hob hin hl63 hr hF hb ?_ ?_
  · intro H hO hS
    exact ⟨a, ns, rfl, hO, hS, hln, fun _ _ e => e⟩
  · intro H e s' h
    exact no_out h
end Mo
namespace Mo
open PySem L2
section
variable {X : Cx} {G : String → Option V} {W : WX} {a b i o : Expr} {ma mb : ME} {pos : Pos} {k : Nat}
end
end Mo
namespace Mo
open PySem L2
section
variable {K : PySem.W.Frag} {G : String → Option V}
end
end Mo
namespace Mo
open PySem L2
def fIsB (x y : MV) (h : MH) : OV := match x, y with
  | .bl a, .bl b => some (.bl (decide (a = b)), h)
  | .non, .bl _ => some (.bl false, h)
  | _, _ => none
def fNotB (x y : MV) (h : MH) : OV := match x, y with
  | .bl a, .bl b => some (.bl (!decide (a = b)), h)
  | .non, .bl _ => some (.bl true, h)
  | _, _ => none
def rNotB : R2 := fun x y H Q => ∃ b, y = .bl b ∧ (x = .non ∨ ∃ a, x = .bl a) ∧ Q (.bl (!decide (x = .bl b))) H
theorem op_notB {X : Cx} : OpR X (compareOp .IsNot) rNotB := by
  intro pins s σ H x y v u Q I rx ry h
  obtain ⟨b, rfl, hx, q⟩ := h
  cases (show u = Value.bool b from ry)
  rcases hx with rfl | ⟨a, rfl⟩
  · cases (show v = Value.none from rx)
    exact wpAny_isNot_other rfl (fun z => by cases z) ⟨.bl true, H, I, rfl, by simpa using q⟩
  · cases (show v = Value.bool a from rx)
    by_cases e : a = b
    · subst e
      exact wpAny_isNot_self rfl ⟨.bl false, H, I, rfl, by simpa using q⟩
    · exact wpAny_isNot_other rfl (fun z => e (Value.bool.inj z)) ⟨.bl true, H, I, rfl, by simpa [e] using q⟩
section
variable {K : PySem.W.Frag} {G : String → Option V}
theorem s_notB : R2S K G rNotB fNotB := by
  intro ρ H mh mh1 x y z v w Q hr rx ry e k
  unfold fNotB at e
  split at e
  · rename_i a b
    cases e
    simp only [VR] at rx ry
    subst rx; subst ry
    exact ⟨b, rfl, .inr ⟨a, rfl⟩, k _ _ Ext.refl hr _ (by simp [VR])⟩
  · rename_i b
    cases e
    simp only [VR] at rx ry
    subst rx; subst ry
    exact ⟨b, rfl, .inl rfl, k _ _ Ext.refl hr _ (by simp [VR])⟩
  · cases e
end
@[simp] theorem fIsB_bl {a b : Bool} {h : MH} : fIsB (.bl a) (.bl b) h = some (.bl (decide (a = b)), h) := rfl
@[simp] theorem fNotB_bl {a b : Bool} {h : MH} : fNotB (.bl a) (.bl b) h = some (.bl (!decide (a = b)), h) := rfl
@[simp] theorem fIsB_non {b : Bool} {h : MH} : fIsB .non (.bl b) h = some (.bl false, h) := rfl
@[simp] theorem fNotB_non {b : Bool} {h : MH} : fNotB .non (.bl b) h = some (.bl true, h) := rfl
end Mo
namespace Mo
open PySem PySem.W PySem.Calls PyProof.Rows L2 HandSHeadRun
theorem run_two {r : OpenRow} {q : Program} {n M : Nat} {fa : List He.Fa} {fn : List He.DefD} {ts : List He.Tab} {ex : PySem.W.Frag → Bool} {ps : List (PySem.W.Frag → Addr)} {vs : List FnN} {loose : List PySem.Str} {w : World}
    (h1 : RunA r q n ts ex ps vs M loose w) (h2 : RunB r n fa fn M w) : RunEq r q (hookM n fa fn ts ex ps vs) (fun s => obsM fa fn ts ex ps (gM n (getT s))) M loose w := by
  intro os
  have h1 := h1 os
  have h2 := h2 os
  cases e : endF (stepQ (denQ tabQ) r.prog w) M r.prog w os with
  | none => rw [e] at h2; cases h2
  | some s =>
    rw [e] at h1 h2
    rw [Option.map_some] at h1 h2 ⊢
    have h2 := Option.some.inj h2
    have h1 := Option.some.inj h1
    have a1 := congrArg (fun z => z.1) h1
    have a2 := congrArg (fun z => z.2.1) h1
    have a3 : (ts.map fun t => He.dicW (gM n (getT s)) (t.1 (gM n (getT s)))) = ts.map fun t => some (He.keysIn w.params t.2) := congrArg (fun z => z.2.2.1) h1
    have a4 : ex (gM n (getT s)) = true := congrArg (fun z => z.2.2.2.1) h1
    have a5 : (ps.map fun p => fnN (gM n (getT s)) (p (gM n (getT s)))) = vs := congrArg (fun z => z.2.2.2.2) h1
    have key : obsM fa fn ts ex ps (gM n (getT s)) = vlM fn ts vs w := by
      show ((He.obsD fa fn (gM n (getT s)), ts.map fun t => He.dicW (gM n (getT s)) (t.1 (gM n (getT s)))), ex (gM n (getT s)), ps.map fun p => fnN (gM n (getT s)) (p (gM n (getT s)))) = ((He.valD fn, ts.map fun t => some (He.keysIn w.params t.2)), true, vs)
      rw [h2, a3, a4, a5]
    exact congrArg some (congr (congrArg Prod.mk a1) (congr (congrArg Prod.mk a2) key))
end Mo
namespace Mo
open PySem PySem.Spec PyProof.Rows L2
def KitOb (d : Addr) (n ep : Nat) : Obj := { cls := .type "dict_keyiterator", data := .fields #[.ref d, .int 0 0, .int n 0, .int ep 0] }
def KitO (d it : Addr) (n ep : Nat) : HO := .ext fun h => h.get? it = some (KitOb d n ep)
theorem kitO_ok {P : Program} {w : World} {H : Hp} {h : Heap} {d it : Addr} {n ep : Nat} (e : h.get? it = some (KitOb d n ep)) : ObjOk P w H h it (KitO d it n ep) := ⟨e, ⟨_, e⟩, fun h1 h2 q k => k _ q⟩
theorem call_iterD {prog : Program} {w : World} {A : Around} {E : Value → Shared → Prop} {s : Shared} {d : Addr} {o : Obj} {es : Array DictEntry} {ep : Nat} {Q : Value → Shared → Prop} (hd : (d == sysModules) = false) (ho : s.heap.get? d = some o) (hc : o.ExactDict) (hdat : o.data = .dict es ep)
    (h : Q (.ref s.heap.objs.size) { s with heap := s.heap.push (KitOb d es.size ep) }) : wpAny (model prog w) A (PySem.call (.builtin "iter") [.ref d]) Q E s := by
  refine Calls.call_function_entry (by decide +kernel) (by decide +kernel) PySem.W.kdk_entry_iter (PySem.W.kdk_args_iter _) ?_
  unfold Builtin.«iter»
  refine wpAny_bind (m := someArgs "iter" 1 2 _) (wpAny_of_eq (a := [Value.ref d]) (by first | rfl | kernel_rfl!) ?_)
  show wpAny _ _ (pyIter (.ref d) >>= _) _ _ _
  refine wpAny_bind (iter_keys hd ho hc hdat ?_)
  exact wpAny_pure ⟨_, rfl, h⟩
def rIterK (n : Nat) : List V → Hp → VK → Prop := fun xs H Q => ∃ (d : Addr) (o : Obj) (kvs : List (Key × V)), xs = [.ref d] ∧ H d = some (.frz o (.dK kvs)) ∧ ∀ it es ep, H it = Option.none → n ≤ it → o.data = .dict es ep → Q (.ref it) (upd H it (KitO d it kvs.length ep))
theorem call_iterK {X : Cx} : CallR X (.builtin "iter") (rIterK X.s_0.heap.objs.size) := by
  intro pins s σ H xs us Q I r h
  obtain ⟨d, o, kvs, rfl, hq, q⟩ := h
  obtain ⟨u, rfl, ru⟩ := vals1 r
  cases ru
  obtain ⟨hs, hgd, hx, es, ep, vs, hdt, hsz, kv, hm⟩ := I.frzK hq
  refine call_iterD hs hgd hx hdt ?_
  rw [hsz]
  exact ⟨.ref s.heap.objs.size, _, I.laid (t' := s.toks) (fun b u e => Heap.get?_push_of_some _ e) (Nat.le_refl _) (kitO_ok (Heap.get?_push_size _ rfl)), rfl, q _ es ep (I.hok.fresh (Nat.le_refl _)) I.sz hdt⟩
def ItrOkD (P : Program) (w : World) (K : PySem.W.Frag) (mg : Str → Option Value) (base : Heap) (k : Nat) (fi : Addr) (f : Str) (C : Addr) : Prop :=
  ∀ (A : Around) (outer : List Env) (s : Shared) (H : Hp) (a dx d : Addr) (fs : List (Str × V)) (o : Obj) (kvs : List (Key × V)), Room k A → Env0 P w K mg base A outer s H → H a = some (.ins C dx fs) → fs.lookup f = some (.ref d) → H d = some (.frz o (.dK kvs)) →
    codeAny (model P w) A (.call (.ref fi) ⟨[.ref a], []⟩) (CR (L2.CX P w) outer P w H s (fun v H' => ∃ it es ep, v = .ref it ∧ H it = none ∧ s.heap.objs.size ≤ it ∧ o.data = .dict es ep ∧ H' = upd H it (KitO d it kvs.length ep)) (fun _ _ _ => False)) s
theorem itrD_of {P : Program} {w : World} {K : PySem.W.Frag} {mg : Str → Option Value} {base : Heap} {k : Nat} {qual : Str} {params : Arguments} {body : List Stmt} {scope : Scope} {fi C : Addr} {fd : FuncData} {f : Str}
    (F : FunD K "__iter__" qual params body scope [] [] fi fd) (S : FnScope ["self"] ["self"] scope) (B : Binds K fd ["self"] []) (hC : ∀ a C' dx fs (H : Hp), H a = some (.ins C' dx fs) → C' = C → Cls K C ∧ NoAttr K C f)
    (hb : ∀ (cdv : Value) (A : Around) (outer : List Env) (s : Shared) (H : Hp) (E : XK), Room k (A.deeper (PyProof.Rows.envOfC qual scope s.heap.objs.size fi cdv)) →
      PSs (cxOf (L2.CX P w) P w K mg base ["self"] qual scope fi cdv A outer s H E) body (tRet (tCB (rIterK s.heap.objs.size) (tCons (tFld K (tVar 0) f) tNil)))) : ItrOkD P w K mg base (k + 1) fi f C := by
  intro A outer s H a dx d fs o kvs hr e0 ha hl hz
  obtain ⟨oc, od, dV, kV, doc, pm, an, cdv, ct, osl, rfl, lk, hcd, _, _⟩ := F.ex
  have r2 : Vals [V.ref a] [Value.ref a] := .cons rfl .nil
  have KX : K.In s.heap := e0.mod.kin.keeps fun b o e => (e0.bs b o e).1
  have lim : s.heap.NoLimit := e0.mod.nolimit.keeps fun b o e => (e0.bs b o e).1
  have hkind : ∀ y ∈ (["self"] : List Str).zip [Value.ref a], scope.names.lookup y.1 = some .local ∨ (scope.names.lookup y.1 = some .cell ∧ ((cellsFrom (s.heap.objs.size + 1) scope.names []).lookup y.1).isSome = true) := fun ⟨n, v⟩ hy => by
    rcases S.par n (List.of_mem_zip hy).1 with q | q
    · exact .inl q
    · exact .inr ⟨q, PySem.W.cellsFrom_some _ _ _ (.inl q)⟩
  have hb2 := B s [Value.ref a] KX rfl
  simp only [List.append_nil] at hb2
  refine codeAny_call_function hr.depth (KX _ _ lk) rfl S.co S.gen rfl (PySem.W.codeRec_of KX hcd) (hb2 _ _ _ _ ?_)
  refine wpAny_newFunctionEnv_cells S.kind hkind fun env he s1 x => ?_
  subst he
  refine ⟨lim.keeps x.toInCall.keep, codeAny_func ?_⟩
  have ht := hb cdv A outer s H (fun _ _ _ => False) (hr.deeper _)
  have I : Inv (cxOf (L2.CX P w) P w K mg base ["self"] qual scope fi cdv A outer s H (fun _ _ _ => False)) [] (start ["self"] [V.ref a]) H s1 := inv_start S hr.hd e0 (by rfl) r2 x
  obtain ⟨hc1, hc2⟩ := hC a C dx fs H ha rfl
  have hq : (tRet (tCB (rIterK s.heap.objs.size) (tCons (tFld K (tVar 0) f) tNil))) { nx := fun _ H' => False, rt := fun v H' => ∃ it es ep, v = .ref it ∧ H it = none ∧ s.heap.objs.size ≤ it ∧ o.data = .dict es ep ∧ H' = upd H it (KitO d it kvs.length ep) } (start ["self"] [V.ref a]) H := by
    refine ⟨.ref a, rfl, a, C, dx, fs, .ref d, rfl, ha, hc1, hc2, hl, ?_⟩
    exact ⟨d, o, kvs, rfl, hz, fun it es ep hn hs hd => ⟨it, es, ep, rfl, hn, hs, hd, rfl⟩⟩
  refine wpAny_mono (ht.run [] s1 (start ["self"] [V.ref a]) H _ I hq) (fun fl s' hs => ?_) fun e s' hs => hs
  cases fl with
  | ret u =>
    obtain ⟨v, σ', H', J, rv, q⟩ := hs
    exact ⟨v, H', J.os, J.bare, J.base, J.hok, rv, q⟩
  | next =>
    obtain ⟨σ', H', J, q⟩ := hs
    exact False.elim q
  | brk =>
    obtain ⟨_, _, _, q⟩ := hs
    exact False.elim q
  | cont =>
    obtain ⟨_, _, _, q⟩ := hs
    exact False.elim q
def iOwnD (K : PySem.W.Frag) (C : Addr) (f : Str) (te : TE) : TI := fun σ H R => te σ H fun v H1 => ∃ a dx fs d o kvs, v = .ref a ∧ H1 a = some (.ins C dx fs) ∧ fs.lookup f = some (.ref d) ∧ H1 d = some (.frz o (.dK kvs)) ∧ R (Itk d o kvs) H1
section
variable {X : Cx} {tg e : Expr} {te : TE} {C fi : Addr} {f : Str} {k : Nat}
theorem pi_ownD (hc : ItrC X.K C fi) (F : ItrOkD X.prog X.w X.K X.mg X.base k fi f C) (hr : Room k X.A) (he : PE X e te) : PI X tg e (iOwnD X.K C f te) := by
  refine ⟨fun pins s σ H R I h => ?_⟩
  refine thn (he.run pins s σ H _ I h) fun v s1 ⟨x, H1, I1, r1, q1⟩ => ?_
  obtain ⟨a, dx, fs, d, o, kvs, e, ha, hl, hz, q⟩ := q1
  subst e
  cases r1
  obtain ⟨mA, J, _⟩ := ins_get I1.hok ha
  obtain ⟨od, J, _⟩ := J.look
  obtain ⟨m0, hF⟩ := I1.fr
  refine PySem.W.owit_iter hF I1.ok.mod.kin J hc.it hc.itF ?_
  refine wpAny_call (codeAny_mono (F X.A X.stack s1 H1 a dx d fs o kvs hr I1.env0 ha hl hz) fun r s' hq' => ?_)
  cases r with
  | error e =>
    obtain ⟨_, _, _, _, _, _, _, _, _, _, _, _, z⟩ := hq'
    exact z.elim
  | ok fl =>
    cases fl with
    | next => exact False.elim hq'
    | brk => exact False.elim hq'
    | cont => exact False.elim hq'
    | ret u =>
      obtain ⟨v, H', I', rv, it, es, ep, ev, hn, hsz, hdt, eH⟩ := I1.after hq'
      subst ev
      subst eH
      cases rv
      have hi : upd H1 it (KitO d it kvs.length ep) it = some (KitO d it kvs.length ep) := upd_same
      obtain ⟨eo, _⟩ := I'.hok it _ hi
      have eo : s'.heap.get? it = some (KitOb d kvs.length ep) := eo
      have st : s'.heap.IsKeyIter it d 0 kvs.length ep := ⟨_, eo, rfl, rfl⟩
      have hT : s'.TypeIs (.ref it) "dict_keyiterator" := ⟨_, eo, rfl⟩
      unfold PySem.W.OwitIt
      refine wpAny_specialOf (name := Str.ofString "__next__") hT PySem.F.slot_dict_keyiterator_next.lookup ?_
      show PIE X pins σ tg R (Value.ref it) s'
      have hi' := hi
      unfold KitO at hi'
      have hd : ItX.dropH (upd H1 it (KitO d it kvs.length ep)) it = H1 := ItX.dropH_upd hn
      have I2 := ItX.inv_drop I' hi'
      rw [hd] at I2
      have T := turn_keys (P := X.prog) (w := X.w) (K := X.K) (tg := tg) (d := d) (o := o) (kvs := kvs) it hdt
      refine ⟨it, [it], _, _, H1, rfl, I2, T, st, fun b hb => ?_, q⟩
      have e : b = it := by simpa using hb
      rw [e]
      have fp := ItX.inv_fp I' hi (Nat.le_trans I1.sz hsz)
      rw [hd] at fp
      exact fp
end
def fItrD (c : String) (f : Str) (x : MV) (h : MH) : OV := match x with
  | .ref i => match h[i]? with
    | some (.ins c' fs) => if c' = c then (match fs.lookup f with
      | some (.ref j) => some (.ref j, h)
      | _ => none) else none
    | _ => none
  | _ => none
theorem fItrD_at {h : MH} {i j : Nat} {c : String} {f : Str} {fs : List (Str × MV)} (e : h[i]? = some (.ins c fs)) (l : fs.lookup f = some (.ref j)) : fItrD c f (.ref i) h = some (.ref j, h) := by
  simp only [fItrD, e, l, if_true]
section
variable {X : Cx} {G : String → Option V} {W : WX} {tg iter e elt : Expr} {body : List Stmt} {m me : ME} {C fi : Addr} {c : String} {f : Str} {k : Nat} {t : TG} {g : MG} {b : MS} {cc : MB} {pos : Pos} {ifs : List Expr} {scope : Scope} {own : List (Str × Nat)}
theorem m_itrD (hG : G c = some (.ref C)) (hc : ItrC X.K C fi) (F : ItrOkD X.prog X.w X.K X.mg X.base k fi f C) (hr : Room k X.A) (he : PE X e (RE X.K G W m)) : PI X tg e (iKeysM (RE X.K G W (e1 (fItrD c f) m))) := by
  refine pi_imp (pi_ownD hc F hr he) fun σ H R h => ?_
  obtain ⟨ρ, sm, mh, r, q⟩ := h
  refine re_bnd r q fun x ρ1 H1 mh1 v x1 r1 rv q1 => ?_
  obtain ⟨z, h1, ez, kz⟩ := ro_lift q1
  unfold fItrD at ez
  split at ez
  · split at ez
    · rename_i i c' fs hi
      split at ez
      · rename_i hcc
        subst hcc
        split at ez
        · rename_i j hj
          cases ez
          obtain ⟨a, C', dx, vs, rfl, _, hG', ha, hf⟩ := r1.hr.ins hi rv
          rw [hG] at hG'
          cases hG'
          obtain ⟨l, hl, rl⟩ := (lookupF_V (f := f) hf).1 _ hj
          have rl0 := rl
          simp only [VR] at rl0
          obtain ⟨p, rfl, _⟩ := rl0
          obtain ⟨d, o, kvs, e1, e2, q'⟩ := kz ρ1 H1 Ext.refl r1.hr _ rl
          cases e1
          exact ⟨a, dx, vs, p, o, kvs, rfl, ha, hl, e2, q'⟩
        · cases ez
      · cases ez
    · cases ez
  · cases ez
theorem lcDM_re {us : List Nat} (hgw : GW X.K G t g us) (σ : L2.St) (H : Hp) (Q : VK) (h : RE X.K G W (eLcD m g cc me us) σ H Q) :
    tLockE (tLc (iKeysM (RE X.K G noW m)) t (RT X.K G noW cc) (RE X.K G noW me) us) σ H Q := by
  obtain ⟨ρ, sm, mh, r, q⟩ := h
  unfold eLcD at q
  split at q
  · rename_i i h0 e0
    split at q
    · rename_i kvs ek
      obtain ⟨d, hd, vs, hH, hk⟩ := r.hr.obj i _ ek
      refine ⟨d, .dK vs, hH, trivial, fun od => ?_⟩
      have q1 := uniDE_at (P := fun r => RO X.K G W σ (PV X.K G Q) ρ H r) (fun z => z) q od vs
      have x0 : Ext X.K ρ H ρ (upd H d (.frz od (.dK vs))) := ext_write hH (by simp [Plain])
      obtain ⟨a1, a2⟩ := r.hr.write (u := .frz od (.dK vs)) (o1 := .fdk od vs kvs) ek hd ⟨upd_same, KRs.ext x0 hk⟩
      have rl : Rl X.K G ρ (upd H d (.frz od (.dK vs))) sm σ (mh.set i (.fdk od vs kvs)) := r.at a2 a1
      have q2 : RO X.K G noW σ (PV X.K G fun v H' => H' d = some (.frz od (.dK vs)) ∧ Q v (upd H' d (.dK vs))) ρ (upd H d (.frz od (.dK vs))) (lcD od vs i m g cc me us sm (mh.set i (.fdk od vs kvs))) := by
        obtain ⟨v, h2, kvs2, er, e2, q2⟩ := unlE_split (P := fun r => RO X.K G W σ (PV X.K G Q) ρ H r) (fun z => z) q1
        rw [er]
        intro ρ2 H2 x2 hr v2 rv2
        obtain ⟨a, ha, hH2, hk2⟩ := hr.obj i _ e2
        have e6 : a = d := by
          obtain ⟨t, ht⟩ := x2.pre
          have hlt := (List.getElem?_eq_some_iff.mp hd).1
          have := hd
          rw [← List.getElem?_append_left (l₂ := t) hlt, ← ht] at this
          exact Option.some.inj (ha.symm.trans this)
        rw [e6] at hH2 ha
        have xw : Ext X.K ρ2 H2 ρ2 (upd H2 d (.dK vs)) := ext_write hH2 (by simp [Plain])
        obtain ⟨b1, b2⟩ := hr.write (u := .dK vs) (o1 := .dk kvs2) e2 ha ⟨vs, upd_same, KRs.ext xw hk2⟩
        exact ⟨hH2, q2 _ _ ((x0.trans x2).trans xw) b1 v2 (rv2.ext xw)⟩
      refine re_bnd rl q2 fun v ρ1 H1 mh1 w x1 r1 rv q3 => ?_
      unfold lcD1 at q3
      split at q3
      · rename_i j
        split at q3
        · rename_i od' vs' kvs' e5
          split at q3
          · rename_i hj
            obtain ⟨⟨h1, h2⟩, h3⟩ := hj
            subst h1 h2 h3
            simp only [VR] at rv
            obtain ⟨a, rfl, ha⟩ := rv
            obtain ⟨aa, haa, hH2, _⟩ := r1.hr.obj j _ e5
            have e6 : aa = a := Option.some.inj (haa.symm.trans ha)
            exact ⟨a, od', vs', rfl, by rw [← e6]; exact hH2, fun D hD => lc_sim (its_keys ha) hgw (Ext.refl (ρ := ρ1)) r1 hD q3⟩
          · exact q3.elim
        · exact q3.elim
      · exact q3.elim
    · exact q.elim
  · exact q.elim
theorem m_lcDI (hc : X.calm = true) (hN : X.N.Nodup) (ok : BlkOk X.N X.env.scope scope own) (hi : PI X tg iter (iKeysM (RE X.K G noW m))) (hgw : GW X.K G t g (own.map (·.2)))
    (hg : InBlk X scope fun Y => PG Y tg t) (ht : InBlk X scope fun Y => PTs Y ifs (RT X.K G noW cc)) (he : InBlk X scope fun Y => PE Y elt (RE X.K G noW me)) (hs : ∀ x, foldedSetIterable iter X.env x = pure x := by intro _; rfl) :
    PE X (.ListComp elt [⟨tg, iter, ifs, 0⟩] scope pos) (RE X.K G W (eLcD m g cc me (own.map (·.2)))) :=
  pe_imp (pe_lock (pe_lc hc hN hi ok hg ht he hs)) fun σ H Q h => lcDM_re hgw σ H Q h
end
end Mo
namespace Lw
open PySem L2 Mo
abbrev ownT : Own := ownOf tabT
def k_AT_WORK : MV := .ktp [.str "works", .str "late", .str "ghost", .str "ghost+"]
def k_MARKS : MV := .ktp [.str "any", .str "owner", .str "given"]
def k_MOVES : MV := .ktp [.str "once", .str "back"]
def k_OUTS : MV := .ktp [.str "once", .str "wait"]
def k_STOPS : MV := .ktp [.str "asked", .str "all"]
noncomputable section
def b__law_mixed : MS :=
    sSeq (sAsg (e2 fMod (eA fInt (aCons (e2 fAdd (e2 fAdd (e2 fMul (eV 0) (eC (.int 48271))) (e2 fMul (eV 1) (eC (.int 69621)))) (eC (.int 11))) (aNil))) (eC (.int 2147483647))) (gN 2))
    (sRet (e2 fDiv (e2 fMod (eA fInt (aCons (e2 fMul (eV 2) (e2 fAdd (e2 fAdd (e2 fDiv (eV 2) (eC (.int 1024))) (e2 fMul (eC (.int 16807)) (eV 1))) (eC (.int 5)))) (aNil))) (eC (.int 2147483399))) (eC (.int 16))))
def m__law_mixed : MF := gc (mDef 3 b__law_mixed)
def L0__law_row : MS :=
    sIf (bB (e2 fGt (eV 4) (eC (.int 0)))) (sSeq (sExp (eMt isL fAppend (eV 3) (aCons (e2 fMod (eA fInt (aCons (eV 4) (aNil))) (eV 2)) (aNil))))
    (sAsg (e2 fDiv (eV 4) (eV 2)) (gN 4))) (sExp (eMt isL fAppend (eV 3) (aCons (e2 fMod (eA fInt (aCons (call 2 m__law_mixed (aCons (eV 0) (aCons (eV 5) (aNil)))) (aNil))) (eV 2)) (aNil))))
def b__law_row : MS :=
    sSeq (sAsg (eA fLst (aNil)) (gN 3))
    (sSeq (sAsg (eA fAbs (aCons (eV 0) (aNil))) (gN 4))
    (sSeq (sIf (bB (e2 fLt (eV 4) (e2 fPow (eC (.int 10)) (eC (.int 18))))) (sAsg (eC (.int 0)) (gN 4)) (sNx))
    (sSeq (sForR rng1 (aCons (eV 1) (aNil)) (gN 5) (L0__law_row))
    (sRet (eV 3)))))
def m__law_row : MF := gc (mDef 6 b__law_row)
def Z0__law_names : ME :=
    e2 fIxA (eV 2) (eV 10)
def L0__law_names : MS :=
    sSeq (sAsg (e2 fMod (eA fInt (aCons (e2 fIxA (eV 3) (eC (.int 9))) (aNil))) (eC (.int 8))) (gN 7))
    (sSeq (sAsg (e2 fMod (eA fInt (aCons (e2 fIxA (eV 3) (eC (.int 10))) (aNil))) (e2 fAdd (eV 7) (eC (.int 1)))) (gN 8))
    (sSeq (sAsg (e2 fIxA (eV 2) (e2 fMod (eA fInt (aCons (e2 fAdd (e2 fIxA (eV 3) (eC (.int 11))) (e2 fMul (eV 6) (e2 fAdd (eC (.int 1)) (e2 fMod (eA fInt (aCons (e2 fIxA (eV 3) (eC (.int 7))) (aNil))) (eC (.int 4)))))) (aNil))) (eC (.int 26)))) (gN 9))
    (sIf (bB (e2 fEq (e2 fMod (eA fInt (aCons (e2 fIxA (eV 3) (eC (.int 8))) (aNil))) (eC (.int 2))) (eC (.int 0)))) (sExp (eMt isL fAppend (eV 5) (aCons (e2 fAdd (e2 fAdd (eSl (eV 4) (pNo) (pIs (eV 8))) (eV 9)) (eSl (eV 4) (pIs (eV 8)) (pIs (eV 7)))) (aNil)))) (sExp (eMt isL fAppend (eV 5) (aCons (eSl (e2 fAdd (eV 4) (e2 fIxA (eV 2) (e2 fIxA (eV 3) (eC (.int 7))))) (pNo) (pIs (e2 fAdd (eC (.int 1)) (e2 fMod (eA fInt (aCons (e2 fAdd (e2 fIxA (eV 3) (eC (.int 9))) (eV 6)) (aNil))) (eC (.int 8)))))) (aNil)))))))
def b__law_names : MS :=
    sSeq (sAsg (eC (.str "abcdefghijklmnopqrstuvwxyz")) (gN 2))
    (sSeq (sAsg (call 3 m__law_row (aCons (eV 0) (aCons (eC (.int 12)) (aCons (eC (.int 26)) (aNil))))) (gN 3))
    (sSeq (sAsg (eMt isS fJoin (eC (.str "")) (aCons (eLc (eSl (eV 3) (pNo) (pIs (eC (.int 7)))) (gN 10) (bYes) Z0__law_names [10]) (aNil))) (gN 4))
    (sSeq (sAsg (eA fLst (aNil)) (gN 5))
    (sSeq (sForR rng1 (aCons (eV 1) (aNil)) (gN 6) (L0__law_names))
    (sRet (eV 5))))))
def m__law_names : MF := gc (mDef 11 b__law_names)
def Z0_Ledger___init__ : ME :=
    eC .non
def ZK0_Ledger___init__ : ME :=
    eV 3
def b_Ledger___init__ : MS :=
    sSeq (sFldM (eV 0) (eV 2) "names" ["Ledger"])
    (sFldM (eV 0) (eDc (eV 1) (gN 3) (bYes) ZK0_Ledger___init__ Z0_Ledger___init__ [3]) "table" ["Ledger"])
def m_Ledger___init__ : MF := mDef 4 b_Ledger___init__
def b_Slot___init__ : MS :=
    sSeq (sFldM (eV 0) (eV 1) "lane" ["Mark", "Slot", "Hold"])
    (sSeq (sFldM (eV 0) (eV 2) "rule" ["Slot"])
    (sSeq (sFldM (eV 0) (eV 3) "owner" ["Slot", "House"])
    (sSeq (sFldM (eV 0) (eC (.int 0)) "giving" ["Numbered", "Slot", "Stint", "Mark"])
    (sFldM (eV 0) (eC (.int 0)) "row" ["Mark", "Slot", "Stint"]))))
def m_Slot___init__ : MF := mDef 4 b_Slot___init__
def Z0_ascending : ME :=
    eA fStrS (aCons (eV 3) (aNil))
def L0_ascending : MS :=
    sIf (bB (e2 fNotInA (eV 2) (eV 1))) (sExp (eMt isL fAppend (eV 1) (aCons (eV 2) (aNil)))) (sNx)
def b_ascending : MS :=
    sSeq (sAsg (eA fLst (aNil)) (gN 1))
    (sSeq (sFor (eA fSortS (aCons (eLc (eV 0) (gN 3) (bYes) Z0_ascending [3]) (aNil))) (gN 2) (L0_ascending))
    (sRet (eV 1)))
def m_ascending : MF := gc (mDef 4 b_ascending)
def b_Share___init__ : MS :=
    sFldM (eV 0) (call 1 m_ascending (aCons (eA fList (aCons (eV 1) (aNil))) (aNil))) "lanes" ["Share", "House"]
def m_Share___init__ : MF := mDef 2 b_Share___init__
def Z0_House___init__ : ME :=
    eMk "Slot" 3 0 4 m_Slot___init__ gPos (aCons (eV 6) (aCons (e1 (fFld "marks" ["Book"]) (eV 1)) (aCons (e1 (fFld "owner" ["Slot", "House"]) (eV 0)) (aNil)))) aNil
def ZK0_House___init__ : ME :=
    eV 6
def Z2_House___init__ : ME :=
    eA fLst (aNil)
def ZK2_House___init__ : ME :=
    eV 6
def Z4_House___init__ : ME :=
    eC (.str "out")
def ZK4_House___init__ : ME :=
    eV 5
def Z6_House___init__ : ME :=
    eC (.bl false)
def ZK6_House___init__ : ME :=
    eV 5
def Z8_House___init__ : ME :=
    eA fLst (aNil)
def ZK8_House___init__ : ME :=
    eV 5
def Z10_House___init__ : ME :=
    eA fLst (aNil)
def ZK10_House___init__ : ME :=
    eV 5
def Z12_House___init__ : ME :=
    eMk "Share" 1 0 2 m_Share___init__ gPos (aCons (eA fLst (aNil)) (aNil)) aNil
def ZK12_House___init__ : ME :=
    eV 5
def Z14_House___init__ : ME :=
    eC (.str "out")
def ZK14_House___init__ : ME :=
    eV 6
def L0_House___init__ : MS :=
    sSeq (sPutA (e1 (fFld "own" ["House"]) (eV 0)) (eV 5) (eDc (e1 (fFld "lanes" ["Share", "House"]) (eV 0)) (gN 6) (bYes) ZK14_House___init__ Z14_House___init__ [6]))
    (sPutA (e1 (fFld "stints" ["House"]) (eV 0)) (eV 5) (eDk))
def T16_House___init__ : MS :=
    sSeq (sFldM (eV 0) (eDk) "stints" ["House"])
    (sForD (e1 (fFld "editions" ["House"]) (eV 0)) (gN 5) (L0_House___init__))
def T15_House___init__ : MS :=
    sSeq (sFldM (eV 0) (eDk) "own" ["House"])
    (T16_House___init__)
def T14_House___init__ : MS :=
    sSeq (sFldM (eV 0) (eDcD (e1 (fFld "editions" ["House"]) (eV 0)) (gN 5) (bYes) ZK12_House___init__ Z12_House___init__ [5]) "awaits" ["House"])
    (T15_House___init__)
def T13_House___init__ : MS :=
    sSeq (sFldM (eV 0) (eDcD (e1 (fFld "editions" ["House"]) (eV 0)) (gN 5) (bYes) ZK10_House___init__ Z10_House___init__ [5]) "post" ["House"])
    (T14_House___init__)
def T12_House___init__ : MS :=
    sSeq (sFldM (eV 0) (eDcD (e1 (fFld "editions" ["House"]) (eV 0)) (gN 5) (bYes) ZK8_House___init__ Z8_House___init__ [5]) "letters" ["House"])
    (T13_House___init__)
def T11_House___init__ : MS :=
    sSeq (sFldM (eV 0) (eDcD (e1 (fFld "editions" ["House"]) (eV 0)) (gN 5) (bYes) ZK6_House___init__ Z6_House___init__ [5]) "answered" ["House"])
    (T12_House___init__)
def T10_House___init__ : MS :=
    sSeq (sFldM (eV 0) (eDcD (e1 (fFld "editions" ["House"]) (eV 0)) (gN 5) (bYes) ZK4_House___init__ Z4_House___init__ [5]) "status" ["House"])
    (T11_House___init__)
def T9_House___init__ : MS :=
    sSeq (sFldM (eV 0) (eDc (e1 (fFld "lanes" ["Share", "House"]) (eV 0)) (gN 6) (bYes) ZK2_House___init__ Z2_House___init__ [6]) "rows" ["House"])
    (T10_House___init__)
def T8_House___init__ : MS :=
    sSeq (sFldM (eV 0) (eDc (e1 (fFld "lanes" ["Share", "House"]) (eV 0)) (gN 6) (bYes) ZK0_House___init__ Z0_House___init__ [6]) "slots" ["House"])
    (T9_House___init__)
def T7_House___init__ : MS :=
    sSeq (sFldM (eV 0) (eMk "Ledger" 2 0 3 m_Ledger___init__ gPos (aCons (e1 (fFld "lanes" ["Share", "House"]) (eV 0)) (aCons (eA fListD (aCons (e1 (fFld "editions" ["House"]) (eV 0)) (aNil))) (aNil))) aNil) "owner" ["Slot", "House"])
    (T8_House___init__)
def T5_House___init__ : MS :=
    sSeq (sFldM (eV 0) (eC (.bl false)) "called" ["House"])
    (sSeq (sFldM (eV 0) (eC .non) "held" ["House"])
    (T7_House___init__))
def T3_House___init__ : MS :=
    sSeq (sFldM (eV 0) (eV 4) "window" ["House"])
    (sSeq (sFldM (eV 0) (eC (.int 0)) "round" ["House"])
    (T5_House___init__))
def T1_House___init__ : MS :=
    sSeq (sFldM (eV 0) (eA fDictC (aCons (eV 2) (aNil))) "editions" ["House"])
    (sSeq (sFldM (eV 0) (eA fList (aCons (eV 3) (aNil))) "lanes" ["Share", "House"])
    (T3_House___init__))
def b_House___init__ : MS :=
    sSeq (sFldM (eV 0) (eV 1) "book" ["House"])
    (T1_House___init__)
def m_House___init__ : MF := mDef 7 b_House___init__
def b_House_check_member : MS :=
    sIf (bB (e2 fNotInA (eV 1) (e1 (fFld "editions" ["House"]) (eV 0)))) (sRaise "UnknownName" ["name"] (aCons (eV 1) (aNil))) (sNx)
def m_House_check_member : MF := mDef 2 b_House_check_member
def Z0_House_enter : ME :=
    eC (.str "idle")
def ZK0_House_enter : ME :=
    eV 2
def b_House_enter : MS :=
    sSeq (sExp (eMeth "House" "check_member" 2 m_House_check_member (eV 0) (aCons (eV 1) (aNil))))
    (sSeq (sIf (bB (e2 fNe (e2 fIxA (e1 (fFld "status" ["House"]) (eV 0)) (eV 1)) (eC (.str "out")))) (sRaise "NotNow" ["why", "name"] (aCons (eC (.str "not out")) (aCons (eV 1) (aNil)))) (sNx))
    (sSeq (sPutA (e1 (fFld "status" ["House"]) (eV 0)) (eV 1) (eC (.str "in")))
    (sSeq (sPutA (e1 (fFld "answered" ["House"]) (eV 0)) (eV 1) (eC (.bl false)))
    (sSeq (sPutA (e1 (fFld "awaits" ["House"]) (eV 0)) (eV 1) (eMk "Share" 1 0 2 m_Share___init__ gPos (aCons (eA fLst (aNil)) (aNil)) aNil))
    (sSeq (sPutA (e1 (fFld "own" ["House"]) (eV 0)) (eV 1) (eDc (e1 (fFld "lanes" ["Share", "House"]) (eV 0)) (gN 2) (bYes) ZK0_House_enter Z0_House_enter [2]))
    (sIf (bT (e1 (fFld "called" ["House"]) (eV 0))) (sExp (eMt isL fAppend (e2 fIxA (e1 (fFld "letters" ["House"]) (eV 0)) (eV 1)) (aCons (eMk00 "Call") (aNil)))) (sNx)))))))
def m_House_enter : MF := mDef 3 b_House_enter
def b__law_cell : MS :=
    sSeq (sIf (bB (e2 fLt (eV 1) (eA fLen (aCons (eV 0) (aNil))))) (sRet (eA fInt (aCons (e2 fIxA (eV 0) (eV 1)) (aNil)))) (sNx))
    (sRet (eC (.int 0)))
def m__law_cell : MF := gc (mDef 2 b__law_cell)
def L0_Book___init__ : MS :=
    sIf (bB (e2 fNotInA (eV 5) (eV 6))) (sRaise "BadBook" ["option"] (aCons (eV 5) (aNil))) (sNx)
def b_Book___init__ : MS :=
    sSeq (sFor (eA fTup (aCons (eA fTup (aCons (eV 1) (aCons (eC k_STOPS) (aNil)))) (aCons (eA fTup (aCons (eV 2) (aCons (eC k_MOVES) (aNil)))) (aCons (eA fTup (aCons (eV 3) (aCons (eC k_OUTS) (aNil)))) (aCons (eA fTup (aCons (eV 4) (aCons (eC k_MARKS) (aNil)))) (aNil)))))) (gT [5, 6]) (L0_Book___init__))
    (sSeq (sFldM (eV 0) (eV 1) "stop" ["Book"])
    (sSeq (sFldM (eV 0) (eV 2) "move" ["Book"])
    (sSeq (sFldM (eV 0) (eV 3) "out" ["Book"])
    (sSeq (sFldM (eV 0) (eV 4) "marks" ["Book"])
    (sFldM (eV 0) (eA fLst (aCons (eA fTup (aCons (eC (.str "stop")) (aCons (eV 1) (aNil)))) (aCons (eA fTup (aCons (eC (.str "move")) (aCons (eV 2) (aNil)))) (aCons (eA fTup (aCons (eC (.str "out")) (aCons (eV 3) (aNil)))) (aCons (eA fTup (aCons (eC (.str "marks")) (aCons (eV 4) (aNil)))) (aNil)))))) "pairs" ["Book"])))))
def m_Book___init__ : MF := mDef 7 b_Book___init__
def b__law_book : MS :=
    sRet (eMk "Book" 0 4 5 m_Book___init__ (gPat [(0, 0), (2, 0), (2, 1), (2, 2), (2, 3)] []) aNil (aCons (e2 fIxA (eV 0) (eC (.int 0))) (aCons (e2 fIxA (eV 0) (eC (.int 1))) (aCons (e2 fIxA (eV 0) (eC (.int 2))) (aCons (e2 fIxA (eV 0) (eC (.int 3))) (aNil))))))
def m__law_book : MF := gc (mDef 1 b__law_book)
def b_Share___contains__ : MS :=
    sRet (e2 fInA (eV 1) (e1 (fFld "lanes" ["Share", "House"]) (eV 0)))
def m_Share___contains__ : MF := mDef 2 b_Share___contains__
def b_Ledger___contains__ : MS :=
    sRet (e2 fInA (eV 1) (e1 (fFld "table" ["Ledger"]) (eV 0)))
def m_Ledger___contains__ : MF := mDef 2 b_Ledger___contains__
def Z0_House_members_in : ME :=
    eV 1
def ZT0_House_members_in : MB :=
    bB (e2 fEq (e2 fIxA (e1 (fFld "status" ["House"]) (eV 0)) (eV 1)) (eC (.str "in")))
def b_House_members_in : MS :=
    sRet (eLcD (e1 (fFld "editions" ["House"]) (eV 0)) (gN 1) (ZT0_House_members_in) Z0_House_members_in [1])
def m_House_members_in : MF := mDef 2 b_House_members_in
def b_Ledger___getitem__ : MS :=
    sSeq (sIf (bB (e2 fNotInA (eV 1) (e1 (fFld "table" ["Ledger"]) (eV 0)))) (sRaise "UnknownName" ["name"] (aCons (eV 1) (aNil))) (sNx))
    (sRet (e2 fIxA (e1 (fFld "table" ["Ledger"]) (eV 0)) (eV 1)))
def m_Ledger___getitem__ : MF := mDef 2 b_Ledger___getitem__
def L0_House_is_waited_for : MS :=
    sIf (bB (eInO [("Share", m_Share___contains__), ("Ledger", m_Ledger___contains__)] false (eV 1) (e2 fIxA (e1 (fFld "awaits" ["House"]) (eV 0)) (eV 2)))) (sRet (eC (.bl true))) (sNx)
def b_House_is_waited_for : MS :=
    sSeq (sForD (e1 (fFld "editions" ["House"]) (eV 0)) (gN 2) (L0_House_is_waited_for))
    (sRet (eC (.bl false)))
def m_House_is_waited_for : MF := mDef 3 b_House_is_waited_for
def L0_House_call_is_due : MS :=
    sIf (bAnd (bB (e2 fIsN (eIxO [("Ledger", m_Ledger___getitem__)] (e1 (fFld "owner" ["Slot", "House"]) (eV 0)) (eV 1)) (eC .non))) (bNot (bT (eMeth "House" "is_waited_for" 2 m_House_is_waited_for (eV 0) (aCons (eV 1) (aNil)))))) (sRet (eC (.bl true))) (sNx)
def b_House_call_is_due : MS :=
    sSeq (sIf (bOr (bT (e1 (fFld "called" ["House"]) (eV 0))) (bB (e2 fEq (eA fLen (aCons (eMeth "House" "members_in" 1 m_House_members_in (eV 0) aNil) (aNil))) (eC (.int 0))))) (sRet (eC (.bl false))) (sNx))
    (sSeq (sFor (e1 (fFld "lanes" ["Share", "House"]) (eV 0)) (gN 1) (L0_House_call_is_due))
    (sRet (eC (.bl false))))
def m_House_call_is_due : MF := mDef 2 b_House_call_is_due
def b_Share___len__ : MS :=
    sRet (eA fLen (aCons (e1 (fFld "lanes" ["Share", "House"]) (eV 0)) (aNil)))
def m_Share___len__ : MF := mDef 1 b_Share___len__
def b_House_is_still_lost : MS :=
    sRet (eAnd (e2 fEq (e2 fIxA (e1 (fFld "status" ["House"]) (eV 0)) (eV 1)) (eC (.str "lost"))) (e2 fEq (e1 (fFld "out" ["Book"]) (e2 fIxA (e1 (fFld "editions" ["House"]) (eV 0)) (eV 1))) (eC (.str "wait"))))
def m_House_is_still_lost : MF := mDef 2 b_House_is_still_lost
def L0_House_due_dealing : MS :=
    sSeq (sPutA (eV 1) (eV 3) (eIxO [("Ledger", m_Ledger___getitem__)] (e1 (fFld "owner" ["Slot", "House"]) (eV 0)) (eV 3)))
    (sIf (bT (eMeth "House" "is_waited_for" 2 m_House_is_waited_for (eV 0) (aCons (eV 3) (aNil)))) (sPutA (eV 1) (eV 3) (eC .non)) (sIf (bAnd (bB (e2 fIsN (eIxO [("Ledger", m_Ledger___getitem__)] (e1 (fFld "owner" ["Slot", "House"]) (eV 0)) (eV 3)) (eC .non))) (bB (e2 fGt (eA fLen (aCons (eV 2) (aNil))) (eC (.int 0))))) (sPutA (eV 1) (eV 3) (e2 fIxA (eV 2) (eC (.int 0)))) (sNx)))
def b_House_due_dealing : MS :=
    sSeq (sAsg (eDk) (gN 1))
    (sSeq (sAsg (eMeth "House" "members_in" 1 m_House_members_in (eV 0) aNil) (gN 2))
    (sSeq (sFor (e1 (fFld "lanes" ["Share", "House"]) (eV 0)) (gN 3) (L0_House_due_dealing))
    (sRet (eV 1))))
def m_House_due_dealing : MF := mDef 4 b_House_due_dealing
def Z0_House_due : ME :=
    eV 1
def ZT0_House_due : MB :=
    bNot (bT (e2 fIxA (e1 (fFld "answered" ["House"]) (eV 0)) (eV 1)))
def L0_House_due : MGn :=
    gIf (bB (e2 fGt (eA fLen (aCons (e2 fIxA (e1 (fFld "letters" ["House"]) (eV 0)) (eV 1)) (aNil))) (eC (.int 0)))) (gYld (eA fTup (aCons (eC (.str "read")) (aCons (eV 1) (aNil))))) (gNx)
def L1_House_due : MGn :=
    gIf (bB (e2 fEq (e2 fIxA (e1 (fFld "status" ["House"]) (eV 0)) (eV 1)) (eC (.str "lost")))) (gYld (eA fTup (aCons (eC (.str "hear")) (aCons (eV 1) (aNil))))) (gNx)
def L2_House_due : MGn :=
    gIf (bAnd (bB (e2 fGt (eLenO [("Share", m_Share___len__)] (aCons (e2 fIxA (e1 (fFld "awaits" ["House"]) (eV 0)) (eV 1)) (aNil))) (eC (.int 0)))) (bNot (bT (eMeth "House" "is_still_lost" 2 m_House_is_still_lost (eV 0) (aCons (eV 1) (aNil)))))) (gYld (eA fTup (aCons (eC (.str "over")) (aCons (eV 1) (aNil))))) (gNx)
def b_House_due : MGn :=
    gSq (gForD (e1 (fFld "editions" ["House"]) (eV 0)) (gN 1) (L0_House_due))
    (gSq (gForD (e1 (fFld "editions" ["House"]) (eV 0)) (gN 1) (L1_House_due))
    (gSq (gForD (e1 (fFld "editions" ["House"]) (eV 0)) (gN 1) (L2_House_due))
    (gSq (gIf (bT (eMeth "House" "call_is_due" 1 m_House_call_is_due (eV 0) aNil)) (gYld (eA fTup (aCons (eC (.str "call")) (aNil)))) (gNx))
    (gSq (gPl (sAsg (eLc (eMeth "House" "members_in" 1 m_House_members_in (eV 0) aNil) (gN 1) (ZT0_House_due) Z0_House_due [1]) (gN 2)))
    (gIf (bAnd (bT (e1 (fFld "called" ["House"]) (eV 0))) (bB (e2 fEq (eA fLen (aCons (eV 2) (aNil))) (eC (.int 0))))) (gYld (eA fTup (aCons (eC (.str "deal")) (aCons (eMeth "House" "due_dealing" 1 m_House_due_dealing (eV 0) aNil) (aNil))))) (gNx))))))
def mg_House_due : List MV → MH → Option (List MV × MH) := mGen 3 b_House_due
def b_House_check_lane : MS :=
    sIf (bB (e2 fNotInA (eV 1) (e1 (fFld "slots" ["House"]) (eV 0)))) (sRaise "UnknownName" ["name"] (aCons (eV 1) (aNil))) (sNx)
def m_House_check_lane : MF := mDef 2 b_House_check_lane
def b_House_done : MS :=
    sSeq (sExp (eMeth "House" "check_lane" 2 m_House_check_lane (eV 0) (aCons (eV 1) (aNil))))
    (sRet (eA fList (aCons (e2 fIxA (e1 (fFld "rows" ["House"]) (eV 0)) (eV 1)) (aNil))))
def m_House_done : MF := mDef 2 b_House_done
def b_Slot_mark : MS :=
    sRet (e1 (fFld "row" ["Mark", "Slot", "Stint"]) (eV 0))
def m_Slot_mark : MF := mDef 1 b_Slot_mark
def b_House_slot : MS :=
    sSeq (sExp (eMeth "House" "check_lane" 2 m_House_check_lane (eV 0) (aCons (eV 1) (aNil))))
    (sRet (e2 fIxA (e1 (fFld "slots" ["House"]) (eV 0)) (eV 1)))
def m_House_slot : MF := mDef 2 b_House_slot
def Z0_House_sent : ME :=
    eV 2
def b_House_sent : MS :=
    sSeq (sExp (eMeth "House" "check_member" 2 m_House_check_member (eV 0) (aCons (eV 1) (aNil))))
    (sRet (eLc (e2 fIxA (e1 (fFld "post" ["House"]) (eV 0)) (eV 1)) (gT [2, 3]) (bYes) Z0_House_sent [2, 3]))
def m_House_sent : MF := mDef 4 b_House_sent
def b_at_work : MS :=
    sRet (e2 fInA (eV 0) (eC k_AT_WORK))
def m_at_work : MF := gc (mDef 1 b_at_work)
def b_House_place : MS :=
    sSeq (sExp (eMeth "House" "check_member" 2 m_House_check_member (eV 0) (aCons (eV 1) (aNil))))
    (sSeq (sExp (eMeth "House" "check_lane" 2 m_House_check_lane (eV 0) (aCons (eV 2) (aNil))))
    (sSeq (sAsg (e2 fIxA (e2 fIxA (e1 (fFld "own" ["House"]) (eV 0)) (eV 1)) (eV 2)) (gN 3))
    (sSeq (sIf (bB (e2 fEq (e2 fIxA (e1 (fFld "status" ["House"]) (eV 0)) (eV 1)) (eC (.str "in")))) (sRet (eV 3)) (sNx))
    (sSeq (sAsg (eC (.str "out")) (gN 4))
    (sSeq (sIf (bB (e2 fEq (e2 fIxA (e1 (fFld "status" ["House"]) (eV 0)) (eV 1)) (eC (.str "lost")))) (sIf (bT (call 1 m_at_work (aCons (eV 3) (aNil)))) (sAsg (eC (.str "ghost")) (gN 4)) (sIf (bB (e2 fEq (eV 3) (eC (.str "dealt")))) (sAsg (eC (.str "latent")) (gN 4)) (sNx))) (sNx))
    (sSeq (sIf (bB (eInO [("Share", m_Share___contains__), ("Ledger", m_Ledger___contains__)] false (eV 2) (e2 fIxA (e1 (fFld "awaits" ["House"]) (eV 0)) (eV 1)))) (sRet (e2 fAdd (eV 4) (eC (.str "+")))) (sNx))
    (sRet (eV 4))))))))
def m_House_place : MF := mDef 5 b_House_place
def Z0__law_is_new : ME :=
    eV 4
def Z1__law_is_new : ME :=
    eV 5
def ZT1__law_is_new : MB :=
    bB (e2 fNe (eMeth "House" "place" 3 m_House_place (eV 0) (aCons (eV 5) (aCons (eV 4) (aNil)))) (eC (.str "out")))
def Z3__law_is_new : ME :=
    eV 5
def ZT3__law_is_new : MB :=
    bB (e2 fNe (eMeth "House" "sent" 2 m_House_sent (eV 0) (aCons (eV 5) (aNil))) (eA fLst (aNil)))
def L0__law_is_new : MS :=
    sIf (bB (e2 fNe (eInO [("Share", m_Share___contains__), ("Ledger", m_Ledger___contains__)] false (eV 4) (e1 (fFld "owner" ["Slot", "House"]) (eV 0))) (e2 fInA (eV 4) (eV 2)))) (sRet (eC (.bl false))) (sNx)
def L1__law_is_new : MS :=
    sSeq (sIf (bOr (bB (e2 fNotN (eIxO [("Ledger", m_Ledger___getitem__)] (e1 (fFld "owner" ["Slot", "House"]) (eV 0)) (eV 4)) (eC .non))) (bB (e2 fNe (eMeth "House" "done" 2 m_House_done (eV 0) (aCons (eV 4) (aNil))) (eA fLst (aNil))))) (sRet (eC (.bl false))) (sNx))
    (sSeq (sIf (bOr (bB (e2 fNe (eProp "Slot" m_Slot_mark (eMeth "House" "slot" 2 m_House_slot (eV 0) (aCons (eV 4) (aNil)))) (eC (.int 0)))) (bT (eA (fIsi ownT) (aCons (eProp "Slot" m_Slot_mark (eMeth "House" "slot" 2 m_House_slot (eV 0) (aCons (eV 4) (aNil)))) (aCons (eC (.ty "bool")) (aNil)))))) (sRet (eC (.bl false))) (sNx))
    (sIf (bB (e2 fNe (eLc (eV 1) (gN 5) (ZT1__law_is_new) Z1__law_is_new [5]) (eA fLst (aNil)))) (sRet (eC (.bl false))) (sNx)))
def b__law_is_new : MS :=
    sSeq (sIf (bOr (bB (e2 fNe (e1 (fFld "round" ["House"]) (eV 0)) (eC (.int 0)))) (bOr (bT (eA (fIsi ownT) (aCons (e1 (fFld "round" ["House"]) (eV 0)) (aCons (eC (.ty "bool")) (aNil))))) (bOr (bB (e2 fNotB (e1 (fFld "called" ["House"]) (eV 0)) (eC (.bl false)))) (bB (e2 fNotN (e1 (fFld "held" ["House"]) (eV 0)) (eC .non)))))) (sRet (eC (.bl false))) (sNx))
    (sSeq (sIf (bOr (bB (e2 fNe (eLcD (e1 (fItrD "Ledger" "table") (e1 (fFld "owner" ["Slot", "House"]) (eV 0))) (gN 4) (bYes) Z0__law_is_new [4]) (eV 2))) (bB (e2 fNe (eGenM "House" "due" mg_House_due (eV 0)) (eA fLst (aNil))))) (sRet (eC (.bl false))) (sNx))
    (sSeq (sFor (eV 3) (gN 4) (L0__law_is_new))
    (sSeq (sFor (eV 2) (gN 4) (L1__law_is_new))
    (sRet (e2 fEq (eLc (eV 1) (gN 5) (ZT3__law_is_new) Z3__law_is_new [5]) (eA fLst (aNil)))))))
def m__law_is_new : MF := gc (mDef 6 b__law_is_new)
def b__law_words : MS :=
    sSeq (sAsg (eA fLst (aCons (e2 fIxA (eA fLst (aCons (eC (.str "asked")) (aCons (eC (.str "all")) (aNil)))) (e2 fMod (eA fInt (aCons (eV 0) (aNil))) (eC (.int 2)))) (aCons (e2 fIxA (eA fLst (aCons (eC (.str "once")) (aCons (eC (.str "back")) (aNil)))) (e2 fMod (eA fInt (aCons (e2 fDiv (eV 0) (eC (.int 2))) (aNil))) (eC (.int 2)))) (aNil)))) (gN 1))
    (sRet (e2 fAdd (eV 1) (eA fLst (aCons (e2 fIxA (eA fLst (aCons (eC (.str "once")) (aCons (eC (.str "wait")) (aNil)))) (e2 fMod (eA fInt (aCons (e2 fDiv (eV 0) (eC (.int 4))) (aNil))) (eC (.int 2)))) (aCons (e2 fIxA (eA fLst (aCons (eC (.str "any")) (aCons (eC (.str "owner")) (aCons (eC (.str "given")) (aNil))))) (e2 fMod (eA fInt (aCons (e2 fDiv (eV 0) (eC (.int 8))) (aNil))) (eC (.int 3)))) (aNil))))))
def m__law_words : MF := gc (mDef 2 b__law_words)
def L0_law : MS :=
    sPutA (eV 6) (e2 fIxA (eV 4) (eV 7)) (call 1 m__law_book (aCons (call 1 m__law_words (aCons (e2 fIxA (eV 1) (eV 7)) (aNil))) (aNil)))
def b_law : MS :=
    sSeq (sAsg (call 3 m__law_row (aCons (call 2 m__law_cell (aCons (eV 0) (aCons (eC (.int 0)) (aNil)))) (aCons (eC (.int 10)) (aCons (eC (.int 24)) (aNil))))) (gN 1))
    (sSeq (sAsg (call 2 m__law_names (aCons (call 2 m__law_cell (aCons (eV 0) (aCons (eC (.int 1)) (aNil)))) (aCons (eC (.int 6)) (aNil)))) (gN 2))
    (sSeq (sAsg (call 2 m__law_names (aCons (call 2 m__law_cell (aCons (eV 0) (aCons (eC (.int 2)) (aNil)))) (aCons (eC (.int 6)) (aNil)))) (gN 3))
    (sSeq (sAsg (eSl (eV 2) (pNo) (pIs (e2 fAdd (eC (.int 1)) (e2 fMod (eA fInt (aCons (e2 fIxA (eV 1) (eC (.int 7))) (aNil))) (eC (.int 6)))))) (gN 4))
    (sSeq (sAsg (eSl (eV 3) (pIs (e2 fMod (eA fInt (aCons (e2 fIxA (eV 1) (eC (.int 8))) (aNil))) (eC (.int 6)))) (pNo)) (gN 5))
    (sSeq (sAsg (eDk) (gN 6))
    (sSeq (sForR rng1 (aCons (eA fLen (aCons (eV 4) (aNil))) (aNil)) (gN 7) (L0_law))
    (sSeq (sAsg (eA fList (aCons (eV 5) (aNil))) (gN 8))
    (sSeq (sIf (bB (e2 fLt (e2 fIxA (eV 1) (eC (.int 9))) (eC (.int 8)))) (sAsg (eMk "House" 3 0 5 m_House___init__ (gPat [(0, 0), (0, 1), (0, 2), (0, 3), (1, 0)] [(.int 5)]) (aCons (call 1 m__law_book (aCons (call 1 m__law_words (aCons (e2 fIxA (eV 1) (eC (.int 6))) (aNil))) (aNil))) (aCons (eV 6) (aCons (eV 8) (aNil)))) aNil) (gN 9)) (sAsg (eMk "House" 3 1 5 m_House___init__ (gPat [(0, 0), (0, 1), (0, 2), (0, 3), (2, 0)] []) (aCons (call 1 m__law_book (aCons (call 1 m__law_words (aCons (e2 fIxA (eV 1) (eC (.int 6))) (aNil))) (aNil))) (aCons (eV 6) (aCons (eV 8) (aNil)))) (aCons (e2 fAdd (eC (.int 1)) (e2 fMod (eA fInt (aCons (e2 fIxA (eV 1) (eC (.int 9))) (aNil))) (eC (.int 9)))) (aNil))) (gN 9)))
    (sSeq (sIf (bNot (bT (call 4 m__law_is_new (aCons (eV 9) (aCons (eV 4) (aCons (eV 5) (aCons (e2 fAdd (eV 3) (eV 2)) (aNil)))))))) (sRet (eC (.bl false))) (sNx))
    (sSeq (sIf (bOr (bB (e2 fNe (eLK (eV 6)) (eV 4))) (bB (e2 fNe (eV 8) (eV 5)))) (sRet (eC (.bl false))) (sNx))
    (sSeq (sExp (eMt isK fClear (eV 6) aNil))
    (sSeq (sExp (eMt isL fClearL (eV 8) aNil))
    (sSeq (sAsg (eMk "House" 3 0 5 m_House___init__ (gPat [(0, 0), (0, 1), (0, 2), (0, 3), (1, 0)] [(.int 5)]) (aCons (eMk "Book" 0 0 5 m_Book___init__ (gPat [(0, 0), (1, 0), (1, 1), (1, 2), (1, 3)] [(.str "asked"), (.str "once"), (.str "once"), (.str "any")]) aNil aNil) (aCons (eDisp (dCons (e2 fIxA (eV 2) (eC (.int 0))) (eMk "Book" 0 0 5 m_Book___init__ (gPat [(0, 0), (1, 0), (1, 1), (1, 2), (1, 3)] [(.str "asked"), (.str "once"), (.str "once"), (.str "any")]) aNil aNil) (dNil))) (aCons (eA fLst (aCons (e2 fIxA (eV 3) (eC (.int 0))) (aNil))) (aNil)))) aNil) (gN 10))
    (sSeq (sExp (eMeth "House" "enter" 2 m_House_enter (eV 10) (aCons (e2 fIxA (eV 2) (eC (.int 0))) (aNil))))
    (sRet (eAnd (call 4 m__law_is_new (aCons (eV 9) (aCons (eV 4) (aCons (eV 5) (aCons (e2 fAdd (eV 3) (eV 2)) (aNil)))))) (e2 fEq (eMeth "House" "place" 3 m_House_place (eV 10) (aCons (e2 fIxA (eV 2) (eC (.int 0))) (aCons (e2 fIxA (eV 3) (eC (.int 0))) (aNil)))) (eC (.str "idle")))))))))))))))))))
def m_law : MF := mDef 11 b_law
end
end Lw
namespace Lw
open PySem L2 Mo
theorem cell_eq (ns : List Int) (k : Nat) (h : MH) : m__law_cell [.frl (ns.map MV.int), .int k] h = .ok (.int (ns.getD k 0)) h := by
  refine gc_okE ?_ rfl
  by_cases hk : k < ns.length
  · simp [b__law_cell, mDef_ev, eV, hk, atI_ofNat]
  · simp [b__law_cell, mDef_ev, eV, hk, List.getElem?_eq_none (Nat.le_of_not_lt hk)]
def mxP (n k : Int) : Int := ((n * 48271 + k * 69621 + 11) % 2147483647) * (((n * 48271 + k * 69621 + 11) % 2147483647) / 1024 + 16807 * k + 5) % 2147483399 / 16
theorem mixed_eq (n k : Int) (h : MH) : m__law_mixed [.int n, .int k] h = .ok (.int (mxP n k)) h := by
  refine gc_okE ?_ rfl
  have h0 : 0 ≤ (n * 48271 + k * 69621 + 11) % 2147483647 := Int.emod_nonneg _ (by decide)
  have h1 : (n * 48271 + k * 69621 + 11) % 2147483647 < 2147483647 := Int.emod_lt_of_pos _ (by decide)
  have h2 : -18446744073709551616 < (n * 48271 + k * 69621 + 11) % 2147483647 ∧ (n * 48271 + k * 69621 + 11) % 2147483647 < 18446744073709551616 := by omega
  simp [b__law_mixed, mDef_ev, eV, h2, mxP]
def rowGo (c base : Int) : Nat → Nat → Int → List Int
  | 0, _, _ => []
  | n + 1, k, r => if 0 < r then (r % base) :: rowGo c base n (k + 1) (r / base) else (mxP c k % base) :: rowGo c base n (k + 1) r
theorem rowGo_length (c base : Int) : ∀ n k r, (rowGo c base n k r).length = n
  | 0, _, _ => rfl
  | n + 1, k, r => by
    unfold rowGo
    split <;> simp [rowGo_length c base n]
theorem rowGo_lt (c base : Int) (hb : 0 < base) : ∀ n k r, ∀ x ∈ rowGo c base n k r, 0 ≤ x ∧ x < base
  | 0, _, _ => by simp [rowGo]
  | n + 1, k, r => by
    unfold rowGo
    split <;> (intro x hx; rcases List.mem_cons.mp hx with e | hx)
    · subst e; exact ⟨Int.emod_nonneg _ (by omega), Int.emod_lt_of_pos _ hb⟩
    · exact rowGo_lt c base hb n _ _ x hx
    · subst e; exact ⟨Int.emod_nonneg _ (by omega), Int.emod_lt_of_pos _ hb⟩
    · exact rowGo_lt c base hb n _ _ x hx
theorem fMod_ev {i j : Int} {h : MH} : fMod (.int i) (.int j) h = if 0 < j then some (.int (i % j), h) else none := rfl
theorem row_loop (c base : Int) (cnt : MV) (n : Nat) (h : MH) (hb : 0 < base) (hb2 : base < 1073741824) : ∀ (m i : Nat) (r : Int) (xs : List Int) (x5 : Option MV), i + m = n → xs.length + m < SZ →
    ∃ r' x5', forG (getR 0 n) (gN 5) L0__law_row (m + 1) i [some (.int c), some cnt, some (.int base), some (.ref h.length), some (.int r), x5] (h ++ [.lst (xs.map .int)]) =
      .nx [some (.int c), some cnt, some (.int base), some (.ref h.length), some (.int r'), x5'] (h ++ [.lst ((xs ++ rowGo c base m i r).map .int)]) := by
  intro m
  induction m with
  | zero =>
    intro i r xs x5 hi hl
    refine ⟨r, x5, ?_⟩
    rw [forG_ev]
    simp [rowGo, show ¬ i < n by omega]
  | succ m ih =>
    intro i r xs x5 hi hl
    rw [forG_ev]
    have hl2 : xs.length < SZ := by omega
    have hl3 : xs.length < 16777216 := hl2
    by_cases hr : 0 < r
    · obtain ⟨r', x', e⟩ := ih (i + 1) (r / base) (xs ++ [r % base]) (some (.int i)) (by omega) (by simp; omega)
      refine ⟨r', x', ?_⟩
      rw [getR_ev, if_pos (show i < n by omega), KF_go]
      conv => lhs; arg 1; unfold L0__law_row
      simp [eV, hr, isL_ref, at_app0, fAppend_ref, hl3, set_app0, fMod_ev, hb, hb2]
      simp at e
      rw [e]
      simp [rowGo, hr]
    · obtain ⟨r', x', e⟩ := ih (i + 1) r (xs ++ [mxP c i % base]) (some (.int i)) (by omega) (by simp; omega)
      refine ⟨r', x', ?_⟩
      rw [getR_ev, if_pos (show i < n by omega), KF_go]
      conv => lhs; arg 1; unfold L0__law_row
      simp [eV, hr, isL_ref, at_app0, fAppend_ref, hl3, set_app0, fMod_ev, hb, hb2, mixed_eq]
      simp at e
      rw [e]
      simp [rowGo, hr]
def rowP (c : Int) (n : Nat) (base : Int) : List Int := rowGo c base n 0 (if (if c < 0 then -c else c) < 1000000000000000000 then 0 else (if c < 0 then -c else c))
theorem row_key (c : Int) (n : Nat) (base : Int) (h : MH) (hn : n < 1000) (hb : 0 < base) (hb2 : base < 1073741824) : ∀ r x5, ∃ r' x5', forG (getR 0 n) (gN 5) L0__law_row (n + 1) 0 [some (.int c), some (.int n), some (.int base), some (.ref h.length), some (.int r), x5] (h ++ [.lst []]) =
      .nx [some (.int c), some (.int n), some (.int base), some (.ref h.length), some (.int r'), x5'] (h ++ [.lst ((rowGo c base n 0 r).map .int)]) := fun r x5 => by
    have h1 : ([] : List Int).length + n < SZ := by
      have : ([] : List Int).length = 0 := rfl
      rw [this]
      have : SZ = 16777216 := rfl
      omega
    have := row_loop c base (.int n) n h hb hb2 n 0 r [] x5 (by omega) h1
    simpa only [List.nil_append, List.map_nil] using this
theorem row_pre (c : Int) (n : Nat) (base : Int) (h : MH) (b : MS) :
  sSeq (sAsg (eA fLst (aNil)) (gN 3))
    (sSeq (sAsg (eA fAbs (aCons (eV 0) (aNil))) (gN 4))
    (sSeq (sIf (bB (e2 fLt (eV 4) (e2 fPow (eC (.int 10)) (eC (.int 18))))) (sAsg (eC (.int 0)) (gN 4)) (sNx)) b)) [some (.int c), some (.int n), some (.int base), none, none, none] h =
   b [some (.int c), some (.int n), some (.int base), some (.ref h.length), some (.int (if (if c < 0 then -c else c) < 1000000000000000000 then 0 else (if c < 0 then -c else c))), none] (h ++ [.lst []]) := by
  by_cases hc : (if c < 0 then -c else c) < 1000000000000000000 <;> simp [eV, hc]
theorem row_post (c : Int) (n : Nat) (base r : Int) (h : MH) (hn : n < 1000) (hb : 0 < base) (hb2 : base < 1073741824) :
    sSeq (sForR rng1 (aCons (eV 1) (aNil)) (gN 5) L0__law_row) (sRet (eV 3)) [some (.int c), some (.int n), some (.int base), some (.ref h.length), some (.int r), none] (h ++ [.lst []]) = .rt (.ref h.length) (h ++ [.lst ((rowGo c base n 0 r).map .int)]) := by
  obtain ⟨r', x', e⟩ := row_key c n base h hn hb hb2 r none
  have hr : -4611686018427387904 ≤ (n : Int) ∧ (n : Int) < 4611686018427387904 := by omega
  simp [eV, KFR_1, hr, e]
theorem row_eq (c : Int) (n : Nat) (base : Int) (h : MH) (hn : n < 1000) (hb : 0 < base) (hb2 : base < 1073741824) : m__law_row [.int c, .int n, .int base] h = .ok (.ref h.length) (h ++ [.lst ((rowP c n base).map .int)]) := by
  refine gc_new (k := 0) (g := [.lst ((rowP c n base).map .int)]) (o := .lst ((rowP c n base).map .int)) ?_ rfl (norefs_int _)
  rw [mDef_ev]
  unfold b__law_row
  show KD (_ : SR) = _
  have e1 := row_pre c n base h (sSeq (sForR rng1 (aCons (eV 1) (aNil)) (gN 5) L0__law_row) (sRet (eV 3)))
  have e2 := row_post c n base (if (if c < 0 then -c else c) < 1000000000000000000 then 0 else (if c < 0 then -c else c)) h hn hb hb2
  exact (congrArg KD (e1.trans e2)).trans rfl
end Lw
namespace Lw
open PySem L2 Mo
def ltr (i : Int) : Str := ⟨#[97 + i.toNat]⟩
def dI (d : List Int) (k : Nat) : Int := d.getD k 0
def bodyP (d : List Int) : Str := Txt.join "" ((d.take 7).map ltr)
def nmAt (d : List Int) (k : Nat) : Str :=
  if dI d 8 % 2 = 0 then
    cutS (bodyP d) none (some (dI d 10 % (dI d 9 % 8 + 1))) ++ ltr ((dI d 11 + k * (1 + dI d 7 % 4)) % 26) ++ cutS (bodyP d) (some (dI d 10 % (dI d 9 % 8 + 1))) (some (dI d 9 % 8))
  else cutS (bodyP d ++ ltr (dI d 7)) none (some (1 + (dI d 9 + k) % 8))
def namesP (c : Int) (n : Nat) : List Str := (List.range n).map (nmAt (rowP c 12 26))
abbrev abc : Str := Str.ofString "abcdefghijklmnopqrstuvwxyz"
theorem abc_at : ∀ n : Fin 26, atI abc.cps.toList (n.val : Int) = some (97 + n.val) := by decide +kernel
theorem abc_len : abc.length ≤ SZ := by decide +kernel
theorem ix_abc {d : Int} {h : MH} (h0 : 0 ≤ d) (h1 : d < 26) : fIx (.str abc) (.int d) h = some (.str (ltr d), h) := by
  obtain ⟨n, rfl⟩ := Int.eq_ofNat_of_zero_le h0
  have hn : n < 26 := by omega
  have e := abc_at ⟨n, hn⟩
  simp only at e
  simp only [fIx, abc_len, if_true]
  rw [e]
  rfl
theorem ltr_len (d : Int) : (ltr d).length = 1 := rfl
theorem strsM_map : ∀ l : List Str, strsM (l.map MV.str) = some l
  | [] => rfl
  | x :: l => by simp [strsM, strsM_map l]
theorem str_app_len (a b : Str) : (a ++ b).length = a.length + b.length := by
  show (a.cps ++ b.cps).size = _
  rw [Array.size_append]; rfl
theorem join0_len : ∀ l : List Str, (Txt.join "" l).length = (l.map (·.length)).sum := by
  intro l
  unfold Txt.join
  rw [PySem.StrLaws.glued_eq_join]
  induction l with
  | nil => rfl
  | cons x l ih =>
    cases l with
    | nil => simp [Str.join]
    | cons y l =>
      simp only [Str.join, str_app_len, ih]
      simp
      rfl
theorem bodyP_len (d : List Int) : (bodyP d).length ≤ 7 := by
  unfold bodyP
  rw [join0_len]
  have : ∀ l : List Int, ((l.map ltr).map (·.length)).sum = l.length := by
    intro l
    induction l with
    | nil => rfl
    | cons x l ih => simp only [List.map_cons, List.sum_cons, ih, ltr_len, List.length_cons]; omega
  rw [this, List.length_take]
  omega
theorem fSl_ints {h : MH} {i : Nat} {xs : List MV} {n : Nat} (e : h[i]? = some (.lst xs)) : fSl (.ref i) none (some (n : Int)) h = some (.ref h.length, h ++ [.lst (xs.take n)]) := by
  rw [fSl_ref e]
  unfold cutM
  rw [HT.sIx_none, HT.sIx_nat]
  simp only [List.drop_zero, Nat.sub_zero]
  have : xs.take (min n xs.length) = xs.take n := by
    by_cases hn : n ≤ xs.length
    · rw [Nat.min_eq_left hn]
    · rw [Nat.min_eq_right (by omega), List.take_of_length_le (Nat.le_refl _), List.take_of_length_le (by omega)]
  rw [this]
section
variable {c : Int} {h : MH}
def in26 (x : Int) : Prop := 0 ≤ x ∧ x < 26
theorem dI_26 {d : List Int} (hb : ∀ x ∈ d, in26 x) (k : Nat) : in26 (dI d k) := by
  unfold dI
  by_cases hk : k < d.length
  · rw [List.getD_eq_getElem?_getD, List.getElem?_eq_getElem hk]; exact hb _ (List.getElem_mem hk)
  · rw [List.getD_eq_getElem?_getD, List.getElem?_eq_none (by omega)]; exact ⟨by decide, by decide⟩
theorem ixA_row {H : MH} {R : Nat} {d : List Int} (hR : H[R]? = some (.lst (d.map .int))) (k : Nat) (hk : k < d.length) : fIxA (.ref R) (.int k) H = some (.int (dI d k), H) := by
  rw [fIxA_ev, if_neg (by rw [isDM_lst hR]; decide), fIx_ref hR, atI_ofNat, List.getElem?_map, List.getElem?_eq_getElem hk]
  unfold dI
  rw [List.getD_eq_getElem?_getD, List.getElem?_eq_getElem hk]
  rfl
theorem ixA_abc {d : Int} {h : MH} (h0 : in26 d) : fIxA (.str abc) (.int d) h = some (.str (ltr d), h) := by
  rw [fIxA_ev, if_neg (by simp [isDM]), ix_abc h0.1 h0.2]
theorem nm_turn (d : List Int) (hd : d.length = 12) (hb : ∀ x ∈ d, in26 x) (H : MH) (R F : Nat) (hR : H[R]? = some (.lst (d.map .int))) (B : Str) (hB : bodyP d = B) (x1 : MV) (k : Nat) (hk : k < 1000) (acc : List Str) (hF : H[F]? = some (.lst (acc.map .str))) (hl : acc.length < 1000) (x7 x8 x9 x10 : Option MV) :
    ∃ y7 y8 y9, L0__law_names [some (.int c), some x1, some (.str abc), some (.ref R), some (.str B), some (.ref F), some (.int k), x7, x8, x9, x10] H =
      .nx [some (.int c), some x1, some (.str abc), some (.ref R), some (.str B), some (.ref F), some (.int k), y7, y8, y9, x10] (H.set F (.lst ((acc ++ [nmAt d k]).map .str))) := by
  have hbl : B.length ≤ 7 := by rw [← hB]; exact bodyP_len _
  have hl2 : (acc.map MV.str).length < SZ := by rw [List.length_map]; have : SZ = 16777216 := rfl; omega
  have D7 : fIxA (.ref R) (.int 7) H = some (.int (dI d 7), H) := ixA_row hR 7 (by omega)
  have D8 : fIxA (.ref R) (.int 8) H = some (.int (dI d 8), H) := ixA_row hR 8 (by omega)
  have D9 : fIxA (.ref R) (.int 9) H = some (.int (dI d 9), H) := ixA_row hR 9 (by omega)
  have D10 : fIxA (.ref R) (.int 10) H = some (.int (dI d 10), H) := ixA_row hR 10 (by omega)
  have D11 : fIxA (.ref R) (.int 11) H = some (.int (dI d 11), H) := ixA_row hR 11 (by omega)
  have nE : nmAt d k = if dI d 8 % 2 = 0 then
    cutS B none (some (dI d 10 % (dI d 9 % 8 + 1))) ++ ltr ((dI d 11 + k * (1 + dI d 7 % 4)) % 26) ++ cutS B (some (dI d 10 % (dI d 9 % 8 + 1))) (some (dI d 9 % 8))
    else cutS (B ++ ltr (dI d 7)) none (some (1 + (dI d 9 + k) % 8)) := by rw [← hB]; rfl
  have h7 : in26 (dI d 7) := dI_26 hb 7
  generalize dI d 7 = d7 at *
  generalize dI d 8 = d8 at *
  generalize dI d 9 = d9 at *
  generalize dI d 10 = d10 at *
  generalize dI d 11 = d11 at *
  generalize nmAt d k = N at *
  have a0 : 0 ≤ d9 % 8 := Int.emod_nonneg _ (by decide)
  have a1 : 0 < d9 % 8 + 1 := by omega
  have a2 : in26 ((d11 + k * (1 + d7 % 4)) % 26) := ⟨Int.emod_nonneg _ (by decide), Int.emod_lt_of_pos _ (by decide)⟩
  have m1 : fMul (.int k) (.int (1 + d7 % 4)) H = some (.int (k * (1 + d7 % 4)), H) := by
    rw [fMul_ev, if_pos (.inl ⟨by omega, by omega⟩)]
  have m2 : fMod (.int d10) (.int (d9 % 8 + 1)) H = some (.int (d10 % (d9 % 8 + 1)), H) := by rw [fMod_ev, if_pos a1]
  have c1 : ∀ lo hi, (cutS B lo hi).length ≤ 7 := fun lo hi => Nat.le_trans (cutS_length _ _ _) hbl
  have s1 : ∀ lo hi, fSl (.str B) lo hi H = some (.str (cutS B lo hi), H) := fun lo hi => fSl_str (Nat.le_trans hbl (by decide))
  have p1 : ∀ lo hi d, fAdd (.str (cutS B lo hi)) (.str (ltr d)) H = some (.str (cutS B lo hi ++ ltr d), H) := fun lo hi d => by
    rw [fAdd_str, if_pos]; have := c1 lo hi; rw [ltr_len]; have : SZ = 16777216 := rfl; omega
  have p2 : ∀ lo hi d lo' hi', fAdd (.str (cutS B lo hi ++ ltr d)) (.str (cutS B lo' hi')) H = some (.str (cutS B lo hi ++ ltr d ++ cutS B lo' hi'), H) := fun lo hi d lo' hi' => by
    rw [fAdd_str, if_pos]; have := c1 lo hi; have := c1 lo' hi'; rw [str_app_len, ltr_len]; have : SZ = 16777216 := rfl; omega
  have p3 : ∀ d, fAdd (.str B) (.str (ltr d)) H = some (.str (B ++ ltr d), H) := fun d => by
    rw [fAdd_str, if_pos]; rw [ltr_len]; have : SZ = 16777216 := rfl; omega
  have s2 : ∀ d lo hi, fSl (.str (B ++ ltr d)) lo hi H = some (.str (cutS (B ++ ltr d) lo hi), H) := fun d lo hi => fSl_str (by rw [str_app_len, ltr_len]; have : SZ = 16777216 := rfl; omega)
  have ap : ∀ z, fAppend (.ref F) [.str z] H = some (.non, H.set F (.lst (acc.map .str ++ [.str z]))) := fun z => fAppend_ref hF hl2
  have il := isL_ref hF
  refine ⟨some (.int (d9 % 8)), some (.int (d10 % (d9 % 8 + 1))), some (.str (ltr ((d11 + k * (1 + d7 % 4)) % 26))), ?_⟩
  rw [List.map_append, List.map_cons, List.map_nil, nE]
  by_cases e8 : d8 % 2 = 0
  · rw [if_pos e8]
    simp -implicitDefEqProofs [L0__law_names, eV, -fIxA_ev, -fMul_ev, -fAdd_str, D7, D8, D9, D10, D11, m1, m2, ixA_abc a2, e8, s1, p1, p2, il, ap]
  · rw [if_neg e8]
    simp -implicitDefEqProofs [L0__law_names, eV, -fIxA_ev, -fMul_ev, -fAdd_str, D7, D8, D9, D10, D11, m1, m2, ixA_abc a2, ixA_abc h7, e8, s1, p3, s2, il, ap]
def fL : MV → MV
  | .int d => .str (ltr d)
  | _ => .non
theorem lc_body {s : Lo} {i : Nat} {ds : List Int} (hs : s[2]? = some (some (.str abc))) (hl : s.length = 11) (hd : ds.length < 1000) (hb : ∀ d ∈ ds, in26 d) (hx : h[i]? = some (.lst (ds.map .int))) :
    lcV (gN 10) bYes Z0__law_names s (.ref i) h = .ok (.ref h.length) (h ++ [.lst ((ds.map ltr).map .str)]) := by
  have hz : ds.length ≤ 16777216 := by omega
  rw [lcS_run (xs := ds.map .int) (f := fL) (p := fun _ => true) (by simpa [SZ] using hz) hx]
  · rw [List.filter_eq_self.mpr (fun _ _ => rfl), List.map_map, List.map_map]
    rfl
  · intro x hx
    obtain ⟨d, hd, rfl⟩ := List.mem_map.mp hx
    refine ⟨_, rfl, fun acc => ⟨rfl, fun _ => ?_⟩⟩
    have e1 : (s.set 10 (some (MV.int d)))[2]? = some (some (.str abc)) := by rw [List.getElem?_set_ne (by decide)]; exact hs
    have e2 : (s.set 10 (some (MV.int d)))[10]? = some (some (.int d)) := List.getElem?_set_self (by omega)
    simp [Z0__law_names, eV, e1, e2, ix_abc (hb d hd).1 (hb d hd).2, fL]
theorem fJoin_0 {i : Nat} {l : List Str} (e : h[i]? = some (.lst (l.map .str))) (hl : (l.map (·.length)).sum ≤ 16777216) : fJoin (.str (Str.ofString "")) [.ref i] h = some (.str (Txt.join "" l), h) := by
  have z : (Str.ofString "").length = 0 := by decide
  simp [fJoin, seqOf, e, strsM_map, z, hl]
theorem sum_ltr : ∀ l : List Int, ((l.map ltr).map (·.length)).sum = l.length := by
  intro l
  induction l with
  | nil => rfl
  | cons x l ih => simp only [List.map_cons, List.sum_cons, ih, ltr_len, List.length_cons]; omega
def nmH (h : MH) (d : List Int) (l : List Str) : MH := h ++ [.lst (d.map .int), .lst ((d.take 7).map .int), .lst (((d.take 7).map ltr).map .str), .lst (l.map .str)]
theorem nm_loop (n : Nat) (hn : n < 1000) (d : List Int) (hd : d.length = 12) (hb : ∀ x ∈ d, in26 x) :
    ∃ s', forG (getR 0 n) (gN 6) L0__law_names (n + 1) 0 [some (.int c), some (.int n), some (.str abc), some (.ref h.length), some (.str (bodyP d)), some (.ref (h.length + 3)), none, none, none, none, none] (nmH h d []) = .nx s' (nmH h d ((List.range n).map (nmAt d))) ∧ s'[5]? = some (some (.ref (h.length + 3))) := by
  refine forR_inv (fun i s h' => (∃ x6 x7 x8 x9, s = [some (.int c), some (.int n), some (.str abc), some (.ref h.length), some (.str (bodyP d)), some (.ref (h.length + 3)), x6, x7, x8, x9, none]) ∧ h' = nmH h d ((List.range i).map (nmAt d)))
    (fun r => ∃ s', r = .nx s' (nmH h d ((List.range n).map (nmAt d))) ∧ s'[5]? = some (some (.ref (h.length + 3)))) ⟨⟨none, none, none, none, rfl⟩, rfl⟩ ?_ ?_
  · rintro i s h' hi ⟨⟨x6, x7, x8, x9, rfl⟩, rfl⟩
    refine ⟨_, rfl, ?_⟩
    obtain ⟨y7, y8, y9, e⟩ := nm_turn (c := c) d hd hb (nmH h d ((List.range i).map (nmAt d))) h.length (h.length + 3) (by simp [nmH, at_app0]) _ rfl (.int n) i (by omega) ((List.range i).map (nmAt d)) (by simp [nmH, at_app]) (by simp; omega) x7 x8 x9 none
    simp only [Int.zero_add]
    show Turn _ _ (L0__law_names [_, _, _, _, _, _, _, _, _, _, _] _)
    rw [e, turn_nx]
    refine ⟨⟨_, _, _, _, rfl⟩, ?_⟩
    simp [nmH, set_app, List.range_succ]
  · rintro s h' ⟨⟨x6, x7, x8, x9, rfl⟩, rfl⟩
    exact ⟨_, rfl, rfl⟩
theorem names_eq (c : Int) (n : Nat) (hn : n < 1000) (h : MH) : m__law_names [.int c, .int n] h = .ok (.ref h.length) (h ++ [.lst ((namesP c n).map .str)]) := by
  have hd : (rowP c 12 26).length = 12 := rowGo_length _ _ _ _ _
  have hb : ∀ x ∈ rowP c 12 26, in26 x := fun x hx => rowGo_lt c 26 (by decide) _ _ _ x hx
  have R := fun h => row_eq c 12 26 h (by decide) (by decide) (by decide)
  unfold namesP
  generalize rowP c 12 26 = d at *
  refine gc_new (k := 3) (g := [.lst (d.map .int), .lst ((d.take 7).map .int), .lst (((d.take 7).map ltr).map .str), .lst (((List.range n).map (nmAt d)).map .str)]) ?_ rfl (norefs_str _)
  obtain ⟨s', F, F5⟩ := nm_loop (c := c) (h := h) n hn d hd hb
  have S : fSl (.ref h.length) none (some 7) (h ++ [.lst (d.map .int)]) = some (.ref (h.length + 1), h ++ [.lst (d.map .int), .lst ((d.take 7).map .int)]) := by
    have := fSl_ints (h := h ++ [.lst (d.map .int)]) (i := h.length) (n := 7) at_app0
    refine (show fSl _ none (some 7) _ = _ from this).trans ?_
    rw [List.map_take]
    simp
  have L := lc_body (h := h ++ [MO.lst (d.map .int), .lst ((d.take 7).map .int)]) (i := h.length + 1) (ds := d.take 7) (s := [some (.int c), some (.int n), some (.str abc), some (.ref h.length), none, none, none, none, none, none, none]) rfl rfl (by simp; omega) (fun x hx => hb x (List.mem_of_mem_take hx)) (by simp [at_app])
  have L2 : (h ++ [MO.lst (d.map .int), .lst ((d.take 7).map .int)]).length = h.length + 2 := by simp
  rw [L2, List.append_assoc] at L
  have J : fJoin (.str (Str.ofString "")) [.ref (h.length + 2)] (h ++ [.lst (d.map .int), .lst ((d.take 7).map .int), .lst (((d.take 7).map ltr).map .str)]) = some (.str (bodyP d), h ++ [.lst (d.map .int), .lst ((d.take 7).map .int), .lst (((d.take 7).map ltr).map .str)]) :=
    fJoin_0 (l := (d.take 7).map ltr) (by simp [at_app]) (by rw [sum_ltr, List.length_take]; omega)
  have hr2 : -4611686018427387904 ≤ (n : Int) ∧ (n : Int) < 4611686018427387904 := by omega
  rw [mDef_ev]
  show KD (b__law_names [some (.int c), some (.int n), none, none, none, none, none, none, none, none, none] h) = _
  have R' : m__law_row [.int c, .int 12, .int 26] h = .ok (.ref h.length) (h ++ [.lst (d.map .int)]) := R h
  have F' : forG (getR 0 n) (gN 6) L0__law_names (n + 1) 0 [some (.int c), some (.int n), some (.str abc), some (.ref h.length), some (.str (bodyP d)), some (.ref (h.length + 3)), none, none, none, none, none] (h ++ [.lst (d.map .int), .lst ((d.take 7).map .int), .lst (((d.take 7).map ltr).map .str), .lst []]) = .nx s' (nmH h d ((List.range n).map (nmAt d))) := F
  simp only [List.cons_append, List.nil_append] at L
  simp -implicitDefEqProofs [b__law_names, eV, R', S, eLc_ev, KCo_ok, wipeM, L, J, KFR_1, hr2, F', F5, -List.map_take, -List.map_map]
  rfl
end
end Lw
namespace Lw
open PySem L2 Mo
def wrT (a d : Str) (i j : Int) : Str := a ++ " " ++ (Str.ofString (toString i)) ++ " " ++ (Str.ofString (toString j)) ++ " " ++ d
end Lw
namespace Lw
open PySem L2 Mo
structure Wd where
  stop : Str
  move : Str
  out : Str
  marks : Str
structure HC where
  ms : List Str
  ls : List Str
  hb : Wd
  eb : Str → Wd
  hp : Nat
  ep : Str → Nat
  win : Int
structure Stn where
  base : Int
  row : Int
  giving : Int
inductive Ltr where
  | call
  | list (sh : List Str) (gv : Str → Int)
structure Mk3 where
  lane : Str
  row : Int
  giving : Int
structure HS where
  round : Int
  called : Bool
  held : MV
  owner : Str → Option Str
  giving : Str → Int
  row : Str → Int
  rows : Str → List (Str × Int)
  status : Str → Str
  answered : Str → Bool
  letters : Str → List Nat
  lt : Nat → Ltr
  nlt : Nat
  post : Str → List (Mk3 × Nat)
  awaits : Str → List Str
  own : Str → Str → Str
  stints : Str → List (Str × Nat)
  st : Nat → Stn
  nst : Nat
  lock : Option (Obj × List (Key × V))
inductive Tg where
  | house | book | ed (m : Str) | eds | lanes | owner | names | table | slotsD | rowsD | statusD | ansD | letD | postD | awD | ownD | stiD
  | slot (l : Str) | rows (l : Str) | lets (m : Str) | post (m : Str) | aw (m : Str) | awl (m : Str) | own (m : Str) | sti (m : Str) | stn (k : Nat)
  | ltr (k : Nat) | lsh (k : Nat) | lsl (k : Nat) | lgv (k : Nat)
  deriving DecidableEq
abbrev HL := Tg → Nat
def mtb : Tg → Bool
  | .book | .ed _ | .ltr _ | .lsh _ | .lsl _ | .lgv _ => false
  | _ => true
def fset {α : Type} (f : Str → α) (k : Str) (v : α) : Str → α := fun x => if x = k then v else f x
@[simp] theorem fset_same {α : Type} {f : Str → α} {k : Str} {v : α} : fset f k v k = v := by simp [fset]
theorem fset_ne {α : Type} {f : Str → α} {k x : Str} {v : α} (h : x ≠ k) : fset f k v x = f x := by simp [fset, h]
def nset {α : Type} (f : Nat → α) (k : Nat) (v : α) : Nat → α := fun x => if x = k then v else f x
@[simp] theorem nset_same {α : Type} {f : Nat → α} {k : Nat} {v : α} : nset f k v k = v := by simp [nset]
theorem nset_ne {α : Type} {f : Nat → α} {k x : Nat} {v : α} (h : x ≠ k) : nset f k v x = f x := by simp [nset, h]
def isList : Ltr → Bool
  | .call => false
  | .list _ _ => true
def live (C : HC) (S : HS) : Tg → Prop
  | .ed m | .lets m | .post m | .aw m | .awl m | .own m | .sti m => m ∈ C.ms
  | .slot l | .rows l => l ∈ C.ls
  | .stn k => k < S.nst
  | .ltr k => k < S.nlt
  | .lsh k | .lsl k | .lgv k => k < S.nlt ∧ isList (S.lt k) = true
  | _ => True
def dkm (xs : List Str) (f : Str → MV) : List (Key × MV) := xs.map fun x => (.inr x, f x)
def ov : Option Str → MV
  | none => .non
  | some m => .str m
def bkf (w : Wd) (p : Nat) : List (Str × MV) := [("stop", .str w.stop), ("move", .str w.move), ("out", .str w.out), ("marks", .str w.marks), ("pairs", .ref p)]
def hfs (C : HC) (S : HS) (L : HL) : List (Str × MV) := [("book", .ref (L .book)), ("editions", .ref (L .eds)), ("lanes", .ref (L .lanes)), ("window", .int C.win), ("round", .int S.round), ("called", .bl S.called), ("held", S.held), ("owner", .ref (L .owner)),
  ("slots", .ref (L .slotsD)), ("rows", .ref (L .rowsD)), ("status", .ref (L .statusD)), ("answered", .ref (L .ansD)), ("letters", .ref (L .letD)), ("post", .ref (L .postD)), ("awaits", .ref (L .awD)), ("own", .ref (L .ownD)), ("stints", .ref (L .stiD))]
def lsf (C : HC) (S : HS) (L : HL) (l : Str) : List (Str × MV) := [("lane", .str l), ("rule", .str C.hb.marks), ("owner", .ref (L .owner)), ("giving", .int (S.giving l)), ("row", .int (S.row l))]
def sts (s : Stn) : List (Str × MV) := [("base", .int s.base), ("row", .int s.row), ("giving", .int s.giving)]
def shOf : Ltr → List Str
  | .call => []
  | .list sh _ => sh
def gvOf : Ltr → Str → Int
  | .call => fun _ => 0
  | .list _ gv => gv
def lkO (o : Option (Obj × List (Key × V))) (kvs : List (Key × MV)) : MO := match o with
  | none => .dk kvs
  | some (od, vs) => .fdk od vs kvs
def objW (wr : Mk3 → Str → MV) (C : HC) (S : HS) (L : HL) : Tg → MO
  | .house => .ins "House" (hfs C S L)
  | .book => .ins "Book" (bkf C.hb C.hp)
  | .ed m => .ins "Book" (bkf (C.eb m) (C.ep m))
  | .eds => lkO S.lock (dkm C.ms fun m => .ref (L (.ed m)))
  | .lanes => .lst (C.ls.map .str)
  | .owner => .ins "Ledger" [("names", .ref (L .names)), ("table", .ref (L .table))]
  | .names => .lst (C.ms.map .str)
  | .table => .dk (dkm C.ls fun l => ov (S.owner l))
  | .slotsD => .dk (dkm C.ls fun l => .ref (L (.slot l)))
  | .rowsD => .dk (dkm C.ls fun l => .ref (L (.rows l)))
  | .statusD => .dk (dkm C.ms fun m => .str (S.status m))
  | .ansD => .dk (dkm C.ms fun m => .bl (S.answered m))
  | .letD => .dk (dkm C.ms fun m => .ref (L (.lets m)))
  | .postD => .dk (dkm C.ms fun m => .ref (L (.post m)))
  | .awD => .dk (dkm C.ms fun m => .ref (L (.aw m)))
  | .ownD => .dk (dkm C.ms fun m => .ref (L (.own m)))
  | .stiD => .dk (dkm C.ms fun m => .ref (L (.sti m)))
  | .slot l => .ins "Slot" (lsf C S L l)
  | .rows l => .lst ((S.rows l).map fun p => .tup [.str p.1, .int p.2])
  | .lets m => .lst ((S.letters m).map fun k => .ref (L (.ltr k)))
  | .post m => .lst ((S.post m).map fun p => .tup [wr p.1 m, .ref (L (.stn p.2))])
  | .aw m => .ins "Share" [("lanes", .ref (L (.awl m)))]
  | .awl m => .lst ((S.awaits m).map .str)
  | .own m => .dk (dkm C.ls fun l => .str (S.own m l))
  | .sti m => .dk ((S.stints m).map fun p => (.inr p.1, .ref (L (.stn p.2))))
  | .stn k => .ins "Stint" (sts (S.st k))
  | .ltr k => if isList (S.lt k) then .ins "Listing" [("share", .ref (L (.lsh k))), ("givings", .ref (L (.lgv k)))] else .ins "Call" []
  | .lsh k => .ins "Share" [("lanes", .ref (L (.lsl k)))]
  | .lsl k => .lst ((shOf (S.lt k)).map .str)
  | .lgv k => .dk (dkm C.ls fun l => .int (gvOf (S.lt k) l))
def wrB (p : Mk3) (m : Str) : MV := .byt (PySem.W.KSb.enc (wrT p.lane m p.row p.giving))
abbrev hobj := objW wrB
structure HAt (C : HC) (a : Nat) (h : MH) (S : HS) (L : HL) : Prop where
  ha : L .house = a
  obj : ∀ t, live C S t → h[L t]? = some (hobj C S L t)
  inj : ∀ t t', mtb t = true → live C S t → live C S t' → L t = L t' → t = t'
structure Fr (N : Nat) (C : HC) (h : MH) (S : HS) (L : HL) (h' : MH) (S' : HS) (L' : HL) : Prop where
  le : h.length ≤ h'.length
  keep : ∀ i, i < N → (∀ t, mtb t = true → live C S t → L t ≠ i) → h'[i]? = h[i]?
  fm : ∀ t, mtb t = true → live C S' t → (∃ t', mtb t' = true ∧ live C S t' ∧ L t' = L' t) ∨ N ≤ L' t
  fa : ∀ t, live C S' t → (∃ t', live C S t' ∧ L t' = L' t) ∨ N ≤ L' t
  bk : L' .book = L .book ∧ ∀ m ∈ C.ms, L' (.ed m) = L (.ed m)
section
variable {C : HC} {a N N' : Nat} {h h1 h2 : MH} {S S1 S2 : HS} {L L1 L2 : HL}
theorem HAt.lt (A : HAt C a h S L) {t : Tg} (l : live C S t) : L t < h.length := (List.getElem?_eq_some_iff.mp (A.obj t l)).1
theorem Fr.trans (x : Fr N C h S L h1 S1 L1) (y : Fr N C h1 S1 L1 h2 S2 L2) : Fr N C h S L h2 S2 L2 := by
  refine ⟨Nat.le_trans x.le y.le, fun i hi k => ?_, fun t m l => ?_, fun t l => ?_, y.bk.1.trans x.bk.1, fun m hm => (y.bk.2 m hm).trans (x.bk.2 m hm)⟩
  · rw [y.keep i hi, x.keep i hi k]
    intro t m l e
    rcases x.fm t m l with ⟨t', m', l', e'⟩ | q
    · exact k t' m' l' (e'.trans e)
    · omega
  · rcases y.fm t m l with ⟨t', m', l', e'⟩ | q
    · rcases x.fm t' m' l' with ⟨t2, m2, l2, e2⟩ | q
      · exact .inl ⟨t2, m2, l2, e2.trans e'⟩
      · exact .inr (e' ▸ q)
    · exact .inr q
  · rcases y.fa t l with ⟨t', l', e'⟩ | q
    · rcases x.fa t' l' with ⟨t2, l2, e2⟩ | q
      · exact .inl ⟨t2, l2, e2.trans e'⟩
      · exact .inr (e' ▸ q)
    · exact .inr q
theorem HAt.out (A : HAt C a h S L) {i : Nat} {o : MO} (n : ∀ t, live C S t → L t ≠ i) : HAt C a (h.set i o) S L :=
  ⟨A.ha, fun t l => by rw [List.getElem?_set_ne (Ne.symm (n t l))]; exact A.obj t l, A.inj⟩
theorem HAt.app (A : HAt C a h S L) (g : MH) : HAt C a (h ++ g) S L :=
  ⟨A.ha, fun t l => by rw [List.getElem?_append_left (A.lt l)]; exact A.obj t l, A.inj⟩
theorem Fr.app (g : MH) (hN : N ≤ h.length) : Fr N C h S L (h ++ g) S L :=
  ⟨by simp, fun i hi _ => List.getElem?_append_left (by omega), fun t m l => .inl ⟨t, m, l, rfl⟩, fun t l => .inl ⟨t, l, rfl⟩, rfl, fun _ _ => rfl⟩
theorem HAt.step (A : HAt C a h S L) {g : MH} {p : Tg} (T : Tg → Prop) (hN : N ≤ h.length) (mp : mtb p = true) (lp : live C S p) (lp' : live C S1 p) (Tp : ¬ T p) (Th : ¬ T .house) (Tb : ¬ T .book ∧ ∀ m ∈ C.ms, ¬ T (.ed m))
    (hT : ∀ t, T t → live C S1 t → (h ++ g)[L1 t]? = some (hobj C S1 L1 t) ∧ N ≤ L1 t ∧ (h.length ≤ L1 t ∨ (mtb t = false ∧ ∀ t', mtb t' = true → live C S t' → L t' ≠ L1 t)))
    (hTi : ∀ t t', T t → T t' → mtb t = true → live C S1 t → live C S1 t' → L1 t = L1 t' → t = t') (hL : ∀ t, ¬ T t → L1 t = L t) (hl : ∀ t, live C S1 t → T t ∨ live C S t)
    (ho : ∀ t, ¬ T t → t ≠ p → live C S1 t → hobj C S1 L1 t = hobj C S L t) :
    HAt C a ((h ++ g).set (L p) (hobj C S1 L1 p)) S1 L1 ∧ Fr N C h S L ((h ++ g).set (L p) (hobj C S1 L1 p)) S1 L1 := by
  have lpl := A.lt lp
  have hp : L1 p = L p := hL p Tp
  have lv : ∀ t, ¬ T t → live C S1 t → live C S t := fun t n l => (hl t l).resolve_left n
  refine ⟨⟨(hL _ Th).trans A.ha, fun t l => ?_, fun t t' m l l' e => ?_⟩, ⟨by simp, fun i hi k => ?_, fun t m l => ?_, fun t l => ?_, hL _ Tb.1, fun m hm => hL _ (Tb.2 m hm)⟩⟩
  · by_cases tp : t = p
    · subst tp
      rw [hp, List.getElem?_set_self (by simp; omega)]
    · by_cases tT : T t
      · obtain ⟨e, _, d⟩ := hT t tT l
        rw [List.getElem?_set_ne]
        · exact e
        · rcases d with d | ⟨_, d⟩
          · omega
          · exact d p mp lp
      · rw [hL t tT, List.getElem?_set_ne (fun e => tp (A.inj p t mp lp (lv t tT l) e).symm), List.getElem?_append_left (A.lt (lv t tT l)), A.obj t (lv t tT l), ho t tT tp l]
  · by_cases tT : T t
    · by_cases tT' : T t'
      · exact hTi t t' tT tT' m l l' e
      · obtain ⟨_, _, d⟩ := hT t tT l
        rw [hL t' tT'] at e
        have := A.lt (lv t' tT' l')
        rcases d with d | ⟨d, _⟩
        · omega
        · rw [m] at d; cases d
    · by_cases tT' : T t'
      · obtain ⟨_, _, d⟩ := hT t' tT' l'
        rw [hL t tT] at e
        have := A.lt (lv t tT l)
        rcases d with d | ⟨_, d⟩
        · omega
        · exact absurd e (d t m (lv t tT l))
      · rw [hL t tT, hL t' tT'] at e
        exact A.inj t t' m (lv t tT l) (lv t' tT' l') e
  · rw [List.getElem?_set_ne (k p mp lp), List.getElem?_append_left (by omega)]
  · by_cases tT : T t
    · exact .inr (hT t tT l).2.1
    · exact .inl ⟨t, m, lv t tT l, (hL t tT).symm⟩
  · by_cases tT : T t
    · exact .inr (hT t tT l).2.1
    · exact .inl ⟨t, lv t tT l, (hL t tT).symm⟩
theorem HAt.put (A : HAt C a h S L) {p : Tg} (hN : N ≤ h.length) (mp : mtb p = true) (lp : live C S p) (hl : ∀ t, live C S1 t ↔ live C S t) (ho : ∀ t, t ≠ p → live C S t → hobj C S1 L t = hobj C S L t) :
    HAt C a (h.set (L p) (hobj C S1 L p)) S1 L ∧ Fr N C h S L (h.set (L p) (hobj C S1 L p)) S1 L := by
  have := A.step (g := []) (S1 := S1) (L1 := L) (fun _ => False) hN mp lp ((hl p).mpr lp) (fun z => z) (fun z => z) ⟨fun z => z, fun _ _ z => z⟩ (fun _ z => z.elim) (fun _ _ z => z.elim) (fun _ _ => rfl) (fun t l => .inr ((hl t).mp l)) (fun t _ n l => ho t n ((hl t).mp l))
  simpa using this
end
theorem valM_dkm {xs : List Str} {f : Str → MV} {k : Str} (hk : k ∈ xs) : valM (dkm xs f) (Sum.inr k) = some (f k) := by
  induction xs with
  | nil => cases hk
  | cons x xs ih =>
    unfold dkm at ih ⊢
    rw [List.map_cons, valM_cons]
    by_cases e : x = k
    · subst e; simp
    · rw [if_neg (by simpa using e)]
      exact ih ((List.mem_cons.mp hk).resolve_left (Ne.symm e))
theorem valM_dkm_no {xs : List Str} {f : Str → MV} {k : Str} (hk : k ∉ xs) : valM (dkm xs f) (Sum.inr k) = none := by
  induction xs with
  | nil => rfl
  | cons x xs ih =>
    unfold dkm at ih ⊢
    rw [List.map_cons, valM_cons, if_neg (by simp; intro e; exact hk (e ▸ List.mem_cons_self))]
    exact ih fun z => hk (List.mem_cons_of_mem _ z)
theorem putM_dkm {xs : List Str} {f : Str → MV} {k : Str} {v : MV} (hk : k ∈ xs) : putM (dkm xs f) (Sum.inr k) v = dkm xs (fset f k v) := by
  unfold putM
  rw [if_pos (by simp only [dkm, List.any_map, List.any_eq_true]; exact ⟨k, hk, by simp⟩)]
  simp only [dkm, List.map_map]
  apply List.map_congr_left
  intro x _
  simp only [Function.comp, fset]
  by_cases e : x = k <;> simp [e]
theorem dkm_len {xs : List Str} {f : Str → MV} : (dkm xs f).length = xs.length := by simp [dkm]
section
variable {h : MH} {i : Nat} {xs : List Str} {f : Str → MV} {k : Str} {v : MV}
theorem ix_dkm (e : h[i]? = some (.dk (dkm xs f))) (hk : k ∈ xs) : fIxA (.ref i) (.str k) h = some (f k, h) := by
  rw [fIxA_ev, if_pos (isDM_dk e)]
  simp only [fDGet, dGet_dk e, keyM, Option.map, valM_dkm hk]
theorem in_dkm (e : h[i]? = some (.dk (dkm xs f))) : fInA (.str k) (.ref i) h = some (.bl (decide (k ∈ xs)), h) := by
  rw [fInA_ev, if_pos (isDM_dk e)]
  by_cases hk : k ∈ xs
  · simp only [fDIn, dGet_dk e, keyM, Option.map, valM_dkm hk, Option.isSome, hk, decide_true]
  · simp only [fDIn, dGet_dk e, keyM, Option.map, valM_dkm_no hk, Option.isSome, hk, decide_false]
theorem nin_dkm (e : h[i]? = some (.dk (dkm xs f))) : fNotInA (.str k) (.ref i) h = some (.bl (!decide (k ∈ xs)), h) := by
  rw [fNotInA_ev, if_pos (isDM_dk e)]
  by_cases hk : k ∈ xs
  · simp only [fDNotIn, dGet_dk e, keyM, Option.map, valM_dkm hk, Option.isSome, Option.isNone, hk, decide_true, Bool.not_true]
  · simp only [fDNotIn, dGet_dk e, keyM, Option.map, valM_dkm_no hk, Option.isSome, Option.isNone, hk, decide_false, Bool.not_false]
theorem ix_lk {o : Option (Obj × List (Key × V))} (e : h[i]? = some (lkO o (dkm xs f))) (hk : k ∈ xs) : fIxA (.ref i) (.str k) h = some (f k, h) := by
  cases o with
  | none => exact ix_dkm e hk
  | some p =>
    have e : h[i]? = some (.fdk p.1 p.2 (dkm xs f)) := e
    rw [fIxA_ev, if_pos (by simp [isDM, e])]
    simp only [fDGet, dGet, e, keyM, Option.map, valM_dkm hk]
theorem in_lk {o : Option (Obj × List (Key × V))} (e : h[i]? = some (lkO o (dkm xs f))) : fInA (.str k) (.ref i) h = some (.bl (decide (k ∈ xs)), h) := by
  cases o with
  | none => exact in_dkm e
  | some p =>
    have e : h[i]? = some (.fdk p.1 p.2 (dkm xs f)) := e
    rw [fInA_ev, if_pos (by simp [isDM, e])]
    by_cases hk : k ∈ xs
    · simp only [fDIn, dGet, e, keyM, Option.map, valM_dkm hk, Option.isSome, hk, decide_true]
    · simp only [fDIn, dGet, e, keyM, Option.map, valM_dkm_no hk, Option.isSome, hk, decide_false]
theorem nin_lk {o : Option (Obj × List (Key × V))} (e : h[i]? = some (lkO o (dkm xs f))) : fNotInA (.str k) (.ref i) h = some (.bl (!decide (k ∈ xs)), h) := by
  cases o with
  | none => exact nin_dkm e
  | some p =>
    have e : h[i]? = some (.fdk p.1 p.2 (dkm xs f)) := e
    rw [fNotInA_ev, if_pos (by simp [isDM, e])]
    by_cases hk : k ∈ xs
    · simp only [fDNotIn, dGet, e, keyM, Option.map, valM_dkm hk, Option.isSome, hk, decide_true, Bool.not_true]
    · simp only [fDNotIn, dGet, e, keyM, Option.map, valM_dkm_no hk, Option.isSome, hk, decide_false, Bool.not_false]
theorem put_dkm (e : h[i]? = some (.dk (dkm xs f))) (hk : k ∈ xs) (hl : xs.length < SZ) : putA (.ref i) (.str k) v h = some (h.set i (.dk (dkm xs (fset f k v)))) := by
  rw [putA_dk e rfl, if_pos (by rw [dkm_len]; exact hl), putM_dkm hk]
end
end Lw
namespace Lw
open PySem L2 Mo
structure COk (C : HC) : Prop where
  ml : C.ms.length < 64
  ll : C.ls.length < 64
  nm : C.ms.Nodup
  nl : C.ls.Nodup
theorem lt64 {n : Nat} (h : n < 64) : n < SZ := by have : SZ = 16777216 := rfl; omega
def lset (L : HL) (t : Tg) (n : Nat) : HL := fun x => if x = t then n else L x
@[simp] theorem lset_same {L : HL} {t : Tg} {n : Nat} : lset L t n t = n := by simp [lset]
theorem lset_ne {L : HL} {t x : Tg} {n : Nat} (h : x ≠ t) : lset L t n x = L x := by simp [lset, h]
section
variable {C : HC} {a N : Nat} {h g : MH} {S S1 : HS} {L L1 : HL}
theorem HAt.hs (A : HAt C a h S L) : h[a]? = some (.ins "House" (hfs C S L)) := A.ha ▸ A.obj .house trivial
theorem fld_of {i : Nat} {c : String} {fs : List (Str × MV)} {f : Str} {cs : List String} {v : MV} (e : h[i]? = some (.ins c fs)) (hc : c ∈ cs) (hv : fs.lookup f = some v) : fFld f cs (.ref i) h = some (v, h) := by
  simp only [fFld, e, if_pos hc, hv, Option.map]
theorem HAt.fH (A : HAt C a h S L) : ∀ cs, "House" ∈ cs → fFld "book" cs (.ref a) h = some (.ref (L .book), h) ∧ fFld "editions" cs (.ref a) h = some (.ref (L .eds), h) ∧ fFld "lanes" cs (.ref a) h = some (.ref (L .lanes), h) ∧ fFld "window" cs (.ref a) h = some (.int C.win, h) ∧
    fFld "round" cs (.ref a) h = some (.int S.round, h) ∧ fFld "called" cs (.ref a) h = some (.bl S.called, h) ∧ fFld "held" cs (.ref a) h = some (S.held, h) ∧ fFld "owner" cs (.ref a) h = some (.ref (L .owner), h) ∧
    fFld "slots" cs (.ref a) h = some (.ref (L .slotsD), h) ∧ fFld "rows" cs (.ref a) h = some (.ref (L .rowsD), h) ∧ fFld "status" cs (.ref a) h = some (.ref (L .statusD), h) ∧ fFld "answered" cs (.ref a) h = some (.ref (L .ansD), h) ∧
    fFld "letters" cs (.ref a) h = some (.ref (L .letD), h) ∧ fFld "post" cs (.ref a) h = some (.ref (L .postD), h) ∧ fFld "awaits" cs (.ref a) h = some (.ref (L .awD), h) ∧ fFld "own" cs (.ref a) h = some (.ref (L .ownD), h) ∧ fFld "stints" cs (.ref a) h = some (.ref (L .stiD), h) :=
  fun cs hc => ⟨fld_of A.hs hc rfl, fld_of A.hs hc rfl, fld_of A.hs hc rfl, fld_of A.hs hc rfl, fld_of A.hs hc rfl, fld_of A.hs hc rfl, fld_of A.hs hc rfl, fld_of A.hs hc rfl, fld_of A.hs hc rfl, fld_of A.hs hc rfl, fld_of A.hs hc rfl, fld_of A.hs hc rfl,
    fld_of A.hs hc rfl, fld_of A.hs hc rfl, fld_of A.hs hc rfl, fld_of A.hs hc rfl, fld_of A.hs hc rfl⟩
theorem HAt.cl (A : HAt C a h S L) {m : Str} {n : Nat} {f : MF} {as : MEs} {s : Lo} (hm : (hfs C S L).lookup m = none) : KMt (.ok (.ref a) h) "House" m n f as s = KMt2 (as s h) n f (.ref a) := by
  rw [KMt_ref A.hs, if_pos ⟨rfl, hm⟩]
section
variable {m l : Str}
theorem HAt.fE (A : HAt C a h S L) (hm : m ∈ C.ms) : ∀ cs, "Book" ∈ cs → fFld "stop" cs (.ref (L (.ed m))) h = some (.str (C.eb m).stop, h) ∧ fFld "move" cs (.ref (L (.ed m))) h = some (.str (C.eb m).move, h) ∧ fFld "out" cs (.ref (L (.ed m))) h = some (.str (C.eb m).out, h) :=
  fun cs hc => ⟨fld_of (A.obj (.ed m) hm) hc rfl, fld_of (A.obj (.ed m) hm) hc rfl, fld_of (A.obj (.ed m) hm) hc rfl⟩
theorem HAt.ixM (A : HAt C a h S L) (hm : m ∈ C.ms) : fIxA (.ref (L .eds)) (.str m) h = some (.ref (L (.ed m)), h) ∧ fIxA (.ref (L .statusD)) (.str m) h = some (.str (S.status m), h) ∧ fIxA (.ref (L .ansD)) (.str m) h = some (.bl (S.answered m), h) ∧
    fIxA (.ref (L .letD)) (.str m) h = some (.ref (L (.lets m)), h) ∧ fIxA (.ref (L .postD)) (.str m) h = some (.ref (L (.post m)), h) ∧ fIxA (.ref (L .awD)) (.str m) h = some (.ref (L (.aw m)), h) ∧ fIxA (.ref (L .ownD)) (.str m) h = some (.ref (L (.own m)), h) ∧ fIxA (.ref (L .stiD)) (.str m) h = some (.ref (L (.sti m)), h) :=
  ⟨ix_lk (A.obj .eds trivial) hm, ix_dkm (A.obj .statusD trivial) hm, ix_dkm (A.obj .ansD trivial) hm, ix_dkm (A.obj .letD trivial) hm, ix_dkm (A.obj .postD trivial) hm, ix_dkm (A.obj .awD trivial) hm, ix_dkm (A.obj .ownD trivial) hm, ix_dkm (A.obj .stiD trivial) hm⟩
theorem HAt.ixL (A : HAt C a h S L) (hl : l ∈ C.ls) : fIxA (.ref (L .slotsD)) (.str l) h = some (.ref (L (.slot l)), h) ∧ fIxA (.ref (L .rowsD)) (.str l) h = some (.ref (L (.rows l)), h) ∧ fIxA (.ref (L .table)) (.str l) h = some (ov (S.owner l), h) :=
  ⟨ix_dkm (A.obj .slotsD trivial) hl, ix_dkm (A.obj .rowsD trivial) hl, ix_dkm (A.obj .table trivial) hl⟩
theorem HAt.ixO (A : HAt C a h S L) (hm : m ∈ C.ms) (hl : l ∈ C.ls) : fIxA (.ref (L (.own m))) (.str l) h = some (.str (S.own m l), h) := ix_dkm (A.obj (.own m) hm) hl
theorem HAt.fS (A : HAt C a h S L) (hl : l ∈ C.ls) : ∀ cs, "Slot" ∈ cs → fFld "lane" cs (.ref (L (.slot l))) h = some (.str l, h) ∧ fFld "rule" cs (.ref (L (.slot l))) h = some (.str C.hb.marks, h) ∧ fFld "owner" cs (.ref (L (.slot l))) h = some (.ref (L .owner), h) ∧
    fFld "giving" cs (.ref (L (.slot l))) h = some (.int (S.giving l), h) ∧ fFld "row" cs (.ref (L (.slot l))) h = some (.int (S.row l), h) :=
  fun cs hc => ⟨fld_of (A.obj (.slot l) hl) hc rfl, fld_of (A.obj (.slot l) hl) hc rfl, fld_of (A.obj (.slot l) hl) hc rfl, fld_of (A.obj (.slot l) hl) hc rfl, fld_of (A.obj (.slot l) hl) hc rfl⟩
theorem HAt.inM (A : HAt C a h S L) : fInA (.str m) (.ref (L .eds)) h = some (.bl (decide (m ∈ C.ms)), h) ∧ fNotInA (.str m) (.ref (L .eds)) h = some (.bl (!decide (m ∈ C.ms)), h) := ⟨in_lk (A.obj .eds trivial), nin_lk (A.obj .eds trivial)⟩
theorem HAt.inL (A : HAt C a h S L) : fInA (.str l) (.ref (L .slotsD)) h = some (.bl (decide (l ∈ C.ls)), h) ∧ fNotInA (.str l) (.ref (L .slotsD)) h = some (.bl (!decide (l ∈ C.ls)), h) ∧ fInA (.str l) (.ref (L .table)) h = some (.bl (decide (l ∈ C.ls)), h) ∧ fNotInA (.str l) (.ref (L .table)) h = some (.bl (!decide (l ∈ C.ls)), h) :=
  ⟨in_dkm (A.obj .slotsD trivial), nin_dkm (A.obj .slotsD trivial), in_dkm (A.obj .table trivial), nin_dkm (A.obj .table trivial)⟩
theorem HAt.isO (A : HAt C a h S L) : insC h (.ref (L .owner)) = some "Ledger" := insC_ref (A.obj .owner trivial)
theorem HAt.fO (A : HAt C a h S L) : ∀ cs, "Ledger" ∈ cs → fFld "table" cs (.ref (L .owner)) h = some (.ref (L .table), h) ∧ fFld "names" cs (.ref (L .owner)) h = some (.ref (L .names), h) := fun cs hc => ⟨fld_of (A.obj .owner trivial) hc rfl, fld_of (A.obj .owner trivial) hc rfl⟩
theorem HAt.isA (A : HAt C a h S L) (hm : m ∈ C.ms) : insC h (.ref (L (.aw m))) = some "Share" := insC_ref (A.obj (.aw m) hm)
theorem HAt.fA (A : HAt C a h S L) (hm : m ∈ C.ms) : ∀ cs, "Share" ∈ cs → fFld "lanes" cs (.ref (L (.aw m))) h = some (.ref (L (.awl m)), h) := fun cs hc => fld_of (A.obj (.aw m) hm) hc rfl
end
theorem HAt.putD (A : HAt C a h S L) {p : Tg} {xs : List Str} {f f1 : Str → MV} {k : Str} {v : MV} (hN : N ≤ h.length) (mp : mtb p = true) (lp : live C S p) (e0 : hobj C S L p = .dk (dkm xs f)) (e1 : hobj C S1 L p = .dk (dkm xs f1)) (ef : f1 = fset f k v) (hk : k ∈ xs) (hl : xs.length < 64)
    (hlv : ∀ t, live C S1 t ↔ live C S t) (ho : ∀ t, t ≠ p → live C S t → hobj C S1 L t = hobj C S L t) :
    ∃ h1, putA (.ref (L p)) (.str k) v h = some h1 ∧ HAt C a h1 S1 L ∧ Fr N C h S L h1 S1 L := by
  have e := A.obj p lp
  rw [e0] at e
  obtain ⟨A1, F1⟩ := A.put (S1 := S1) hN mp lp hlv ho
  rw [e1, ef] at A1 F1
  exact ⟨_, put_dkm e hk (lt64 hl), A1, F1⟩
section
variable {m l : Str}
theorem HAt.setStatus (A : HAt C a h S L) (hC : COk C) (hN : N ≤ h.length) (hm : m ∈ C.ms) (v : Str) : ∃ h1, putA (.ref (L .statusD)) (.str m) (.str v) h = some h1 ∧ HAt C a h1 { S with status := fset S.status m v } L ∧ Fr N C h S L h1 { S with status := fset S.status m v } L :=
  A.putD (p := .statusD) hN rfl trivial rfl rfl (by funext x; simp only [fset]; split <;> rfl) hm hC.ml (fun t => by cases t <;> exact Iff.rfl) (fun t ne _ => by cases t <;> first | rfl | exact absurd rfl ne)
theorem HAt.setAns (A : HAt C a h S L) (hC : COk C) (hN : N ≤ h.length) (hm : m ∈ C.ms) (v : Bool) : ∃ h1, putA (.ref (L .ansD)) (.str m) (.bl v) h = some h1 ∧ HAt C a h1 { S with answered := fset S.answered m v } L ∧ Fr N C h S L h1 { S with answered := fset S.answered m v } L :=
  A.putD (p := .ansD) hN rfl trivial rfl rfl (by funext x; simp only [fset]; split <;> rfl) hm hC.ml (fun t => by cases t <;> exact Iff.rfl) (fun t ne _ => by cases t <;> first | rfl | exact absurd rfl ne)
end
end
end Lw
namespace Lw
open PySem L2 Mo
section
variable {C : HC} {a N n n1 n2 n3 n4 : Nat} {h g : MH} {S S1 : HS} {L L1 : HL} {m l : Str}
theorem fset_ref {x y : Str} {L : HL} {n : Nat} {F : Str → Tg} (hF : ∀ x y, F x = F y → x = y) : (fset (fun x => MV.ref (L (F x))) m (.ref n)) = fun x => .ref (lset L (F m) n (F x)) := by
  funext x
  simp only [fset, lset]
  by_cases e : x = m
  · subst e; simp
  · rw [if_neg e, if_neg (fun z => e (hF _ _ z))]
theorem HAt.newOwn (A : HAt C a h S L) (hC : COk C) (hN : N ≤ h.length) (hm : m ∈ C.ms) (f : Str → Str) (hn : h.length ≤ n) (e : (h ++ g)[n]? = some (.dk (dkm C.ls fun l => .str (f l)))) :
    ∃ h1, putA (.ref (L .ownD)) (.str m) (.ref n) (h ++ g) = some h1 ∧ HAt C a h1 { S with own := fset S.own m f } (lset L (.own m) n) ∧ Fr N C h S L h1 { S with own := fset S.own m f } (lset L (.own m) n) := by
  obtain ⟨A1, F1⟩ := A.step (N := N) (g := g) (p := .ownD) (S1 := { S with own := fset S.own m f }) (L1 := lset L (.own m) n) (fun t => t = .own m) hN rfl trivial trivial (by simp) (by simp) ⟨by simp, by simp⟩
    (by rintro t rfl _; simp only [lset_same]; refine ⟨?_, by omega, .inl hn⟩; rw [e]; simp only [hobj, objW, fset_same])
    (by rintro t t' rfl rfl _ _ _ _; rfl) (fun t ht => lset_ne ht) (fun t lv => .inr (by cases t <;> exact lv))
    (fun t w1 w2 _ => by cases t <;> first | rfl | exact absurd rfl w2 | (rename_i x; simp only [hobj, objW]; rw [fset_ne (fun e => w1 (by rw [e]))]))
  refine ⟨_, ?_, A1, F1⟩
  rw [put_dkm (app_at (A.obj .ownD trivial)) hm (lt64 hC.ml), fset_ref (F := .own) (x := m) (y := m) (fun x y z => by cases z; rfl)]
  rfl
theorem HAt.newAw (A : HAt C a h S L) (hC : COk C) (hN : N ≤ h.length) (hm : m ∈ C.ms) (xs : List Str) (hn : h.length ≤ n) (hn1 : h.length ≤ n1) (e : (h ++ g)[n]? = some (.ins "Share" [("lanes", .ref n1)])) (e1 : (h ++ g)[n1]? = some (.lst (xs.map .str))) :
    ∃ h1, putA (.ref (L .awD)) (.str m) (.ref n) (h ++ g) = some h1 ∧ HAt C a h1 { S with awaits := fset S.awaits m xs } (lset (lset L (.aw m) n) (.awl m) n1) ∧ Fr N C h S L h1 { S with awaits := fset S.awaits m xs } (lset (lset L (.aw m) n) (.awl m) n1) := by
  have ne : n ≠ n1 := fun z => by subst z; rw [e] at e1; cases e1
  obtain ⟨A1, F1⟩ := A.step (N := N) (g := g) (p := .awD) (S1 := { S with awaits := fset S.awaits m xs }) (L1 := lset (lset L (.aw m) n) (.awl m) n1) (fun t => t = .aw m ∨ t = .awl m) hN rfl trivial trivial (by simp) (by simp) ⟨by simp, by simp⟩
    (by
      rintro t (rfl | rfl) _
      · have q : lset (lset L (.aw m) n) (.awl m) n1 (.aw m) = n := by rw [lset_ne (by simp), lset_same]
        rw [q]
        refine ⟨?_, by omega, .inl hn⟩
        rw [e]; simp only [hobj, objW, lset_same]
      · simp only [lset_same]
        refine ⟨?_, by omega, .inl hn1⟩
        rw [e1]; simp only [hobj, objW, fset_same])
    (by
      rintro t t' (rfl | rfl) (rfl | rfl) _ _ _ z
      · rfl
      · rw [lset_ne (by simp), lset_same, lset_same] at z; exact absurd z ne
      · rw [lset_same, lset_ne (by simp), lset_same] at z; exact absurd z.symm ne
      · rfl) (fun t ht => by rw [lset_ne (fun z => ht (.inr z)), lset_ne (fun z => ht (.inl z))]) (fun t lv => .inr (by cases t <;> exact lv))
    (fun t w1 w2 _ => by
      cases t
      case awD => exact absurd rfl w2
      case awl x => simp only [hobj, objW]; rw [fset_ne (fun e => w1 (.inr (by rw [e])))]
      case aw x => simp only [hobj, objW]; rw [lset_ne (fun e => w1 (.inl (by cases e; rfl))), lset_ne (by simp)]
      all_goals rfl)
  refine ⟨_, ?_, A1, F1⟩
  rw [put_dkm (app_at (A.obj .awD trivial)) hm (lt64 hC.ml), fset_ref (F := .aw) (x := m) (y := m) (fun x y z => by cases z; rfl)]
  simp only [hobj, objW]
  congr 3
theorem HAt.appCall (A : HAt C a h S L) (hN : N ≤ h.length) (hm : m ∈ C.ms) (hl : (S.letters m).length < SZ) (hb : ∀ x ∈ C.ms, ∀ k ∈ S.letters x, k < S.nlt) (hn : h.length ≤ n) (e : (h ++ g)[n]? = some (.ins "Call" [])) :
    ∃ h1, fAppend (.ref (L (.lets m))) [.ref n] (h ++ g) = some (.non, h1) ∧ HAt C a h1 { S with letters := fset S.letters m (S.letters m ++ [S.nlt]), lt := nset S.lt S.nlt .call, nlt := S.nlt + 1 } (lset L (.ltr S.nlt) n) ∧
      Fr N C h S L h1 { S with letters := fset S.letters m (S.letters m ++ [S.nlt]), lt := nset S.lt S.nlt .call, nlt := S.nlt + 1 } (lset L (.ltr S.nlt) n) := by
  have ol : ∀ x ∈ C.ms, (S.letters x).map (fun k => MV.ref (lset L (.ltr S.nlt) n (.ltr k))) = (S.letters x).map fun k => MV.ref (L (.ltr k)) := fun x hx => List.map_congr_left fun k hk => by
    rw [lset_ne (fun z => by cases z; exact absurd (hb x hx _ hk) (by omega))]
  obtain ⟨A1, F1⟩ := A.step (N := N) (g := g) (p := .lets m) (S1 := { S with letters := fset S.letters m (S.letters m ++ [S.nlt]), lt := nset S.lt S.nlt .call, nlt := S.nlt + 1 }) (L1 := lset L (.ltr S.nlt) n) (fun t => t = .ltr S.nlt) hN rfl hm hm (by simp) (by simp) ⟨by simp, by simp⟩
    (by rintro t rfl _; simp only [lset_same]; refine ⟨?_, by omega, .inl hn⟩; rw [e]; simp only [hobj, objW, nset_same, isList, Bool.false_eq_true, if_false])
    (by rintro t t' rfl rfl _ _ _ _; rfl) (fun t ht => lset_ne ht)
    (fun t lv => by
      cases t
      case ltr k =>
        by_cases z : k = S.nlt
        · exact .inl (by rw [z])
        · refine .inr ?_
          have : k < S.nlt + 1 := lv
          show k < S.nlt
          omega
      case lsh k =>
        obtain ⟨q1, q2⟩ := lv
        have q1 : k < S.nlt + 1 := q1
        by_cases z : k = S.nlt
        · subst z; simp [isList] at q2
        · dsimp only at q2; rw [nset_ne z] at q2; exact .inr ⟨by omega, q2⟩
      case lsl k =>
        obtain ⟨q1, q2⟩ := lv
        have q1 : k < S.nlt + 1 := q1
        by_cases z : k = S.nlt
        · subst z; simp [isList] at q2
        · dsimp only at q2; rw [nset_ne z] at q2; exact .inr ⟨by omega, q2⟩
      case lgv k =>
        obtain ⟨q1, q2⟩ := lv
        have q1 : k < S.nlt + 1 := q1
        by_cases z : k = S.nlt
        · subst z; simp [isList] at q2
        · dsimp only at q2; rw [nset_ne z] at q2; exact .inr ⟨by omega, q2⟩
      all_goals exact .inr lv)
    (fun t w1 w2 lv => by
      cases t
      case lets x => simp only [hobj, objW]; rw [fset_ne (fun e => w2 (by rw [e])), ol x lv]
      case ltr k =>
        have q : nset S.lt S.nlt .call k = S.lt k := nset_ne (fun e => w1 (by rw [e]))
        simp only [hobj, objW, q]
        rfl
      case lsh k =>
        obtain ⟨q1, q2⟩ := lv
        by_cases z : k = S.nlt
        · subst z; simp [isList] at q2
        · rfl
      case lsl k =>
        obtain ⟨q1, q2⟩ := lv
        by_cases z : k = S.nlt
        · subst z; simp [isList] at q2
        · simp only [hobj, objW]; rw [nset_ne z]
      case lgv k =>
        obtain ⟨q1, q2⟩ := lv
        by_cases z : k = S.nlt
        · subst z; simp [isList] at q2
        · simp only [hobj, objW]; rw [nset_ne z]
      all_goals rfl)
  refine ⟨_, ?_, A1, F1⟩
  have q := app_at (t := g) (A.obj (.lets m) hm)
  rw [fAppend_ref q (by simpa using hl)]
  simp only [hobj, objW, fset_same, List.map_append, List.map_cons, List.map_nil, lset_same, ol m hm]
end
end Lw
namespace Lw
open PySem L2 Mo
section
variable {it mk mv me : ME} {c : MB} {j i : Nat} {us : List Nat} {s : Lo} {h : MH} {xs : List Str} {f : Str → MV}
theorem getSeq_strs {k : Nat} (q : h[i]? = some (.lst (xs.map .str))) : getSeq (.ref i) k h = some ((xs[k]?).map .str) := by
  rw [getSeq_ref q, List.getElem?_map]
theorem set_app0' {h : MH} {o o' : MO} : (h ++ [o]).set h.length o' = h ++ [o'] := by
  rw [List.set_append_right _ _ (Nat.le_refl _), Nat.sub_self]; rfl
theorem take_dkm {k : Nat} (hk : k < xs.length) (nd : xs.Nodup) : putM (dkm (xs.take k) f) (Sum.inr xs[k]) (f xs[k]) = dkm (xs.take (k + 1)) f := by
  have hn : xs[k] ∉ xs.take k := fun z => by
    obtain ⟨q, hq, e⟩ := List.mem_take_iff_getElem.mp z
    have := (List.getElem_inj nd).mp e
    omega
  unfold putM
  rw [if_neg, List.take_succ_eq_append_getElem hk]
  · simp only [dkm, List.map_append, List.map_cons, List.map_nil]
  · simp only [dkm, List.any_map, Bool.not_eq_true]
    rw [List.any_eq_false]
    intro x hx
    simp only [Function.comp, decide_eq_true_eq]
    intro e
    cases e
    exact hn hx
theorem dc_strs (e : it s h = .ok (.ref i) h) (q : h[i]? = some (.lst (xs.map .str))) (nd : xs.Nodup) (hl : xs.length < 64)
    (hk : ∀ x ∈ xs, ∀ acc, mk ((wipeM s us).set j (some (.str x))) (h ++ [.dk acc]) = .ok (.str x) (h ++ [.dk acc]))
    (hv : ∀ x ∈ xs, ∀ acc, mv ((wipeM s us).set j (some (.str x))) (h ++ [.dk acc]) = .ok (f x) (h ++ [.dk acc])) :
    eDc it (gN j) bYes mk mv us s h = .ok (.ref h.length) (h ++ [.dk (dkm xs f)]) := by
  rw [eDc_at e q]
  refine dcG_inv (N := xs.length) (fun k h' => h' = h ++ [.dk (dkm (xs.take k) f)]) (fun r => r = .ok (.ref h.length) (h ++ [.dk (dkm xs f)])) ?_ ?_ (xs.map MV.str).length 0 (h ++ [.dk []]) (by simp) rfl
  · rintro h' rfl
    refine ⟨?_, by rw [List.take_length]⟩
    rw [getSeq_strs (app_at q)]
    simp
  · rintro k h' hk' rfl
    have hx : xs[k] ∈ xs := List.getElem_mem hk'
    refine ⟨.str xs[k], _, .str xs[k], _, f xs[k], _, _, ?_, rfl, rfl, hk _ hx _, hv _ hx _, putDc_at at_app0 rfl ?_, ?_⟩
    · rw [getSeq_strs (app_at q)]
      simp [hk']
    · have : (dkm (xs.take k) f).length ≤ k := by simp [dkm]; omega
      have := lt64 hl
      omega
    · rw [take_dkm hk' nd, set_app0']
theorem lc_strs {p : Str → Bool} {h0 : MH} (e : it s h0 = .ok (.ref i) h) (q : h[i]? = some (.lst (xs.map .str))) (hl : xs.length < 64)
    (hst : ∀ x ∈ xs, ∀ acc, c ((wipeM s us).set j (some (.str x))) (h ++ [.lst acc]) = .ok (p x) (h ++ [.lst acc])) (hm : ∀ x ∈ xs, ∀ acc, me ((wipeM s us).set j (some (.str x))) (h ++ [.lst acc]) = .ok (.str x) (h ++ [.lst acc])) :
    eLc it (gN j) c me us s h0 = .ok (.ref h.length) (h ++ [.lst ((xs.filter p).map .str)]) := by
  rw [eLc_ev, e, KCo_ok, lcS_run (xs := xs.map .str) (f := id) (p := fun v => match v with | .str x => p x | _ => false) (by simp; exact Nat.le_of_lt (lt64 hl)) q]
  · congr 3
    rw [List.map_id, List.filter_map]
    rfl
  · intro x hx
    obtain ⟨y, hy, rfl⟩ := List.mem_map.mp hx
    exact ⟨_, rfl, fun acc => ⟨hst y hy acc, fun _ => hm y hy acc⟩⟩
theorem lcD_strs {p : Str → Bool} {F : Str → MV} (e : it s h = .ok (.ref i) h) (q : h[i]? = some (.dk (dkm xs F))) (hl : xs.length < 64)
    (e2 : ∀ od vs, it s (h.set i (.fdk od vs (dkm xs F))) = .ok (.ref i) (h.set i (.fdk od vs (dkm xs F))))
    (hst : ∀ od vs, ∀ x ∈ xs, ∀ acc, c ((wipeM s us).set j (some (.str x))) (h.set i (.fdk od vs (dkm xs F)) ++ [.lst acc]) = .ok (p x) (h.set i (.fdk od vs (dkm xs F)) ++ [.lst acc]))
    (hm : ∀ od vs, ∀ x ∈ xs, ∀ acc, me ((wipeM s us).set j (some (.str x))) (h.set i (.fdk od vs (dkm xs F)) ++ [.lst acc]) = .ok (.str x) (h.set i (.fdk od vs (dkm xs F)) ++ [.lst acc])) :
    eLcD it (gN j) c me us s h = .ok (.ref h.length) (h ++ [.lst ((xs.filter p).map .str)]) := by
  have hlt := (List.getElem?_eq_some_iff.mp q).1
  refine eLcD_at e q e2 fun od vs => ?_
  have qs : (h.set i (.fdk od vs (dkm xs F)))[i]? = some (.fdk od vs (dkm xs F)) := List.getElem?_set_self hlt
  have R := lcG_run (get := getFD od vs i) (g := gN j) (c := c) (m := me) (s := wipeM s us) (h := h.set i (.fdk od vs (dkm xs F))) (xs := xs.map .str) (f := id) (p := fun v => match v with | .str x => p x | _ => false) (by simp; exact Nat.le_of_lt (lt64 hl))
    (fun k acc _ => by rw [getFD_at (app_at qs), dkm, List.getElem?_map, List.getElem?_map]; cases xs[k]? <;> rfl) (by
      intro x hx
      obtain ⟨y, hy, rfl⟩ := List.mem_map.mp hx
      exact ⟨_, rfl, fun acc => ⟨hst od vs y hy acc, fun _ => hm od vs y hy acc⟩⟩)
  rw [List.length_set, List.length_map] at R
  rw [dkm_len, R, unlE_at (app_at qs), List.set_append_left _ _ (by simpa using hlt), List.set_set]
  congr 2
  · have : h.set i (.dk (dkm xs F)) = h := by
      apply List.ext_getElem?
      intro k
      by_cases z : i = k
      · subst z; rw [List.getElem?_set_self hlt, q]
      · rw [List.getElem?_set_ne z]
    rw [this]
  · congr 2
    rw [List.map_id, List.filter_map]
    rfl
theorem set_back {o o' : MO} (q : h[i]? = some o) : (h.set i o').set i o = h := by
  have hlt := (List.getElem?_eq_some_iff.mp q).1
  rw [List.set_set]
  apply List.ext_getElem?
  intro k
  by_cases z : i = k
  · subst z; rw [List.getElem?_set_self hlt, q]
  · rw [List.getElem?_set_ne z]
end
section
variable {C : HC} {a N : Nat} {h : MH} {S : HS} {L : HL}
theorem HAt.locked (A : HAt C a h S L) (od : Obj) (vs : List (Key × V)) : HAt C a (h.set (L .eds) (.fdk od vs (dkm C.ms fun m => .ref (L (.ed m))))) { S with lock := some (od, vs) } L :=
  (A.put (N := 0) (S1 := { S with lock := some (od, vs) }) (p := .eds) (Nat.zero_le _) rfl trivial (fun t => by cases t <;> exact Iff.rfl) (fun t ne _ => by cases t <;> first | rfl | exact absurd rfl ne)).1
end
end Lw
namespace Lw
open PySem L2 Mo
def put1 (acc : List Str) (x : Str) : List Str := if x ∈ acc then acc else acc ++ [x]
def ddup (xs : List Str) : List Str := xs.foldl put1 []
def asc (xs : List Str) : List Str := ddup (srt xs)
theorem put1_len (acc : List Str) (x : Str) : (put1 acc x).length ≤ acc.length + 1 := by
  unfold put1
  split <;> simp
theorem foldl_len (xs : List Str) : ∀ acc : List Str, (xs.foldl put1 acc).length ≤ acc.length + xs.length := by
  induction xs with
  | nil => intro acc; simp
  | cons x xs ih =>
    intro acc
    have := ih (put1 acc x)
    have := put1_len acc x
    simp only [List.foldl_cons, List.length_cons]
    omega
theorem srt_len (xs : List Str) : (srt xs).length = xs.length := (srt_perm xs).length_eq
theorem asc_len (xs : List Str) : (asc xs).length ≤ xs.length := by
  have := foldl_len (srt xs) []
  rw [srt_len] at this
  simpa [asc, ddup] using this
section
variable {h : MH}
theorem asc_turn {F : Nat} {acc : List Str} {x : Str} {x0 x3 : Option MV} (hF : h[F]? = some (.lst (acc.map .str))) (hl : acc.length < 1000) :
    L0_ascending [x0, some (.ref F), some (.str x), x3] h = .nx [x0, some (.ref F), some (.str x), x3] (h.set F (.lst ((put1 acc x).map .str))) := by
  have N := fNotIn_strs (x := x) hF
  have A : fAppend (.ref F) [.str x] h = some (.non, h.set F (.lst (acc.map .str ++ [.str x]))) := fAppend_ref hF (by rw [List.length_map]; have : SZ = 16777216 := rfl; omega)
  have il := isL_ref hF
  unfold put1
  by_cases c : x ∈ acc
  · have e : h.set F (.lst (acc.map .str)) = h := by
      obtain ⟨hlt, e⟩ := List.getElem?_eq_some_iff.mp hF
      rw [← e, List.set_getElem_self]
    rw [if_pos c, e]
    simp -implicitDefEqProofs [L0_ascending, eV, -fNotInA_ev, N, c]
  · rw [if_neg c]
    simp -implicitDefEqProofs [L0_ascending, eV, -fNotInA_ev, N, c, il, A]
theorem asc_eq {i : Nat} {xs : List Str} (e : h[i]? = some (.lst (xs.map .str))) (hl : xs.length < 64) : m_ascending [.ref i] h = .ok (.ref h.length) (h ++ [.lst ((asc xs).map .str)]) := by
  refine gc_new (k := 0) (g := [.lst ((asc xs).map .str), .lst (xs.map .str), .lst ((srt xs).map .str)]) ?_ rfl (norefs_str _)
  rw [mDef_ev]
  show KD (b_ascending [some (.ref i), none, none, none] h) = _
  have LC : lcV (gN 3) bYes Z0_ascending [some (.ref i), some (.ref h.length), none, none] (.ref i) (h ++ [.lst []]) = .ok (.ref (h.length + 1)) (h ++ [.lst [], .lst (xs.map .str)]) := by
    have := lcS_run (g := gN 3) (c := bYes) (m := Z0_ascending) (s := [some (.ref i), some (.ref h.length), none, none]) (h := h ++ [.lst []]) (i := i) (xs := xs.map .str) (f := id) (p := fun _ => true) (by simp [SZ]; omega) (app_at e) (by
      intro x hx
      obtain ⟨d, hd, rfl⟩ := List.mem_map.mp hx
      refine ⟨_, rfl, fun acc => ⟨rfl, fun _ => ?_⟩⟩
      simp -implicitDefEqProofs [Z0_ascending, eV])
    rw [this]
    simp
  have S : fSortS [.ref (h.length + 1)] (h ++ [.lst [], .lst (xs.map .str)]) = some (.ref (h.length + 2), h ++ [.lst [], .lst (xs.map .str), .lst ((srt xs).map .str)]) := by
    rw [fSortS_ev (xs := xs) (by simp [at_app]) hl]
    simp
  have F : ∃ x2, forG (getSeq (.ref (h.length + 2))) (gN 2) L0_ascending (((srt xs).map MV.str).length + 1) 0 [some (.ref i), some (.ref h.length), none, none] (h ++ [.lst [], .lst (xs.map .str), .lst ((srt xs).map .str)]) =
      .nx [some (.ref i), some (.ref h.length), x2, none] (h ++ [.lst ((asc xs).map .str), .lst (xs.map .str), .lst ((srt xs).map .str)]) := by
    have sl : (srt xs).length < 64 := by rw [srt_len]; exact hl
    have ea : asc xs = (srt xs).foldl put1 [] := rfl
    rw [ea]
    generalize srt xs = ys at *
    refine forS_inv (fun k s h' => ∃ x2, s = [some (.ref i), some (.ref h.length), x2, none] ∧ h' = h ++ [.lst (((ys.take k).foldl put1 []).map .str), .lst (xs.map .str), .lst (ys.map .str)])
      (fun r => ∃ x2, r = .nx [some (.ref i), some (.ref h.length), x2, none] (h ++ [.lst ((ys.foldl put1 []).map .str), .lst (xs.map .str), .lst (ys.map .str)])) ⟨none, rfl, rfl⟩ ?_ ?_ ?_
    · rintro k s h' ⟨x2, rfl, rfl⟩
      exact seqOf_ref (by simp [at_app])
    · rintro k s h' hk ⟨x2, rfl, rfl⟩
      rw [List.length_map] at hk
      refine ⟨_, rfl, ?_⟩
      rw [List.getElem_map]
      show Turn _ _ (L0_ascending [_, _, _, _] _)
      have len := foldl_len (ys.take k) []
      rw [asc_turn at_app0 (by simp at len; omega), turn_nx, set_app0]
      refine ⟨_, rfl, ?_⟩
      rw [List.take_add_one, List.getElem?_eq_getElem hk, Option.toList_some, List.foldl_append]
      rfl
    · rintro s h' ⟨x2, rfl, rfl⟩
      refine ⟨x2, ?_⟩
      rw [List.length_map, List.take_length]
  obtain ⟨x2, F⟩ := F
  have K := KFo_ref (h := h ++ [.lst [], .lst (xs.map .str), .lst ((srt xs).map .str)]) (i := h.length + 2) (xs := (srt xs).map .str) (g := gN 2) (b := L0_ascending) (s := [some (.ref i), some (.ref h.length), none, none]) (by simp [at_app])
  rw [F] at K
  simp -implicitDefEqProofs [b_ascending, eV, SZ, eLc_ev, KCo_ok, wipeM, LC, S, K]
end
theorem foldl_sub (xs : List Str) : ∀ acc : List Str, ∃ l : List Str, l.Sublist xs ∧ xs.foldl put1 acc = acc ++ l := by
  induction xs with
  | nil => intro acc; exact ⟨[], List.Sublist.slnil, by simp⟩
  | cons x xs ih =>
    intro acc
    obtain ⟨l, hl, e⟩ := ih (put1 acc x)
    rw [List.foldl_cons, e]
    unfold put1
    split
    · exact ⟨l, hl.cons x, rfl⟩
    · exact ⟨x :: l, hl.cons_cons x, by simp⟩
theorem foldl_nodup (xs : List Str) : ∀ acc : List Str, acc.Nodup → (xs.foldl put1 acc).Nodup := by
  induction xs with
  | nil => intro acc h; exact h
  | cons x xs ih =>
    intro acc h
    refine ih _ ?_
    unfold put1
    split
    · exact h
    · rename_i hx
      rw [List.nodup_append]
      refine ⟨h, by simp, ?_⟩
      intro a ha b hb
      have := List.mem_singleton.mp hb
      subst this
      intro e
      subst e
      exact hx ha
theorem foldl_mem (xs : List Str) (z : Str) : ∀ acc : List Str, z ∈ xs.foldl put1 acc ↔ z ∈ acc ∨ z ∈ xs := by
  induction xs with
  | nil => intro acc; simp
  | cons x xs ih =>
    intro acc
    rw [List.foldl_cons, ih]
    unfold put1
    split
    · rename_i hx
      constructor
      · rintro (h | h)
        · exact .inl h
        · exact .inr (List.mem_cons_of_mem _ h)
      · rintro (h | h)
        · exact .inl h
        · rcases List.mem_cons.mp h with rfl | h
          · exact .inl hx
          · exact .inr h
    · simp only [List.mem_append, List.mem_singleton, List.mem_cons, List.not_mem_nil, or_false]
      constructor
      · rintro ((h | h) | h)
        · exact .inl h
        · exact .inr (.inl h)
        · exact .inr (.inr h)
      · rintro (h | h | h)
        · exact .inl (.inl h)
        · exact .inl (.inr h)
        · exact .inr h
theorem mem_asc {xs : List Str} {z : Str} : z ∈ asc xs ↔ z ∈ xs := by
  unfold asc ddup
  rw [foldl_mem]
  simp [(srt_perm xs).mem_iff]
structure Up (l : List Str) : Prop where
  pw : l.Pairwise (fun a b => leS a b = true)
  nd : l.Nodup
theorem up_asc (xs : List Str) : Up (asc xs) := by
  obtain ⟨l, hl, e⟩ := foldl_sub (srt xs) []
  have e' : asc xs = l := by unfold asc ddup; rw [e]; simp
  refine ⟨?_, foldl_nodup _ _ List.nodup_nil⟩
  rw [e']
  exact (srt_pw xs).sublist hl
theorem Up.filter {l : List Str} (h : Up l) (p : Str → Bool) : Up (l.filter p) := ⟨h.pw.sublist List.filter_sublist, h.nd.sublist List.filter_sublist⟩
theorem Up.eq {l m : List Str} (h : Up l) (k : Up m) (e : ∀ x, x ∈ l ↔ x ∈ m) : l = m :=
  List.Perm.eq_of_pairwise (fun a b _ _ h1 h2 => leS_anti a b h1 h2) h.pw k.pw ((List.perm_ext_iff_of_nodup h.nd k.nd).mpr e)
theorem Up.asc {l : List Str} (h : Up l) : Lw.asc l = l := (up_asc l).eq h fun x => mem_asc
end Lw
namespace Lw
open PySem L2 Mo
section
variable {C : HC} {a N : Nat} {h g : MH} {S S1 : HS} {L L1 : HL} {m l : Str}
theorem check_member_ok (A : HAt C a h S L) (hm : m ∈ C.ms) : m_House_check_member [.ref a, .str m] h = .ok .non h := by
  simp -implicitDefEqProofs [m_House_check_member, mDef_ev, b_House_check_member, eV, -fNotInA_ev, A.fH, A.inM, hm]
theorem check_lane_ok (A : HAt C a h S L) (hl : l ∈ C.ls) : m_House_check_lane [.ref a, .str l] h = .ok .non h := by
  simp -implicitDefEqProofs [m_House_check_lane, mDef_ev, b_House_check_lane, eV, -fNotInA_ev, A.fH, A.inL, hl]
def AWs : List Str := ["works", "late", "ghost", "ghost+"]
theorem at_work_eq (p : Str) (h : MH) : m_at_work [.str p] h = .ok (.bl (decide (p ∈ AWs))) h := by
  refine gc_okE ⟨[], ?_⟩ rfl
  have q : fInA (.str p) k_AT_WORK h = some (.bl (decide (p ∈ AWs)), h) := fIn_ktps (a := AWs)
  simp -implicitDefEqProofs [mDef_ev, b_at_work, eV, -fInA_ev, q]
def bare (st own : Str) : Str := if st = "lost" then (if own ∈ AWs then "ghost" else if own = "dealt" then "latent" else "out") else "out"
def HS.place (S : HS) (m l : Str) : Str := if S.status m = "in" then S.own m l else if l ∈ S.awaits m then bare (S.status m) (S.own m l) ++ "+" else bare (S.status m) (S.own m l)
end
end Lw
namespace Lw
open PySem L2 Mo
section
variable {C : HC} {a N : Nat} {h g : MH} {S S1 : HS} {L L1 : HL} {m l : Str}
theorem place_ok (A : HAt C a h S L) (hm : m ∈ C.ms) (hl : l ∈ C.ls) : m_House_place [.ref a, .str m, .str l] h = .ok (.str (S.place m l)) h := by
  have c1 := check_member_ok A hm
  have c2 := check_lane_ok A hl
  have k1 : ∀ n f as s, KMt (.ok (.ref a) h) "House" "check_member" n f as s = KMt2 (as s h) n f (.ref a) := fun n f as s => A.cl rfl
  have k2 : ∀ n f as s, KMt (.ok (.ref a) h) "House" "check_lane" n f as s = KMt2 (as s h) n f (.ref a) := fun n f as s => A.cl rfl
  have i1 := A.ixM hm
  have i2 := A.ixO hm hl
  have i3 := A.isA hm
  have i4 := A.fA hm
  have i5 := fIn_strs (x := l) (A.obj (.awl m) hm)
  have aw := fun p => at_work_eq p h
  have pl : ∀ p : Str, p.length ≤ 6 → fAdd (.str p) (.str "+") h = some (.str (p ++ "+"), h) := fun p hp => by
    rw [fAdd_str, if_pos]
    show p.length + (Str.ofString "+").length ≤ 16777216
    have : (Str.ofString "+").length = 1 := by decide
    omega
  have g1 := pl "ghost" (by decide)
  have g2 := pl "latent" (by decide)
  have g3 := pl "out" (by decide)
  have nd : ¬ (Str.ofString "dealt") ∈ AWs := by decide
  by_cases h1 : S.status m = "in"
  · simp -implicitDefEqProofs [m_House_place, mDef_ev, b_House_place, eV, -fIxA_ev, -fInA_ev, k1, k2, c1, c2, A.fH, i1, i2, h1, HS.place]
  · by_cases h2 : S.status m = "lost"
    · by_cases h3 : S.own m l ∈ AWs
      · by_cases h5 : l ∈ S.awaits m <;>
        simp -implicitDefEqProofs [m_House_place, mDef_ev, b_House_place, eV, -fIxA_ev, -fInA_ev, k1, k2, c1, c2, A.fH, i1, i2, h1, h2, h3, h5, i3, i4, i5, aw, HS.place, bare, m_Share___contains__, b_Share___contains__, g1, g2, g3, nd, -fAdd_str]
      · by_cases h4 : S.own m l = "dealt" <;> by_cases h5 : l ∈ S.awaits m <;>
        simp -implicitDefEqProofs [m_House_place, mDef_ev, b_House_place, eV, -fIxA_ev, -fInA_ev, k1, k2, c1, c2, A.fH, i1, i2, h1, h2, h3, h4, h5, i3, i4, i5, aw, HS.place, bare, m_Share___contains__, b_Share___contains__, g1, g2, g3, nd, -fAdd_str]
    · by_cases h5 : l ∈ S.awaits m <;>
      simp -implicitDefEqProofs [m_House_place, mDef_ev, b_House_place, eV, -fIxA_ev, -fInA_ev, k1, k2, c1, c2, A.fH, i1, i2, h1, h2, h5, i3, i4, i5, aw, HS.place, bare, m_Share___contains__, b_Share___contains__, g1, g2, g3, nd, -fAdd_str]
end
end Lw
namespace Lw
open PySem L2 Mo
section
variable {C : HC} {a N : Nat} {h g : MH} {S S1 : HS} {L L1 : HL} {m l : Str}
theorem dc_lanes {it mk mv : ME} {j : Nat} {us : List Nat} {s : Lo} {i : Nat} {v : MV} {xs : List Str} (e : it s h = .ok (.ref i) h) (q : h[i]? = some (.lst (xs.map .str))) (nd : xs.Nodup) (hl : xs.length < 64)
    (hk : ∀ x h, mk ((wipeM s us).set j (some (.str x))) h = .ok (.str x) h) (hv : ∀ x h, mv ((wipeM s us).set j (some (.str x))) h = .ok v h) :
    eDc it (gN j) bYes mk mv us s h = .ok (.ref h.length) (h ++ [.dk (dkm xs fun _ => v)]) := dc_strs e q nd hl (fun x _ acc => hk x _) (fun x _ acc => hv x _)
theorem share_mk {as : MEs} {s : Lo} {i : Nat} {xs : List Str} {H : MH} (e : as s H = .ok [.ref i] h) (q : h[i]? = some (.lst (xs.map .str))) (hl : xs.length < 64) :
    eMk "Share" 1 0 2 m_Share___init__ gPos as aNil s H = .ok (.ref h.length) (h ++ [.ins "Share" [("lanes", .ref (h.length + 2))], .lst (xs.map .str), .lst ((asc xs).map .str)]) := by
  have q1 : (h ++ [MO.ins "Share" []])[i]? = some (.lst (xs.map .str)) := app_at q
  have A := asc_eq (h := h ++ [MO.ins "Share" []] ++ [.lst (xs.map .str)]) (i := h.length + 1) (xs := xs) (by simp [at_app]) hl
  have A' : m_ascending [.ref (h.length + 1)] (h ++ [MO.ins "Share" [], .lst (xs.map .str)]) = .ok (.ref (h.length + 2)) (h ++ [MO.ins "Share" [], .lst (xs.map .str), .lst ((asc xs).map .str)]) := by simpa using A
  have P : ∀ cs, "Share" ∈ cs → putI "lanes" cs (.ref h.length) (.ref (h.length + 2)) (h ++ [MO.ins "Share" [], .lst (xs.map .str), .lst ((asc xs).map .str)]) = some (h ++ [MO.ins "Share" [("lanes", .ref (h.length + 2))], .lst (xs.map .str), .lst ((asc xs).map .str)]) := fun cs hc => by
    rw [putI_ref (c := "Share") (fs := []) (by simp [at_app]), if_pos ⟨hc, by decide⟩]
    simp [List.set_append_right]
  have R : fList [.ref i] (h ++ [MO.ins "Share" []]) = some (.ref (h.length + 1), h ++ [MO.ins "Share" [], .lst (xs.map .str)]) := by
    rw [fList_ref q1]; simp
  simp -implicitDefEqProofs [e, gPos, m_Share___init__, b_Share___init__, mDef_ev, eV, R, A', P]
theorem asc_nil : asc [] = [] := by
  apply List.eq_nil_of_length_eq_zero
  have := asc_len []
  simpa using this
theorem share_mk0 {s : Lo} : eMk "Share" 1 0 2 m_Share___init__ gPos (aCons (eA fLst aNil) aNil) aNil s h = .ok (.ref (h.length + 1)) (h ++ [.lst [], .ins "Share" [("lanes", .ref (h.length + 3))], .lst [], .lst []]) := by
  have := share_mk (s := s) (as := aCons (eA fLst aNil) aNil) (H := h) (h := h ++ [.lst []]) (i := h.length) (xs := []) (by simp) at_app0 (by decide)
  rw [this, asc_nil]
  simp
end
end Lw
namespace Lw
open PySem L2 Mo
section
variable {C : HC} {a N : Nat} {h g : MH} {S S1 : HS} {L L1 : HL} {m l : Str}
def HS.addCall (S : HS) (m : Str) : HS := { S with letters := fset S.letters m (S.letters m ++ [S.nlt]), lt := nset S.lt S.nlt .call, nlt := S.nlt + 1 }
def HS.enter0 (S : HS) (m : Str) : HS := { S with status := fset S.status m "in", answered := fset S.answered m false, awaits := fset S.awaits m [], own := fset S.own m fun _ => "idle" }
def HS.enter (S : HS) (m : Str) : HS := if S.called = true then (S.enter0 m).addCall m else S.enter0 m
theorem enter_ok (A : HAt C a h S L) (hC : COk C) (hm : m ∈ C.ms) (hs : S.status m = "out") (hll : (S.letters m).length < SZ) (hlb : ∀ x ∈ C.ms, ∀ k ∈ S.letters x, k < S.nlt) :
    ∃ h' L', m_House_enter [.ref a, .str m] h = .ok .non h' ∧ HAt C a h' (S.enter m) L' ∧ Fr h.length C h S L h' (S.enter m) L' := by
  have k1 : ∀ n f as s, KMt (.ok (.ref a) h) "House" "check_member" n f as s = KMt2 (as s h) n f (.ref a) := fun n f as s => A.cl rfl
  obtain ⟨h1, p1, A1, F1⟩ := A.setStatus hC (Nat.le_refl _) hm "in"
  obtain ⟨h2, p2, A2, F2⟩ := A1.setAns (N := h.length) hC F1.le hm false
  have sm := fun s => share_mk0 (h := h2) (s := s)
  obtain ⟨h3, p3, A3, F3⟩ := A2.newAw (N := h.length) hC (F1.trans F2).le hm [] (g := [.lst [], .ins "Share" [("lanes", .ref (h2.length + 3))], .lst [], .lst []]) (n := h2.length + 1) (n1 := h2.length + 3) (by omega) (by omega) (by simp [at_app]) (by simp [at_app])
  have D := dc_lanes (it := e1 (fFld "lanes" ["Share", "House"]) (eV 0)) (mk := ZK0_House_enter) (mv := Z0_House_enter) (j := 2) (us := [2]) (s := [some (.ref a), some (.str m), none]) (h := h3) (v := .str "idle") (by simp [eV, A3.fH]) (A3.obj .lanes trivial) hC.nl hC.ll (by simp [ZK0_House_enter, eV, wipeM]) (by simp [Z0_House_enter])
  obtain ⟨h4, p4, A4, F4⟩ := A3.newOwn (N := h.length) hC (F1.trans (F2.trans F3)).le hm (fun _ => "idle") (g := [.dk (dkm C.ls fun _ => .str "idle")]) (Nat.le_refl _) at_app0
  have FF := F1.trans (F2.trans (F3.trans F4))
  have g1 := (A2.app [.lst [], .ins "Share" [("lanes", .ref (h2.length + 3))], .lst [], .lst []]).fH
  have g2 := (A3.app [.dk (dkm C.ls fun _ => .str "idle")]).fH
  cases hc : S.called with
  | false =>
    have es : S.enter m = S.enter0 m := by simp [HS.enter, hc]
    rw [es]
    refine ⟨h4, _, ?_, A4, FF⟩
    have f4 := A4.fH
    simp only [hc] at f4
    simp -implicitDefEqProofs [m_House_enter, b_House_enter, mDef_ev, eV, -fIxA_ev, k1, check_member_ok A hm, A.fH, A.ixM hm, hs, p1, A1.fH, p2, -eMk_ev, sm, g1, p3, D, g2, p4, f4]
  | true =>
    have es : S.enter m = (S.enter0 m).addCall m := by simp [HS.enter, hc]
    rw [es]
    obtain ⟨h5, p5, A5, F5⟩ := A4.appCall (N := h.length) (n := h4.length) (g := [.ins "Call" []]) FF.le hm hll hlb (Nat.le_refl _) at_app0
    refine ⟨h5, _, ?_, A5, FF.trans F5⟩
    have f4 := A4.fH
    simp only [hc] at f4
    have il := isL_ref (A4.obj (.lets m) hm)
    simp -implicitDefEqProofs [m_House_enter, b_House_enter, mDef_ev, eV, -fIxA_ev, k1, check_member_ok A hm, A.fH, A.ixM hm, hs, p1, A1.fH, p2, -eMk_ev, sm, g1, p3, D, g2, p4, f4, A4.ixM hm, il, p5]
theorem still_lost_eq (A : HAt C a h S L) (hm : m ∈ C.ms) : m_House_is_still_lost [.ref a, .str m] h = .ok (.bl (decide (S.status m = "lost") && decide ((C.eb m).out = "wait"))) h := by
  by_cases h1 : S.status m = "lost"
  · simp -implicitDefEqProofs [m_House_is_still_lost, b_House_is_still_lost, mDef_ev, eV, -fIxA_ev, A.fH, A.ixM hm, A.fE hm, h1]
    by_cases e : (C.eb m).out = "wait" <;> simp [e]
  · simp -implicitDefEqProofs [m_House_is_still_lost, b_House_is_still_lost, mDef_ev, eV, -fIxA_ev, A.fH, A.ixM hm, A.fE hm, h1]
theorem aw_len (A : HAt C a h S L) (hm : m ∈ C.ms) (hl : (S.awaits m).length < 1000) {s : Lo} {ms : MEs} (e : ms s h = .ok [.ref (L (.aw m))] h) : eLenO [("Share", m_Share___len__)] ms s h = .ok (.int (S.awaits m).length) h := by
  have K2 : KL2 (.ok (.int (S.awaits m).length) h) = .ok (.int (S.awaits m).length) h := KL2_ok (by omega)
  have e2 : h[L (.awl m)]? = some (.lst ((S.awaits m).map .str)) := A.obj (.awl m) hm
  simp -implicitDefEqProofs [e, A.isA hm, m_Share___len__, b_Share___len__, mDef_ev, eV, A.fA hm, fLen, e2, K2]
end
end Lw
namespace Lw
open PySem L2 Mo
section
variable {C : HC} {a N : Nat} {h g : MH} {S S1 : HS} {L L1 : HL} {m l : Str}
theorem led_get (A : HAt C a h S L) (hl : l ∈ C.ls) : m_Ledger___getitem__ [.ref (L .owner), .str l] h = .ok (ov (S.owner l)) h := by
  simp -implicitDefEqProofs [m_Ledger___getitem__, b_Ledger___getitem__, mDef_ev, eV, -fNotInA_ev, -fIxA_ev, A.fO, A.inL, A.ixL hl, hl]
theorem not_mem_take {xs : List Str} (nd : xs.Nodup) {k : Nat} (hk : k < xs.length) : xs[k] ∉ xs.take k := fun z => by
  obtain ⟨q, hq, e⟩ := List.mem_take_iff_getElem.mp z
  have := (List.getElem_inj nd).mp e
  omega
end
end Lw
namespace Lw
open PySem L2 Mo
section
variable {C : HC} {a N : Nat} {h g : MH} {S S1 : HS} {L L1 : HL} {m l : Str}
def lvz (z : Option MV) (xs : List Str) : Option MV := match xs.getLast? with
  | none => z
  | some x => some (.str x)
theorem lvz_succ {z : Option MV} {xs : List Str} {k : Nat} (hk : k < xs.length) : lvz z (xs.take (k + 1)) = some (.str xs[k]) := by
  unfold lvz
  rw [List.take_succ_eq_append_getElem hk, List.getLast?_concat]
theorem forD_find {it : ME} {j : Nat} {b : MS} {v : MV} {p : Str → Bool} {sf : Option MV → Lo} {z0 : Option MV} (A : HAt C a h S L) (lk : S.lock = none) (e : ∀ S' h' z, HAt C a h' S' L → it (sf z) h' = .ok (.ref (L .eds)) h')
    (hs : ∀ z x, (sf z).set j x = sf x) (hit : ∀ S' h' x, HAt C a h' S' L → (∃ o, S' = { S with lock := o }) → x ∈ C.ms → b (sf (some (.str x))) h' = if p x = true then .rt v h' else .nx (sf (some (.str x))) h') :
    sForD it (gN j) b (sf z0) h = if C.ms.any p = true then .rt v h else .nx (sf (lvz z0 C.ms)) h := by
  have q : h[L .eds]? = some (.dk (dkm C.ms fun m => .ref (L (.ed m)))) := by have := A.obj .eds trivial; simpa only [hobj, objW, lk, lkO] using this
  have hlt := A.lt (t := .eds) trivial
  refine sForD_at (e _ _ _ A) q (fun od vs => e _ _ _ (A.locked od vs)) fun od vs => ?_
  have AL := A.locked od vs
  have qs : (h.set (L .eds) (.fdk od vs (dkm C.ms fun m => .ref (L (.ed m)))))[L .eds]? = some (.fdk od vs (dkm C.ms fun m => .ref (L (.ed m)))) := List.getElem?_set_self hlt
  have R : forG (getFD od vs (L .eds)) (gN j) b ((dkm C.ms fun m => .ref (L (.ed m))).length + 1) 0 (sf z0) (h.set (L .eds) (.fdk od vs (dkm C.ms fun m => .ref (L (.ed m))))) = if C.ms.any p = true then .rt v (h.set (L .eds) (.fdk od vs (dkm C.ms fun m => .ref (L (.ed m))))) else .nx (sf (lvz z0 C.ms)) (h.set (L .eds) (.fdk od vs (dkm C.ms fun m => .ref (L (.ed m))))) := by
    rw [dkm_len]
    refine forG_inv (N := C.ms.length) (fun k s h' => s = sf (lvz z0 (C.ms.take k)) ∧ h' = h.set (L .eds) (.fdk od vs (dkm C.ms fun m => .ref (L (.ed m)))) ∧ (C.ms.take k).any p = false)
      (fun r => r = if C.ms.any p = true then .rt v (h.set (L .eds) (.fdk od vs (dkm C.ms fun m => .ref (L (.ed m))))) else .nx (sf (lvz z0 C.ms)) (h.set (L .eds) (.fdk od vs (dkm C.ms fun m => .ref (L (.ed m)))))) ?_ ?_ C.ms.length 0 _ _ (by simp) ⟨rfl, rfl, rfl⟩
    · rintro s h' ⟨rfl, rfl, hn⟩
      rw [List.take_length] at hn
      refine ⟨?_, ?_⟩
      · rw [getFD_at qs, dkm, List.getElem?_map, List.getElem?_eq_none (Nat.le_refl _)]; rfl
      · rw [List.take_length, if_neg (by rw [hn]; decide)]
    · rintro k s h' hk ⟨rfl, rfl, hn⟩
      refine ⟨.str C.ms[k], sf (some (.str C.ms[k])), ?_, ?_, ?_⟩
      · rw [getFD_at qs, dkm, List.getElem?_map, List.getElem?_eq_getElem hk]; rfl
      · show some ((sf _).set j (some (.str C.ms[k]))) = _
        rw [hs]
      · rw [hit _ _ _ AL ⟨_, rfl⟩ (List.getElem_mem hk)]
        by_cases c : p C.ms[k] = true
        · rw [if_pos c]
          show (_ : SR) = _
          rw [if_pos (List.any_eq_true.mpr ⟨_, List.getElem_mem hk, c⟩)]
        · rw [if_neg c, turn_nx]
          refine ⟨by rw [lvz_succ hk], rfl, ?_⟩
          rw [List.take_succ_eq_append_getElem hk, List.any_append, hn]
          simpa using c
  rw [R]
  by_cases c : C.ms.any p = true
  · rw [if_pos c, if_pos c, unlD_rt qs, set_back q]
  · rw [if_neg c, if_neg c, unlD_nx qs, set_back q]
def HS.waited (S : HS) (C : HC) (l : Str) : Bool := C.ms.any fun m => decide (l ∈ S.awaits m)
theorem waited_eq (A : HAt C a h S L) (lk : S.lock = none) : m_House_is_waited_for [.ref a, .str l] h = .ok (.bl (S.waited C l)) h := by
  have F := forD_find (it := e1 (fFld "editions" ["House"]) (eV 0)) (j := 2) (b := L0_House_is_waited_for) (v := .bl true) (p := fun m => decide (l ∈ S.awaits m)) (sf := fun z => [some (.ref a), some (.str l), z]) (z0 := none) A lk
    (fun S' h' z A' => by simp [eV, A'.fH]) (fun z x => rfl) (by
      rintro S' h' x A' ⟨o, rfl⟩ hx
      have i5 := fIn_strs (x := l) (A'.obj (.awl x) hx)
      by_cases c : l ∈ S.awaits x
      · simp -implicitDefEqProofs [L0_House_is_waited_for, eV, -fIxA_ev, -fInA_ev, A'.fH, A'.ixM hx, A'.isA hx, A'.fA hx, i5, c, m_Share___contains__, b_Share___contains__, mDef_ev]
      · simp -implicitDefEqProofs [L0_House_is_waited_for, eV, -fIxA_ev, -fInA_ev, A'.fH, A'.ixM hx, A'.isA hx, A'.fA hx, i5, c, m_Share___contains__, b_Share___contains__, mDef_ev])
  have e : m_House_is_waited_for [.ref a, .str l] h = KD ((sForD (e1 (fFld "editions" ["House"]) (eV 0)) (gN 2) L0_House_is_waited_for [some (.ref a), some (.str l), none] h).nxt (sRet (eC (.bl false)))) := by
    simp -implicitDefEqProofs [m_House_is_waited_for, b_House_is_waited_for, mDef_ev]
  rw [e, F]
  unfold HS.waited
  by_cases c : (C.ms.any fun m => decide (l ∈ S.awaits m)) = true
  · rw [if_pos c, c]; rfl
  · rw [if_neg c]
    simp only [Bool.not_eq_true] at c
    rw [c]; rfl
def HS.inB (S : HS) (C : HC) : List Str := C.ms.filter fun m => decide (S.status m = "in")
theorem members_in_eq (A : HAt C a h S L) (hC : COk C) (lk : S.lock = none) : m_House_members_in [.ref a] h = .ok (.ref h.length) (h ++ [.lst ((S.inB C).map .str)]) := by
  have q : h[L .eds]? = some (.dk (dkm C.ms fun m => .ref (L (.ed m)))) := by have := A.obj .eds trivial; simpa only [hobj, objW, lk, lkO] using this
  have F := lcD_strs (it := e1 (fFld "editions" ["House"]) (eV 0)) (c := ZT0_House_members_in) (me := Z0_House_members_in) (j := 1) (us := [1]) (s := [some (.ref a), none]) (h := h) (i := L .eds) (xs := C.ms) (F := fun m => .ref (L (.ed m))) (p := fun m => decide (S.status m = "in"))
    (by simp [eV, A.fH]) q hC.ml (fun od vs => by simp [eV, (A.locked od vs).fH]) (by
      intro od vs x hx acc
      have A' := (A.locked od vs).app [.lst acc]
      have i1 := A'.ixM hx
      by_cases c : S.status x = "in" <;> simp -implicitDefEqProofs [ZT0_House_members_in, eV, wipeM, -fIxA_ev, A'.fH, i1, c]) (by intro od vs x hx acc; simp [Z0_House_members_in, eV, wipeM])
  simp -implicitDefEqProofs [m_House_members_in, b_House_members_in, mDef_ev, F, HS.inB]
end
end Lw
namespace Lw
open PySem L2 Mo
section
variable {C : HC} {a N : Nat} {h g : MH} {S S1 : HS} {L L1 : HL} {m l : Str}
def HS.callDue (S : HS) (C : HC) : Bool := !S.called && (!(S.inB C).isEmpty && C.ls.any fun l => (S.owner l).isNone && !S.waited C l)
theorem call_due_eq (A : HAt C a h S L) (hC : COk C) (lk : S.lock = none) : ∃ g, m_House_call_is_due [.ref a] h = .ok (.bl (S.callDue C)) (h ++ g) := by
  have k1 : ∀ n f as s, KMt (.ok (.ref a) h) "House" "members_in" n f as s = KMt2 (as s h) n f (.ref a) := fun n f as s => A.cl rfl
  have f1 := A.fH
  cases hc : S.called with
  | true =>
    simp only [hc] at f1
    refine ⟨[], ?_⟩
    simp -implicitDefEqProofs [m_House_call_is_due, b_House_call_is_due, mDef_ev, eV, f1, HS.callDue, hc]
  | false =>
    simp only [hc] at f1
    have MI := members_in_eq A hC lk
    generalize hg : ([.lst ((S.inB C).map .str)] : MH) = g at *
    have ln : fLen [.ref h.length] (h ++ g) = some (.int (S.inB C).length, h ++ g) := by
      have : (h ++ g)[h.length]? = some (.lst ((S.inB C).map .str)) := by rw [← hg]; exact at_app0
      simp [fLen, this]
    cases hi : S.inB C with
    | nil =>
      refine ⟨g, ?_⟩
      rw [hi] at ln
      simp -implicitDefEqProofs [m_House_call_is_due, b_House_call_is_due, mDef_ev, eV, f1, k1, MI, ln, HS.callDue, hc, hi]
    | cons y ys =>
      refine ⟨g, ?_⟩
      have A' := A.app g
      have ne : ¬ ((ys.length : Int) + 1 = 0) := by omega
      have K : ∀ s, KFo (.ok (.ref (L .lanes)) (h ++ g)) (gN 1) L0_House_call_is_due s = forG (getSeq (.ref (L .lanes))) (gN 1) L0_House_call_is_due ((C.ls.map MV.str).length + 1) 0 s (h ++ g) := fun s => KFo_ref (A'.obj .lanes trivial)
      have R : ∃ x1, forG (getSeq (.ref (L .lanes))) (gN 1) L0_House_call_is_due ((C.ls.map MV.str).length + 1) 0 [some (.ref a), none] (h ++ g) = if (C.ls.any fun l => (S.owner l).isNone && !S.waited C l) = true then .rt (.bl true) (h ++ g) else .nx [some (.ref a), x1] (h ++ g) := by
        refine forS_inv (xs := C.ls.map .str) (fun k s h' => ∃ x1, s = [some (.ref a), x1] ∧ h' = h ++ g ∧ ((C.ls.take k).any fun l => (S.owner l).isNone && !S.waited C l) = false)
          (fun r => ∃ x1, r = if (C.ls.any fun l => (S.owner l).isNone && !S.waited C l) = true then .rt (.bl true) (h ++ g) else .nx [some (.ref a), x1] (h ++ g)) ⟨none, rfl, rfl, rfl⟩ ?_ ?_ ?_
        · rintro k s h' ⟨x1, rfl, rfl, _⟩
          exact seqOf_ref (A'.obj .lanes trivial)
        · rintro k s h' hk ⟨x1, rfl, rfl, hn⟩
          rw [List.length_map] at hk
          refine ⟨_, rfl, ?_⟩
          rw [List.getElem_map]
          have hx : C.ls[k] ∈ C.ls := List.getElem_mem hk
          have G := led_get A' hx
          have Wt := waited_eq (l := C.ls[k]) A' lk
          have IO := A'.isO
          have k2 : ∀ n f as s, KMt (.ok (.ref a) (h ++ g)) "House" "is_waited_for" n f as s = KMt2 (as s (h ++ g)) n f (.ref a) := fun n f as s => A'.cl rfl
          have T : L0_House_call_is_due [some (.ref a), some (.str C.ls[k])] (h ++ g) = if ((S.owner C.ls[k]).isNone && !S.waited C C.ls[k]) = true then .rt (.bl true) (h ++ g) else .nx [some (.ref a), some (.str C.ls[k])] (h ++ g) := by
            cases q : S.owner C.ls[k] with
            | none =>
              rw [q] at G
              cases w : S.waited C C.ls[k] <;> rw [w] at Wt <;> simp -implicitDefEqProofs [L0_House_call_is_due, eV, A'.fH, IO, G, ov, k2, Wt]
            | some z => rw [q] at G; simp -implicitDefEqProofs [L0_House_call_is_due, eV, A'.fH, IO, G, ov]
          show Turn _ _ (L0_House_call_is_due [some (.ref a), some (.str C.ls[k])] (h ++ g))
          rw [T]
          by_cases c : ((S.owner C.ls[k]).isNone && !S.waited C C.ls[k]) = true
          · rw [if_pos c]
            refine ⟨none, ?_⟩
            rw [if_pos (List.any_eq_true.mpr ⟨_, hx, c⟩)]
          · rw [if_neg c, turn_nx]
            refine ⟨_, rfl, rfl, ?_⟩
            rw [List.take_succ_eq_append_getElem hk, List.any_append, hn]
            simpa using c
        · rintro s h' ⟨x1, rfl, rfl, hn⟩
          rw [List.length_map, List.take_length] at hn
          exact ⟨x1, by rw [if_neg (by rw [hn]; decide)]⟩
      obtain ⟨x1, R⟩ := R
      simp only [List.length_map] at K R
      by_cases c : (C.ls.any fun l => (S.owner l).isNone && !S.waited C l) = true
      · rw [if_pos c] at R
        simp -implicitDefEqProofs [m_House_call_is_due, b_House_call_is_due, mDef_ev, eV, f1, k1, MI, ln, ne, A'.fH, K, R, HS.callDue, hc, hi, c]
      · rw [if_neg c] at R
        simp only [Bool.not_eq_true] at c
        simp -implicitDefEqProofs [m_House_call_is_due, b_House_call_is_due, mDef_ev, eV, f1, k1, MI, ln, ne, A'.fH, K, R, HS.callDue, hc, hi, c]
def HS.dueTo (S : HS) (C : HC) (l : Str) : Option Str := if S.waited C l = true then none else match S.owner l with
  | some x => some x
  | none => (S.inB C).head?
theorem putM_app {xs : List Str} {f : Str → MV} {k : Str} {v : MV} (hk : k ∉ xs) : putM (dkm xs f) (Sum.inr k) v = dkm xs f ++ [(Sum.inr k, v)] := by
  unfold putM
  rw [if_neg]
  simp only [dkm, List.any_map, Bool.not_eq_true]
  rw [List.any_eq_false]
  intro x hx
  simp only [Function.comp, decide_eq_true_eq]
  intro e
  cases e
  exact hk hx
theorem due_deal_eq (A : HAt C a h S L) (hC : COk C) (lk : S.lock = none) : m_House_due_dealing [.ref a] h = .ok (.ref h.length) (h ++ [.dk (dkm C.ls fun l => ov (S.dueTo C l)), .lst ((S.inB C).map .str)]) := by
  have A1 := A.app [.dk []]
  have MI := members_in_eq A1 hC lk
  have k1 : ∀ n f as s, KMt (.ok (.ref a) (h ++ [.dk []])) "House" "members_in" n f as s = KMt2 (as s (h ++ [.dk []])) n f (.ref a) := fun n f as s => A1.cl rfl
  have e0 : h ++ [MO.dk []] ++ [.lst ((S.inB C).map .str)] = h ++ [.dk (dkm (C.ls.take 0) fun l => ov (S.dueTo C l)), .lst ((S.inB C).map .str)] := by simp [dkm]
  have eL1 : (h ++ [MO.dk []]).length = h.length + 1 := by simp
  rw [e0, eL1] at MI
  have K : ∀ s, KFo (.ok (.ref (L .lanes)) (h ++ [.dk (dkm (C.ls.take 0) fun l => ov (S.dueTo C l)), .lst ((S.inB C).map .str)])) (gN 3) L0_House_due_dealing s = forG (getSeq (.ref (L .lanes))) (gN 3) L0_House_due_dealing ((C.ls.map MV.str).length + 1) 0 s (h ++ [.dk (dkm (C.ls.take 0) fun l => ov (S.dueTo C l)), .lst ((S.inB C).map .str)]) := fun s => KFo_ref ((A.app _).obj .lanes trivial)
  have R : ∃ x3, forG (getSeq (.ref (L .lanes))) (gN 3) L0_House_due_dealing ((C.ls.map MV.str).length + 1) 0 [some (.ref a), some (.ref h.length), some (.ref (h.length + 1)), none] (h ++ [.dk (dkm (C.ls.take 0) fun l => ov (S.dueTo C l)), .lst ((S.inB C).map .str)]) =
      .nx [some (.ref a), some (.ref h.length), some (.ref (h.length + 1)), x3] (h ++ [.dk (dkm C.ls fun l => ov (S.dueTo C l)), .lst ((S.inB C).map .str)]) := by
    refine forS_inv (xs := C.ls.map .str) (fun k s h' => ∃ x3, s = [some (.ref a), some (.ref h.length), some (.ref (h.length + 1)), x3] ∧ h' = h ++ [.dk (dkm (C.ls.take k) fun l => ov (S.dueTo C l)), .lst ((S.inB C).map .str)])
      (fun r => ∃ x3, r = .nx [some (.ref a), some (.ref h.length), some (.ref (h.length + 1)), x3] (h ++ [.dk (dkm C.ls fun l => ov (S.dueTo C l)), .lst ((S.inB C).map .str)])) ⟨none, rfl, rfl⟩ ?_ ?_ ?_
    · rintro k s h' ⟨x3, rfl, rfl⟩
      exact seqOf_ref ((A.app _).obj .lanes trivial)
    · rintro k s h' hk ⟨x3, rfl, rfl⟩
      rw [List.length_map] at hk
      refine ⟨_, rfl, ?_⟩
      rw [List.getElem_map]
      have hx : C.ls[k] ∈ C.ls := List.getElem_mem hk
      have nt := not_mem_take hC.nl hk
      have tk := take_dkm (f := fun l => ov (S.dueTo C l)) hk hC.nl
      generalize hxx : C.ls[k] = x at *
      generalize hD : (dkm (C.ls.take k) fun l => ov (S.dueTo C l)) = D at *
      have Dl : D.length < SZ := by rw [← hD, dkm_len]; have := lt64 hC.ll; have := List.length_take_le k C.ls; omega
      -- the heap with any dict there
      have H : ∀ (D' : List (Key × MV)) (_ : List Nat), D'.length < SZ → eIxO [("Ledger", m_Ledger___getitem__)] (e1 (fFld "owner" ["Slot", "House"]) (eV 0)) (eV 3) [some (.ref a), some (.ref h.length), some (.ref (h.length + 1)), some (.str x)] (h ++ [.dk D', .lst ((S.inB C).map .str)]) = .ok (ov (S.owner x)) (h ++ [.dk D', .lst ((S.inB C).map .str)]) := fun D' s _ => by
        have A' := A.app [.dk D', .lst ((S.inB C).map .str)]
        simp -implicitDefEqProofs [eV, A'.fH, A'.isO, led_get A' hx]
      have W : ∀ (D' : List (Key × MV)), eMeth "House" "is_waited_for" 2 m_House_is_waited_for (eV 0) (aCons (eV 3) aNil) [some (.ref a), some (.ref h.length), some (.ref (h.length + 1)), some (.str x)] (h ++ [.dk D', .lst ((S.inB C).map .str)]) = .ok (.bl (S.waited C x)) (h ++ [.dk D', .lst ((S.inB C).map .str)]) := fun D' => by
        have A' := A.app [.dk D', .lst ((S.inB C).map .str)]
        have k2 : ∀ n f as s, KMt (.ok (.ref a) (h ++ [.dk D', .lst ((S.inB C).map .str)])) "House" "is_waited_for" n f as s = KMt2 (as s (h ++ [.dk D', .lst ((S.inB C).map .str)])) n f (.ref a) := fun n f as s => A'.cl rfl
        simp -implicitDefEqProofs [eV, k2, waited_eq A' lk]
      have P : ∀ (D' : List (Key × MV)) v, D'.length < SZ → putA (.ref h.length) (.str x) v (h ++ [.dk D', .lst ((S.inB C).map .str)]) = some (h ++ [.dk (putM D' (Sum.inr x) v), .lst ((S.inB C).map .str)]) := fun D' v hl => by
        rw [putA_dk (k := Sum.inr x) (by simp [at_app]; rfl) rfl, if_pos hl]
        simp [List.set_append_right]
      have pp : ∀ v w, putM (putM D (Sum.inr x) v) (Sum.inr x) w = putM D (Sum.inr x) w := fun v w => by
        rw [← hD, putM_app nt, putM_app nt]
        unfold putM
        rw [if_pos (by simp)]
        rw [List.map_append]
        congr 1
        · rw [dkm, List.map_map]
          apply List.map_congr_left
          intro y hy
          simp only [Function.comp]
          rw [if_neg (by intro e; cases e; exact nt hy)]
        · simp
      have pl : ∀ v, (putM D (Sum.inr x) v).length < SZ := fun v => by rw [← hD, putM_app nt, List.length_append, dkm_len]; have := lt64 hC.ll; have := List.length_take_le k C.ls; have : SZ = 16777216 := rfl; have := hC.ll; simp; omega
      have ln : ∀ D' : List (Key × MV), fLen [.ref (h.length + 1)] (h ++ [.dk D', .lst ((S.inB C).map .str)]) = some (.int (S.inB C).length, h ++ [.dk D', .lst ((S.inB C).map .str)]) := fun D' => by simp [fLen, at_app]
      have T : L0_House_due_dealing [some (.ref a), some (.ref h.length), some (.ref (h.length + 1)), some (.str x)] (h ++ [.dk D, .lst ((S.inB C).map .str)]) = .nx [some (.ref a), some (.ref h.length), some (.ref (h.length + 1)), some (.str x)] (h ++ [.dk (putM D (Sum.inr x) (ov (S.dueTo C x))), .lst ((S.inB C).map .str)]) := by
        cases w : S.waited C x with
        | true =>
          simp only [w] at W
          simp -implicitDefEqProofs [L0_House_due_dealing, -eIxO_ev, -eMeth_ev, H _ [] Dl, H _ [] (pl _), W, eV, P _ _ Dl, P _ _ (pl _), pp, HS.dueTo, w, ov]
        | false =>
          simp only [w] at W
          cases q : S.owner x with
          | some z =>
            simp only [q] at H
            simp -implicitDefEqProofs [L0_House_due_dealing, -eIxO_ev, -eMeth_ev, H _ [] Dl, H _ [] (pl _), W, eV, P _ _ Dl, P _ _ (pl _), pp, HS.dueTo, w, q, ov]
          | none =>
            simp only [q] at H
            cases i : S.inB C with
            | nil =>
              simp only [i, List.map_nil] at H W P ln
              simp -implicitDefEqProofs [L0_House_due_dealing, -eIxO_ev, -eMeth_ev, H _ [] Dl, H _ [] (pl _), W, eV, P _ _ Dl, P _ _ (pl _), pp, ln, HS.dueTo, w, q, ov, i]
            | cons y ys =>
              simp only [i] at H W P ln
              have ix : ∀ D' : List (Key × MV), fIxA (.ref (h.length + 1)) (.int 0) (h ++ [.dk D', .lst ((y :: ys).map .str)]) = some (.str y, h ++ [.dk D', .lst ((y :: ys).map .str)]) := fun D' => by
                have e : (h ++ [MO.dk D', .lst ((y :: ys).map .str)])[h.length + 1]? = some (.lst ((y :: ys).map .str)) := by simp [at_app]
                rw [fIxA_ev, if_neg (by rw [isDM_lst e]; decide), fIx_ref e, List.map_cons, atI_0]; rfl
              have gt : (0 : Int) < ys.length + 1 := by omega
              simp only [List.map_cons] at H W P ln ix
              simp -implicitDefEqProofs [L0_House_due_dealing, -eIxO_ev, -eMeth_ev, -fIxA_ev, H _ [] Dl, H _ [] (pl _), W, eV, P _ _ Dl, P _ _ (pl _), pp, ln, ix, gt, HS.dueTo, w, q, ov, i]
      show Turn _ _ (L0_House_due_dealing [some (.ref a), some (.ref h.length), some (.ref (h.length + 1)), some (.str x)] (h ++ [.dk D, .lst ((S.inB C).map .str)]))
      rw [T, turn_nx]
      refine ⟨_, rfl, ?_⟩
      rw [tk]
    · rintro s h' ⟨x3, rfl, rfl⟩
      rw [List.length_map, List.take_length]
      exact ⟨x3, rfl⟩
  obtain ⟨x3, R⟩ := R
  have f2 := (A.app [.dk (dkm (C.ls.take 0) fun l => ov (S.dueTo C l)), .lst ((S.inB C).map .str)]).fH
  generalize h ++ [MO.dk (dkm (C.ls.take 0) fun l => ov (S.dueTo C l)), .lst ((S.inB C).map .str)] = h2 at *
  simp only [List.length_map] at K R
  simp -implicitDefEqProofs [m_House_due_dealing, b_House_due_dealing, mDef_ev, eV, k1, MI, f2, K, R]
end
end Lw
namespace Lw
open PySem L2 Mo
section
variable {m : ME} {g : MG} {b : MGn} {ys zs : List MV} {s s1 s2 : Lo} {h h0 h2 : MH} {get : Itm} {n i : Nat} {x : MV}
theorem gForD_at {kvs : List (Key × MV)} {r : GRs} (e : m s h = .ok (.ref i) h0) (q : h[i]? = some (.dk kvs))
    (e2 : ∀ od vs, m s (h.set i (.fdk od vs kvs)) = .ok (.ref i) (h.set i (.fdk od vs kvs)))
    (hr : ∀ od vs, unlG od vs i (gFoG (getFD od vs i) g b (kvs.length + 1) 0 ys s (h.set i (.fdk od vs kvs))) = r) : gForD m g b ys s h = r := by
  have hlt := (List.getElem?_eq_some_iff.mp q).1
  unfold gForD
  rw [e]
  simp only [q]
  refine uniG_eq fun od vs => ?_
  rw [← hr od vs, e2]
  have q2 : (h.set i (.fdk od vs kvs))[i]? = some (.fdk od vs kvs) := List.getElem?_set_self hlt
  unfold gFD0 gFD1
  simp only [q2, and_self, if_true]
theorem gFoG_step (e1 : get i h = some (some x)) (e2 : g x s = some s1) (e3 : b ys s1 h = (zs, .nx s2 h2)) : gFoG get g b (n + 1) i ys s h = gFoG get g b n (i + 1) zs s2 h2 := by
  conv => lhs; unfold gFoG
  rw [e1]
  simp only [e2, e3, gKT]
theorem gFoG_end (e1 : get i h = some none) : gFoG get g b (n + 1) i ys s h = (ys, .nx s h) := by
  conv => lhs; unfold gFoG
  rw [e1]
theorem gSq_nx {a c : MGn} (e : a ys s h = (zs, .nx s1 h2)) : gSq a c ys s h = c zs s1 h2 := by
  unfold gSq
  rw [e]; rfl
theorem gYld_ok {e : ME} {v : MV} (hl : ys.length < 2000) (he : e s h = .ok v h2) : gYld e ys s h = (ys ++ [v], .nx s h2) := by
  unfold gYld
  rw [if_pos (by have : SZ = 16777216 := rfl; omega), he]; rfl
theorem gIf_ok {c : MB} {a d : MGn} {k : Bool} (e : c s h = .ok k h2) : gIf c a d ys s h = if k = true then a ys s h2 else d ys s h2 := by
  unfold gIf
  rw [e]; rfl
end
section
variable {C : HC} {a N : Nat} {h g : MH} {S S1 : HS} {L L1 : HL} {m l : Str}
theorem gforD_filter {it : ME} {j : Nat} {b : MGn} {f : Str → MV} {p : Str → Bool} {sf : Option MV → Lo} {z0 : Option MV} {ys : List MV} (A : HAt C a h S L) (hC : COk C) (lk : S.lock = none) (e : ∀ S' h' z, HAt C a h' S' L → it (sf z) h' = .ok (.ref (L .eds)) h')
    (hs : ∀ z x, (sf z).set j x = sf x) (hit : ∀ S' h' x zs, HAt C a h' S' L → (∃ o, S' = { S with lock := o }) → x ∈ C.ms → zs.length < 1000 → b zs (sf (some (.str x))) h' = (if p x = true then zs ++ [f x] else zs, .nx (sf (some (.str x))) h')) (hy : ys.length < 900) :
    gForD it (gN j) b ys (sf z0) h = (ys ++ (C.ms.filter p).map f, .nx (sf (lvz z0 C.ms)) h) := by
  have q : h[L .eds]? = some (.dk (dkm C.ms fun m => .ref (L (.ed m)))) := by have := A.obj .eds trivial; simpa only [hobj, objW, lk, lkO] using this
  have hlt := A.lt (t := .eds) trivial
  refine gForD_at (e _ _ _ A) q (fun od vs => e _ _ _ (A.locked od vs)) fun od vs => ?_
  have AL := A.locked od vs
  have qs : (h.set (L .eds) (.fdk od vs (dkm C.ms fun m => .ref (L (.ed m)))))[L .eds]? = some (.fdk od vs (dkm C.ms fun m => .ref (L (.ed m)))) := List.getElem?_set_self hlt
  have key : ∀ n k, k + n = C.ms.length → gFoG (getFD od vs (L .eds)) (gN j) b (n + 1) k (ys ++ ((C.ms.take k).filter p).map f) (sf (lvz z0 (C.ms.take k))) (h.set (L .eds) (.fdk od vs (dkm C.ms fun m => .ref (L (.ed m))))) =
      (ys ++ (C.ms.filter p).map f, .nx (sf (lvz z0 C.ms)) (h.set (L .eds) (.fdk od vs (dkm C.ms fun m => .ref (L (.ed m)))))) := by
    intro n
    induction n with
    | zero =>
      intro k hk
      have hk' : k = C.ms.length := by omega
      subst hk'
      rw [gFoG_end (by rw [getFD_at qs, dkm, List.getElem?_map, List.getElem?_eq_none (Nat.le_refl _)]; rfl), List.take_length]
    | succ n ih =>
      intro k hk
      have hk' : k < C.ms.length := by omega
      have hl : (ys ++ ((C.ms.take k).filter p).map f).length < 1000 := by
        have h1 := List.length_filter_le p (C.ms.take k)
        have h2 := List.length_take_le k C.ms
        have := hC.ml
        simp only [List.length_append, List.length_map]
        omega
      rw [gFoG_step (x := .str C.ms[k]) (s1 := sf (some (.str C.ms[k]))) (by rw [getFD_at qs, dkm, List.getElem?_map, List.getElem?_eq_getElem hk']; rfl) (by show some ((sf _).set j (some (.str C.ms[k]))) = _; rw [hs]) (hit _ _ _ _ AL ⟨_, rfl⟩ (List.getElem_mem hk') hl)]
      have e1 : (if p C.ms[k] = true then ys ++ ((C.ms.take k).filter p).map f ++ [f C.ms[k]] else ys ++ ((C.ms.take k).filter p).map f) = ys ++ ((C.ms.take (k + 1)).filter p).map f := by
        rw [List.take_succ_eq_append_getElem hk', List.filter_append]
        by_cases c : p C.ms[k] = true
        · rw [if_pos c]; simp [List.filter_cons, c]
        · rw [if_neg c]; simp [List.filter_cons, c]
      rw [e1, ← lvz_succ (z := z0) hk']
      exact ih (k + 1) (by omega)
  have K := key C.ms.length 0 (by omega)
  simp only [List.take_zero, List.filter_nil, List.map_nil, List.append_nil] at K
  rw [dkm_len]
  have l0 : lvz z0 [] = z0 := rfl
  rw [l0] at K
  rw [K]
  unfold unlG
  rw [unlD_nx qs, set_back q]
def dTup (w : String) (m : Str) : MV := .tup [.str w, .str m]
def HS.dueR (S : HS) (C : HC) : List MV := (C.ms.filter fun m => decide (0 < (S.letters m).length)).map (dTup "read")
def HS.dueH (S : HS) (C : HC) : List MV := (C.ms.filter fun m => decide (S.status m = "lost")).map (dTup "hear")
def HS.dueO (S : HS) (C : HC) : List MV := (C.ms.filter fun m => decide (0 < (S.awaits m).length) && !(decide (S.status m = "lost") && decide ((C.eb m).out = "wait"))).map (dTup "over")
def HS.dueC (S : HS) (C : HC) : List MV := if S.callDue C = true then [.tup [.str "call"]] else []
def HS.dealDue (S : HS) (C : HC) : Bool := S.called && (S.inB C).all fun m => S.answered m
theorem due_ok (A : HAt C a h S L) (hC : COk C) (lk : S.lock = none) (haw : ∀ m ∈ C.ms, (S.awaits m).length < 1000) (hle : ∀ m ∈ C.ms, (S.letters m).length < SZ) :
    ∃ g dl, mg_House_due [.ref a] h = some (S.dueR C ++ S.dueH C ++ S.dueO C ++ S.dueC C ++ dl, h ++ g) ∧
      (if S.dealDue C = true then ∃ d, dl = [.tup [.str "deal", .ref d]] ∧ (h ++ g)[d]? = some (.dk (dkm C.ls fun l => ov (S.dueTo C l))) ∧ h.length ≤ d else dl = []) := by
  have ed : ∀ (x2 : Option MV) S' h' z, HAt C a h' S' L → e1 (fFld "editions" ["House"]) (eV 0) [some (.ref a), z, x2] h' = .ok (.ref (L .eds)) h' := fun x2 S' h' z A' => by simp [eV, A'.fH]
  have G1 := gforD_filter (it := e1 (fFld "editions" ["House"]) (eV 0)) (j := 1) (b := L0_House_due) (f := dTup "read") (p := fun m => decide (0 < (S.letters m).length)) (sf := fun z => [some (.ref a), z, none]) (z0 := none) (ys := []) A hC lk (ed none) (fun z x => rfl) (by
    rintro S' h' x zs A' ⟨o, rfl⟩ hx hl
    have e0 : h'[L (.lets x)]? = some (.lst ((S.letters x).map fun k => .ref (L (.ltr k)))) := A'.obj (.lets x) hx
    have ln : fLen [.ref (L (.lets x))] h' = some (.int (S.letters x).length, h') := by simp [fLen, e0]
    have c : bB (e2 fGt (eA fLen (aCons (e2 fIxA (e1 (fFld "letters" ["House"]) (eV 0)) (eV 1)) (aNil))) (eC (.int 0))) [some (.ref a), some (.str x), none] h' = .ok (decide (0 < (S.letters x).length)) h' := by
      simp -implicitDefEqProofs [eV, -fIxA_ev, A'.fH, A'.ixM hx, ln]
    show gIf _ _ _ _ _ _ = _
    rw [gIf_ok c]
    by_cases z : 0 < (S.letters x).length
    · simp only [z, decide_true, if_true]
      exact gYld_ok (by omega) (by simp [eV, SZ, dTup])
    · simp only [z, decide_false, Bool.false_eq_true, if_false]; rfl) (by decide)
  have len1 : ([] ++ (C.ms.filter fun m => decide (0 < (S.letters m).length)).map (dTup "read")).length < 100 := by
    have := List.length_filter_le (fun m => decide (0 < (S.letters m).length)) C.ms
    have := hC.ml
    simp only [List.nil_append, List.length_map]; omega
  have G2 := fun z0 => gforD_filter (it := e1 (fFld "editions" ["House"]) (eV 0)) (j := 1) (b := L1_House_due) (f := dTup "hear") (p := fun m => decide (S.status m = "lost")) (sf := fun z => [some (.ref a), z, none]) (z0 := z0) (ys := [] ++ (C.ms.filter fun m => decide (0 < (S.letters m).length)).map (dTup "read")) A hC lk (ed none) (fun z x => rfl) (by
    rintro S' h' x zs A' ⟨o, rfl⟩ hx hl
    have c : bB (e2 fEq (e2 fIxA (e1 (fFld "status" ["House"]) (eV 0)) (eV 1)) (eC (.str "lost"))) [some (.ref a), some (.str x), none] h' = .ok (decide (S.status x = "lost")) h' := by
      by_cases z : S.status x = "lost" <;> simp -implicitDefEqProofs [eV, -fIxA_ev, A'.fH, A'.ixM hx, z]
    show gIf _ _ _ _ _ _ = _
    rw [gIf_ok c]
    by_cases z : S.status x = "lost"
    · simp only [z, decide_true, if_true]
      exact gYld_ok (by omega) (by simp [eV, SZ, dTup])
    · simp only [z, decide_false, Bool.false_eq_true, if_false]; rfl) (by omega)
  generalize hY1 : ([] ++ (C.ms.filter fun m => decide (0 < (S.letters m).length)).map (dTup "read")) = Y1 at *
  have eY1 : Y1 = S.dueR C := by rw [← hY1]; rfl
  have len2 : (Y1 ++ (C.ms.filter fun m => decide (S.status m = "lost")).map (dTup "hear")).length < 200 := by
    have := List.length_filter_le (fun m => decide (S.status m = "lost")) C.ms
    have := hC.ml
    simp only [List.length_append, List.length_map]; omega
  have G3 := fun z0 => gforD_filter (it := e1 (fFld "editions" ["House"]) (eV 0)) (j := 1) (b := L2_House_due) (f := dTup "over") (p := fun m => decide (0 < (S.awaits m).length) && !(decide (S.status m = "lost") && decide ((C.eb m).out = "wait"))) (sf := fun z => [some (.ref a), z, none]) (z0 := z0) (ys := Y1 ++ (C.ms.filter fun m => decide (S.status m = "lost")).map (dTup "hear")) A hC lk (ed none) (fun z x => rfl) (by
    rintro S' h' x zs A' ⟨o, rfl⟩ hx hl
    have k2 : ∀ n f as s, KMt (.ok (.ref a) h') "House" "is_still_lost" n f as s = KMt2 (as s h') n f (.ref a) := fun n f as s => A'.cl rfl
    have al := aw_len A' hx (haw x hx) (s := [some (.ref a), some (.str x), none]) (ms := aCons (e2 fIxA (e1 (fFld "awaits" ["House"]) (eV 0)) (eV 1)) aNil) (by simp -implicitDefEqProofs [eV, -fIxA_ev, A'.fH, A'.ixM hx])
    have c : bAnd (bB (e2 fGt (eLenO [("Share", m_Share___len__)] (aCons (e2 fIxA (e1 (fFld "awaits" ["House"]) (eV 0)) (eV 1)) (aNil))) (eC (.int 0)))) (bNot (bT (eMeth "House" "is_still_lost" 2 m_House_is_still_lost (eV 0) (aCons (eV 1) (aNil))))) [some (.ref a), some (.str x), none] h' = .ok (decide (0 < (S.awaits x).length) && !(decide (S.status x = "lost") && decide ((C.eb x).out = "wait"))) h' := by
      by_cases z : 0 < (S.awaits x).length
      · simp -implicitDefEqProofs [-eLenO_ev, eV, al, k2, still_lost_eq A' hx, z]
      · simp -implicitDefEqProofs [-eLenO_ev, eV, al, z]
    show gIf _ _ _ _ _ _ = _
    rw [gIf_ok c]
    by_cases z : (decide (0 < (S.awaits x).length) && !(decide (S.status x = "lost") && decide ((C.eb x).out = "wait"))) = true
    · rw [if_pos z, if_pos z]
      exact gYld_ok (by omega) (by simp [eV, SZ, dTup])
    · rw [if_neg z, if_neg z]; rfl) (by omega)
  generalize hY2 : (Y1 ++ (C.ms.filter fun m => decide (S.status m = "lost")).map (dTup "hear")) = Y2 at *
  have eY2 : Y2 = S.dueR C ++ S.dueH C := by rw [← hY2, eY1]; rfl
  have len3 : (Y2 ++ (C.ms.filter fun m => decide (0 < (S.awaits m).length) && !(decide (S.status m = "lost") && decide ((C.eb m).out = "wait"))).map (dTup "over")).length < 300 := by
    have := List.length_filter_le (fun m => decide (0 < (S.awaits m).length) && !(decide (S.status m = "lost") && decide ((C.eb m).out = "wait"))) C.ms
    have := hC.ml
    simp only [List.length_append, List.length_map]; omega
  generalize hY3 : (Y2 ++ (C.ms.filter fun m => decide (0 < (S.awaits m).length) && !(decide (S.status m = "lost") && decide ((C.eb m).out = "wait"))).map (dTup "over")) = Y3 at *
  have eY3 : Y3 = S.dueR C ++ S.dueH C ++ S.dueO C := by rw [← hY3, eY2]; rfl
  generalize hz : lvz (lvz (lvz none C.ms) C.ms) C.ms = z at *
  obtain ⟨g4, c4⟩ := call_due_eq A hC lk
  have k4 : ∀ n f as s, KMt (.ok (.ref a) h) "House" "call_is_due" n f as s = KMt2 (as s h) n f (.ref a) := fun n f as s => A.cl rfl
  have A4 := A.app g4
  have G4 : gIf (bT (eMeth "House" "call_is_due" 1 m_House_call_is_due (eV 0) aNil)) (gYld (eA fTup (aCons (eC (.str "call")) (aNil)))) (gNx) Y3 [some (.ref a), z, none] h = (Y3 ++ S.dueC C, .nx [some (.ref a), z, none] (h ++ g4)) := by
    have c : bT (eMeth "House" "call_is_due" 1 m_House_call_is_due (eV 0) aNil) [some (.ref a), z, none] h = .ok (S.callDue C) (h ++ g4) := by simp -implicitDefEqProofs [eV, k4, c4]
    rw [gIf_ok c]
    unfold HS.dueC
    by_cases w : S.callDue C = true
    · rw [if_pos w, if_pos w]
      exact gYld_ok (by omega) (by simp [SZ])
    · rw [if_neg w, if_neg w, List.append_nil]; rfl
  have MI := members_in_eq A4 hC lk
  have k5 : ∀ n f as s, KMt (.ok (.ref a) (h ++ g4)) "House" "members_in" n f as s = KMt2 (as s (h ++ g4)) n f (.ref a) := fun n f as s => A4.cl rfl
  have inm : ∀ x ∈ S.inB C, x ∈ C.ms := fun x hx => (List.mem_filter.mp hx).1
  have LC := lc_strs (it := eMeth "House" "members_in" 1 m_House_members_in (eV 0) aNil) (c := ZT0_House_due) (me := Z0_House_due) (j := 1) (us := [1]) (s := [some (.ref a), z, none]) (h0 := h ++ g4) (h := h ++ g4 ++ [.lst ((S.inB C).map .str)]) (i := (h ++ g4).length) (xs := S.inB C) (p := fun m => !S.answered m)
    (by simp -implicitDefEqProofs [eV, k5, MI]) at_app0 (Nat.lt_of_le_of_lt (List.length_filter_le _ _) hC.ml) (by
      intro x hx acc
      have A5 := (A4.app [.lst ((S.inB C).map .str)]).app [.lst acc]
      simp -implicitDefEqProofs [ZT0_House_due, eV, wipeM, -fIxA_ev, -List.append_assoc, A5.fH, A5.ixM (inm x hx)]) (by intro x hx acc; simp [Z0_House_due, eV, wipeM])
  generalize hW : (S.inB C).filter (fun m => !S.answered m) = W at *
  have A6 := (A4.app [.lst ((S.inB C).map .str)]).app [.lst (W.map .str)]
  generalize hh6 : h ++ g4 ++ [MO.lst ((S.inB C).map .str)] ++ [.lst (W.map .str)] = h6 at *
  have e6 : ∃ g6, h6 = h ++ g6 := ⟨g4 ++ [.lst ((S.inB C).map .str)] ++ [.lst (W.map .str)], by rw [← hh6]; simp⟩
  obtain ⟨g6, e6⟩ := e6
  have w6 : h6[(h ++ g4 ++ [MO.lst ((S.inB C).map .str)]).length]? = some (.lst (W.map .str)) := by rw [← hh6]; exact at_app0
  generalize (h ++ g4 ++ [MO.lst ((S.inB C).map .str)]).length = nw at *
  have G5 : gPl (sAsg (eLc (eMeth "House" "members_in" 1 m_House_members_in (eV 0) aNil) (gN 1) (ZT0_House_due) Z0_House_due [1]) (gN 2)) (Y3 ++ S.dueC C) [some (.ref a), z, none] (h ++ g4) = (Y3 ++ S.dueC C, .nx [some (.ref a), z, some (.ref nw)] h6) := by
    unfold gPl
    simp -implicitDefEqProofs [LC]
  have len4 : (Y3 ++ S.dueC C).length < 310 := by
    unfold HS.dueC
    split <;> simp <;> omega
  have W0 : W.isEmpty = (S.inB C).all fun m => S.answered m := by
    rw [← hW]
    induction S.inB C with
    | nil => rfl
    | cons y ys ih => cases q : S.answered y <;> simp [List.filter_cons, q, ih]
  have f6 := A6.fH
  have lw : fLen [.ref nw] h6 = some (.int W.length, h6) := by simp [fLen, w6]
  have c6 : bAnd (bT (e1 (fFld "called" ["House"]) (eV 0))) (bB (e2 fEq (eA fLen (aCons (eV 2) (aNil))) (eC (.int 0)))) [some (.ref a), z, some (.ref nw)] h6 = .ok (S.dealDue C) h6 := by
    unfold HS.dealDue
    rw [← W0]
    cases hc : S.called with
    | false => simp only [hc] at f6; simp -implicitDefEqProofs [eV, f6]
    | true =>
      simp only [hc] at f6
      cases W with
      | nil => simp -implicitDefEqProofs [eV, f6, lw]
      | cons y ys =>
        have : ¬ ((ys.length : Int) + 1 = 0) := by omega
        simp -implicitDefEqProofs [eV, f6, lw, this]
  have M : ∀ r, b_House_due [] [some (.ref a), none, none] h = r → mg_House_due [.ref a] h = match r with | (ys, .nx _ h1) => some (ys, h1) | _ => none := fun r e => by
    subst e; rfl
  have B : b_House_due [] [some (.ref a), none, none] h = gIf (bAnd (bT (e1 (fFld "called" ["House"]) (eV 0))) (bB (e2 fEq (eA fLen (aCons (eV 2) (aNil))) (eC (.int 0))))) (gYld (eA fTup (aCons (eC (.str "deal")) (aCons (eMeth "House" "due_dealing" 1 m_House_due_dealing (eV 0) aNil) (aNil))))) (gNx) (Y3 ++ S.dueC C) [some (.ref a), z, some (.ref nw)] h6 := by
    unfold b_House_due
    rw [gSq_nx G1, gSq_nx (G2 _), gSq_nx (G3 _)]
    rw [hz, gSq_nx G4, gSq_nx G5]
  rw [gIf_ok c6] at B
  have fin : Y3 ++ S.dueC C = S.dueR C ++ S.dueH C ++ S.dueO C ++ S.dueC C := by rw [eY3]
  by_cases w : S.dealDue C = true
  · rw [if_pos w] at B
    have DD := due_deal_eq A6 hC lk
    have k7 : ∀ n f as s, KMt (.ok (.ref a) h6) "House" "due_dealing" n f as s = KMt2 (as s h6) n f (.ref a) := fun n f as s => A6.cl rfl
    rw [gYld_ok (v := .tup [.str "deal", .ref h6.length]) (by omega) (by simp -implicitDefEqProofs [eV, k7, DD, SZ]; rfl)] at B
    refine ⟨g6 ++ [.dk (dkm C.ls fun l => ov (S.dueTo C l)), .lst ((S.inB C).map .str)], [.tup [.str "deal", .ref h6.length]], ?_, ?_⟩
    · rw [M _ B, fin, e6, ← List.append_assoc h]
    · rw [if_pos w]
      refine ⟨_, rfl, ?_, ?_⟩
      · rw [← List.append_assoc, ← e6]; simp [at_app]
      · rw [e6]; simp
  · rw [if_neg w] at B
    refine ⟨g6, [], ?_, by rw [if_neg w]⟩
    rw [M _ B, List.append_nil, ← fin, e6]; rfl
end
end Lw
namespace Lw
open PySem L2 Mo
section
variable {C : HC} {a N : Nat} {h g : MH} {S S1 : HS} {L L1 : HL} {m l : Str}
end
end Lw
namespace Lw
open PySem L2 Mo
def ix : List Str → Str → Nat
  | [], _ => 0
  | x :: xs, y => if x = y then 0 else ix xs y + 1
theorem ix_lt : ∀ {xs : List Str} {y : Str}, y ∈ xs → ix xs y < xs.length
  | x :: xs, y, h => by
    unfold ix
    split
    · simp
    · rename_i n
      have := ix_lt ((List.mem_cons.mp h).resolve_left (Ne.symm n))
      simp; omega
theorem ix_get : ∀ {xs : List Str} {y : Str}, y ∈ xs → xs[ix xs y]? = some y
  | x :: xs, y, h => by
    unfold ix
    split
    · rename_i e; subst e; rfl
    · rename_i n
      rw [List.getElem?_cons_succ]
      exact ix_get ((List.mem_cons.mp h).resolve_left (Ne.symm n))
theorem ix_inj {xs : List Str} {y z : Str} (hy : y ∈ xs) (hz : z ∈ xs) (e : ix xs y = ix xs z) : y = z := by
  have a := ix_get hy
  have b := ix_get hz
  rw [e, b] at a
  exact (Option.some.inj a).symm
def dkI (n off : Nat) : Nat → List Str → List (Key × MV)
  | _, [] => []
  | b, x :: xs => (.inr x, .ref (b + off)) :: dkI n off (b + n) xs
def mkObjs (n : Nat) (O : Nat → Str → List MO) : Nat → List Str → List MO
  | _, [] => []
  | b, x :: xs => O b x ++ mkObjs n O (b + n) xs
section
variable {n off b : Nat} {O : Nat → Str → List MO} {xs : List Str} {x : Str}
theorem dkI_app : ∀ (xs : List Str) (b : Nat), dkI n off b (xs ++ [x]) = dkI n off b xs ++ [(.inr x, .ref (b + n * xs.length + off))]
  | [], b => by simp [dkI]
  | y :: ys, b => by
    have e : b + n + n * ys.length + off = b + n * (ys.length + 1) + off := by rw [Nat.mul_add]; omega
    simp only [List.cons_append, dkI, dkI_app ys (b + n), List.length_cons, e]
theorem mkObjs_app : ∀ (xs : List Str) (b : Nat), mkObjs n O b (xs ++ [x]) = mkObjs n O b xs ++ O (b + n * xs.length) x
  | [], b => by simp [mkObjs]
  | y :: ys, b => by
    have e : b + n + n * ys.length = b + n * (ys.length + 1) := by rw [Nat.mul_add]; omega
    simp only [List.cons_append, mkObjs, mkObjs_app ys (b + n), List.length_cons, List.append_assoc, e]
theorem mkObjs_len (hO : ∀ b x, (O b x).length = n) : ∀ (xs : List Str) (b : Nat), (mkObjs n O b xs).length = n * xs.length
  | [], b => by simp [mkObjs]
  | y :: ys, b => by simp only [mkObjs, List.length_append, hO, mkObjs_len hO ys, List.length_cons, Nat.mul_add]; omega
theorem mkObjs_get (hO : ∀ b x, (O b x).length = n) : ∀ (xs : List Str) (b : Nat) {y : Str} {k : Nat}, y ∈ xs → k < n → (mkObjs n O b xs)[n * ix xs y + k]? = (O (b + n * ix xs y) y)[k]?
  | x :: xs, b, y, k, h, hk => by
    unfold ix mkObjs
    split
    · rename_i e
      subst e
      rw [List.getElem?_append_left (by rw [hO]; omega)]
      simp
    · rename_i ne
      have ih := mkObjs_get hO xs (b + n) (k := k) ((List.mem_cons.mp h).resolve_left (Ne.symm ne)) hk
      rw [List.getElem?_append_right (by rw [hO, Nat.mul_add]; omega), hO]
      have e1 : n * (ix xs y + 1) + k - n = n * ix xs y + k := by rw [Nat.mul_add]; omega
      have e2 : b + n * (ix xs y + 1) = b + n + n * ix xs y := by rw [Nat.mul_add]; omega
      rw [e1, e2, ih]
theorem dkI_eq : ∀ (xs : List Str) (b : Nat), xs.Nodup → dkI n off b xs = dkm xs fun y => .ref (b + n * ix xs y + off)
  | [], b, _ => rfl
  | x :: xs, b, nd => by
    rw [List.nodup_cons] at nd
    simp only [dkI, dkI_eq xs (b + n) nd.2, dkm, List.map_cons]
    congr 1
    · simp [ix]
    · apply List.map_congr_left
      intro y hy
      have : ¬ x = y := fun e => nd.1 (e ▸ hy)
      simp only [ix, if_neg this, Nat.mul_add]
      congr 2
      omega
end
section
variable {h : MH}
theorem putM_dkI {n off : Nat} {xs : List Str} {x : Str} {v : MV} (hx : x ∉ xs) : ∀ (b : Nat), putM (dkI n off b xs) (Sum.inr x) v = dkI n off b xs ++ [(Sum.inr x, v)] := by
  intro b
  unfold putM
  rw [if_neg]
  intro e
  have key : ∀ (xs : List Str) b, x ∉ xs → ((dkI n off b xs).any fun kv => decide (kv.1 = Sum.inr x)) = false := by
    intro xs
    induction xs with
    | nil => intro b _; rfl
    | cons y ys ih =>
      intro b hx
      simp only [dkI, List.any_cons, ih _ (fun z => hx (List.mem_cons_of_mem _ z)), Bool.or_false, decide_eq_false_iff_not]
      intro e
      cases e
      exact hx List.mem_cons_self
  rw [key xs b hx] at e
  cases e
theorem dkI_len {n off : Nat} : ∀ (xs : List Str) (b : Nat), (dkI n off b xs).length = xs.length
  | [], b => rfl
  | y :: ys, b => by simp [dkI, dkI_len ys]
theorem set_mid {h : MH} {o o' : MO} {t : MH} : (h ++ o :: t).set h.length o' = h ++ o' :: t := by
  rw [List.set_append_right _ _ (Nat.le_refl _), Nat.sub_self]; rfl
theorem at_mid {h : MH} {o : MO} {t : MH} : (h ++ o :: t)[h.length]? = some o := by
  rw [List.getElem?_append_right (Nat.le_refl _), Nat.sub_self]; rfl
theorem dcG_new {get : Itm} {mk mv : ME} {j n off : Nat} {s : Lo} {xs : List Str} {O : Nat → Str → List MO} (hget : ∀ k t, k ≤ xs.length → get k (h ++ t) = some ((xs[k]?).map .str)) (nd : xs.Nodup) (hl : xs.length < 64)
    (hk : ∀ x ∈ xs, ∀ acc, mk (s.set j (some (.str x))) (h ++ acc) = .ok (.str x) (h ++ acc)) (hO : ∀ b x, (O b x).length = n)
    (hv : ∀ x ∈ xs, ∀ acc, mv (s.set j (some (.str x))) (h ++ acc) = .ok (.ref ((h ++ acc).length + off)) (h ++ acc ++ O (h ++ acc).length x)) :
    dcG get (gN j) bYes mk mv h.length (xs.length + 1) 0 s (h ++ [.dk []]) = .ok (.ref h.length) (h ++ .dk (dkI n off (h.length + 1) xs) :: mkObjs n O (h.length + 1) xs) := by
  refine dcG_inv (N := xs.length) (fun k h' => h' = h ++ .dk (dkI n off (h.length + 1) (xs.take k)) :: mkObjs n O (h.length + 1) (xs.take k)) (fun r => r = .ok (.ref h.length) (h ++ .dk (dkI n off (h.length + 1) xs) :: mkObjs n O (h.length + 1) xs)) ?_ ?_ xs.length 0 (h ++ [.dk []]) (by simp) rfl
  · rintro h' rfl
    refine ⟨?_, by rw [List.take_length]⟩
    rw [hget _ _ (Nat.le_refl _)]
    simp
  · rintro k h' hk' rfl
    have hx : xs[k] ∈ xs := List.getElem_mem hk'
    have nt := not_mem_take nd hk'
    have ln : (mkObjs n O (h.length + 1) (xs.take k)).length = n * k := by rw [mkObjs_len hO, List.length_take, Nat.min_eq_left (by omega)]
    have tl : (xs.take k).length = k := by rw [List.length_take, Nat.min_eq_left (by omega)]
    have L1 : (h ++ MO.dk (dkI n off (h.length + 1) (xs.take k)) :: mkObjs n O (h.length + 1) (xs.take k)).length = h.length + 1 + n * k := by simp [ln]; omega
    have V := hv _ hx (MO.dk (dkI n off (h.length + 1) (xs.take k)) :: mkObjs n O (h.length + 1) (xs.take k))
    rw [L1] at V
    refine ⟨.str xs[k], _, .str xs[k], _, .ref (h.length + 1 + n * k + off), _, _, ?_, rfl, rfl, hk _ hx _, V, putDc_at (kvs := dkI n off (h.length + 1) (xs.take k)) ?_ rfl ?_, ?_⟩
    · rw [hget _ _ (by omega)]
      simp [hk']
    · rw [List.append_assoc, List.cons_append]; exact at_mid
    · rw [dkI_len, tl]
      have := lt64 hl
      omega
    · rw [List.append_assoc, List.cons_append, set_mid, putM_dkI nt, List.take_succ_eq_append_getElem hk', dkI_app, mkObjs_app, tl]
theorem dc_new {it mk mv : ME} {j i n off : Nat} {us : List Nat} {s : Lo} {xs : List Str} {O : Nat → Str → List MO} (e : it s h = .ok (.ref i) h) (q : h[i]? = some (.lst (xs.map .str))) (nd : xs.Nodup) (hl : xs.length < 64)
    (hk : ∀ x ∈ xs, ∀ acc, mk ((wipeM s us).set j (some (.str x))) (h ++ acc) = .ok (.str x) (h ++ acc)) (hO : ∀ b x, (O b x).length = n)
    (hv : ∀ x ∈ xs, ∀ acc, mv ((wipeM s us).set j (some (.str x))) (h ++ acc) = .ok (.ref ((h ++ acc).length + off)) (h ++ acc ++ O (h ++ acc).length x)) :
    eDc it (gN j) bYes mk mv us s h = .ok (.ref h.length) (h ++ .dk (dkI n off (h.length + 1) xs) :: mkObjs n O (h.length + 1) xs) := by
  rw [eDc_at e q, List.length_map]
  exact dcG_new (n := n) (off := off) (fun k t hk => by rw [getSeq_strs (app_at q)]) nd hl hk hO hv
theorem dcD_new {it mk mv : ME} {j i n off : Nat} {us : List Nat} {s : Lo} {xs : List Str} {F : Str → MV} {O : Nat → Str → List MO} (e : it s h = .ok (.ref i) h) (q : h[i]? = some (.dk (dkm xs F))) (nd : xs.Nodup) (hl : xs.length < 64)
    (e2 : ∀ od vs, it s (h.set i (.fdk od vs (dkm xs F))) = .ok (.ref i) (h.set i (.fdk od vs (dkm xs F))))
    (hk : ∀ H x acc, mk ((wipeM s us).set j (some (.str x))) (H ++ acc) = .ok (.str x) (H ++ acc)) (hO : ∀ b x, (O b x).length = n)
    (hv : ∀ (H : MH) x acc, mv ((wipeM s us).set j (some (.str x))) (H ++ acc) = .ok (.ref ((H ++ acc).length + off)) (H ++ acc ++ O (H ++ acc).length x)) :
    eDcD it (gN j) bYes mk mv us s h = .ok (.ref h.length) (h ++ .dk (dkI n off (h.length + 1) xs) :: mkObjs n O (h.length + 1) xs) := by
  have hlt := (List.getElem?_eq_some_iff.mp q).1
  refine eDcD_at e q e2 fun od vs => ?_
  have qs : (h.set i (.fdk od vs (dkm xs F)))[i]? = some (.fdk od vs (dkm xs F)) := List.getElem?_set_self hlt
  have R := dcG_new (get := getFD od vs i) (h := h.set i (.fdk od vs (dkm xs F))) (mk := mk) (mv := mv) (j := j) (n := n) (off := off) (s := wipeM s us) (xs := xs) (O := O) (fun k t _ => by rw [getFD_at (app_at qs), dkm, List.getElem?_map]; cases xs[k]? <;> rfl) nd hl (fun x _ acc => hk _ x acc) hO (fun x _ acc => hv _ x acc)
  rw [List.length_set] at R
  rw [dkm_len, R, unlE_at (app_at qs), List.set_append_left _ _ (by simpa using hlt), set_back q]
theorem dcD_const {it mk mv : ME} {j i : Nat} {us : List Nat} {s : Lo} {xs : List Str} {F : Str → MV} {v : MV} (e : it s h = .ok (.ref i) h) (q : h[i]? = some (.dk (dkm xs F))) (nd : xs.Nodup) (hl : xs.length < 64)
    (e2 : ∀ od vs, it s (h.set i (.fdk od vs (dkm xs F))) = .ok (.ref i) (h.set i (.fdk od vs (dkm xs F))))
    (hk : ∀ H x, mk ((wipeM s us).set j (some (.str x))) H = .ok (.str x) H) (hv : ∀ H x, mv ((wipeM s us).set j (some (.str x))) H = .ok v H) :
    eDcD it (gN j) bYes mk mv us s h = .ok (.ref h.length) (h ++ [.dk (dkm xs fun _ => v)]) := by
  have hlt := (List.getElem?_eq_some_iff.mp q).1
  refine eDcD_at e q e2 fun od vs => ?_
  have qs : (h.set i (.fdk od vs (dkm xs F)))[i]? = some (.fdk od vs (dkm xs F)) := List.getElem?_set_self hlt
  generalize hH : h.set i (.fdk od vs (dkm xs F)) = H at *
  have hlen : H.length = h.length := by rw [← hH, List.length_set]
  have R : dcG (getFD od vs i) (gN j) bYes mk mv H.length (xs.length + 1) 0 (wipeM s us) (H ++ [.dk []]) = .ok (.ref H.length) (H ++ [.dk (dkm xs fun _ => v)]) := by
    refine dcG_inv (N := xs.length) (fun k h' => h' = H ++ [.dk (dkm (xs.take k) fun _ => v)]) (fun r => r = .ok (.ref H.length) (H ++ [.dk (dkm xs fun _ => v)])) ?_ ?_ xs.length 0 (H ++ [.dk []]) (by simp) rfl
    · rintro h' rfl
      refine ⟨?_, by rw [List.take_length]⟩
      rw [getFD_at (app_at qs), dkm, List.getElem?_map, List.getElem?_eq_none (Nat.le_refl _)]; rfl
    · rintro k h' hk' rfl
      refine ⟨.str xs[k], _, .str xs[k], _, v, _, _, ?_, rfl, rfl, hk _ _, hv _ _, putDc_at at_app0 rfl ?_, ?_⟩
      · rw [getFD_at (app_at qs), dkm, List.getElem?_map, List.getElem?_eq_getElem hk']; rfl
      · have : (dkm (xs.take k) fun _ => v).length ≤ k := by simp [dkm]; omega
        have := lt64 hl
        omega
      · rw [take_dkm (f := fun _ => v) hk' nd, set_app0']
  rw [hlen] at R
  rw [dkm_len, R, unlE_at (app_at qs), List.set_append_left _ _ (by rw [hlen]; exact hlt), ← hH, set_back q]
end
end Lw
namespace Lw
open PySem L2 Mo
def S0 : HS := { round := 0, called := false, held := .non, owner := fun _ => none, giving := fun _ => 0, row := fun _ => 0, rows := fun _ => [], status := fun _ => "out", answered := fun _ => false, letters := fun _ => [], lt := fun _ => .call, nlt := 0, post := fun _ => [], awaits := fun _ => [], own := fun _ _ => "out", stints := fun _ => [], st := fun _ => ⟨0, 0, 0⟩, nst := 0, lock := none }
def L0 (C : HC) (N bk : Nat) (ed : Str → Nat) : HL
  | .house => N | .book => bk | .ed m => ed m | .eds => N + 1 | .lanes => N + 2 | .names => N + 3 | .owner => N + 4 | .table => N + 5
  | .slotsD => N + 6 | .slot l => N + 7 + ix C.ls l
  | .rowsD => N + 7 + C.ls.length | .rows l => N + 8 + C.ls.length + ix C.ls l
  | .statusD => N + 8 + 2 * C.ls.length | .ansD => N + 9 + 2 * C.ls.length
  | .letD => N + 10 + 2 * C.ls.length | .lets m => N + 11 + 2 * C.ls.length + ix C.ms m
  | .postD => N + 11 + 2 * C.ls.length + C.ms.length | .post m => N + 12 + 2 * C.ls.length + C.ms.length + ix C.ms m
  | .awD => N + 12 + 2 * C.ls.length + 2 * C.ms.length | .aw m => N + 14 + 2 * C.ls.length + 2 * C.ms.length + 4 * ix C.ms m | .awl m => N + 16 + 2 * C.ls.length + 2 * C.ms.length + 4 * ix C.ms m
  | .ownD => N + 13 + 2 * C.ls.length + 6 * C.ms.length | .stiD => N + 14 + 2 * C.ls.length + 6 * C.ms.length
  | .own m => N + 15 + 2 * C.ls.length + 6 * C.ms.length + 2 * ix C.ms m | .sti m => N + 16 + 2 * C.ls.length + 6 * C.ms.length + 2 * ix C.ms m
  | .stn _ | .ltr _ | .lsh _ | .lsl _ | .lgv _ => 0
theorem L0_inj {C : HC} {N bk : Nat} {ed : Str → Nat} (hb : bk < N) (he : ∀ m ∈ C.ms, ed m < N) : ∀ t t', mtb t = true → live C S0 t → live C S0 t' → L0 C N bk ed t = L0 C N bk ed t' → t = t' := by
  intro t t' mt lt lt' e
  have key : ∀ t, live C S0 t → mtb t = false ∨ True := fun _ _ => .inr trivial
  cases t <;> first | (cases mt; done) | skip
  all_goals cases t'
  all_goals first
    | rfl
    | (exfalso; exact Nat.not_lt_zero _ lt)
    | (exfalso; exact Nat.not_lt_zero _ lt')
    | (exfalso; exact Nat.not_lt_zero _ lt'.1)
    | (exfalso; simp only [L0] at e; omega)
    | (exfalso; rename_i x; have h1 := ix_lt lt; simp only [L0] at e; omega)
    | (exfalso; rename_i x; have h1 := ix_lt lt'; simp only [L0] at e; omega)
    | (exfalso; rename_i x; have h1 := he x lt'; simp only [L0] at e; omega)
    | (exfalso; rename_i x y; have h1 := ix_lt lt; have h2 := ix_lt lt'; simp only [L0] at e; omega)
    | (exfalso; rename_i x y; have h1 := he y lt'; simp only [L0] at e; omega)
    | (rename_i x y; simp only [L0] at e; exact congrArg _ (ix_inj lt lt' (by omega)))
end Lw
namespace Lw
open PySem L2 Mo
section
variable {h R R' : MH} {fs : List (Str × MV)} {f : Str} {v : MV} {cs : List String} {s : Lo} {m : ME} {o : MO}
theorem fldN (hc : "House" ∈ cs) (hv : fs.lookup f = some v) : fFld f cs (.ref h.length) (h ++ .ins "House" fs :: R) = some (v, h ++ .ins "House" fs :: R) := fld_of at_mid hc hv
theorem putN (hc : "House" ∈ cs) (hl : fs.length < 1000) : putI f cs (.ref h.length) v (h ++ .ins "House" fs :: R) = some (h ++ .ins "House" (putFM f v fs) :: R) := by
  rw [putI_ref at_mid, if_pos ⟨hc, hl⟩, set_mid]
theorem atR {k : Nat} : (h ++ o :: R)[h.length + 1 + k]? = R[k]? := by
  rw [List.getElem?_append_right (by omega), show h.length + 1 + k - h.length = k + 1 by omega]
  rfl
theorem stepF (e : m s (h ++ .ins "House" fs :: R) = .ok v (h ++ .ins "House" fs :: R')) (hs : s[0]? = some (some (.ref h.length))) (hc : "House" ∈ cs) (hl : fs.length < 1000) :
    sFldM (eV 0) m f cs s (h ++ .ins "House" fs :: R) = .nx s (h ++ .ins "House" (putFM f v fs) :: R') := by
  simp -implicitDefEqProofs [e, eV, hs, putN hc hl]
theorem seqN {m b : MS} {s s1 : Lo} {h h1 : MH} (e : m s h = .nx s1 h1) : sSeq m b s h = b s1 h1 := by rw [sSeq_ev, e]; rfl
theorem app_many {t : MH} : (h ++ o :: R) ++ t = h ++ o :: (R ++ t) := by simp
theorem len_mid : (h ++ o :: R).length = h.length + 1 + R.length := by simp; omega
end
theorem lk_take {F : List (Str × MV)} {f : Str} {v : MV} {j k : Nat} (e : List.lookup f (F.take j) = some v) (hk : j ≤ k) : List.lookup f (F.take k) = some v := by
  have : F.take k = F.take j ++ (F.drop j).take (k - j) := by
    conv => lhs; rw [show k = j + (k - j) by omega]
    exact List.take_add
  rw [this, List.lookup_append, e]; rfl
theorem ledger_init {H : MH} {i n : Nat} {ls : List Str} (q : H[i]? = some (.lst (ls.map .str))) (nd : ls.Nodup) (hl : ls.length < 64) :
    m_Ledger___init__ [.ref H.length, .ref i, .ref n] (H ++ [.ins "Ledger" []]) = .ok .non (H ++ [.ins "Ledger" [("names", .ref n), ("table", .ref (H.length + 1))], .dk (dkm ls fun _ => .non)]) := by
  have P1 : ∀ cs, "Ledger" ∈ cs → putI "names" cs (.ref H.length) (.ref n) (H ++ [.ins "Ledger" []]) = some (H ++ [.ins "Ledger" [("names", .ref n)]]) := fun cs hc => by
    rw [putI_ref at_app0, if_pos ⟨hc, by decide⟩, set_app0]; rfl
  have D := dc_lanes (it := eV 1) (mk := ZK0_Ledger___init__) (mv := Z0_Ledger___init__) (j := 3) (us := [3]) (s := [some (.ref H.length), some (.ref i), some (.ref n), none]) (h := H ++ [.ins "Ledger" [("names", .ref n)]]) (v := .non) (by simp [eV]) (app_at q) nd hl (by simp [ZK0_Ledger___init__, eV, wipeM]) (by simp [Z0_Ledger___init__])
  have P2 : ∀ cs, "Ledger" ∈ cs → putI "table" cs (.ref H.length) (.ref (H.length + 1)) (H ++ [.ins "Ledger" [("names", .ref n)], .dk (dkm ls fun _ => .non)]) = some (H ++ [.ins "Ledger" [("names", .ref n), ("table", .ref (H.length + 1))], .dk (dkm ls fun _ => .non)]) := fun cs hc => by
    rw [putI_ref (c := "Ledger") (fs := [("names", .ref n)]) (by simp [at_app]), if_pos ⟨hc, by show 1 < 1000; decide⟩]
    simp [List.set_append_right]
  simp only [List.length_append, List.length_cons, List.length_nil, List.append_assoc, List.cons_append, List.nil_append] at D
  simp -implicitDefEqProofs [m_Ledger___init__, b_Ledger___init__, mDef_ev, eV, P1, D, P2]
theorem slot_init {H : MH} {l r : Str} {o : Nat} : m_Slot___init__ [.ref H.length, .str l, .str r, .ref o] (H ++ [.ins "Slot" []]) = .ok .non (H ++ [.ins "Slot" [("lane", .str l), ("rule", .str r), ("owner", .ref o), ("giving", .int 0), ("row", .int 0)]]) := by
  have P : ∀ f v fs cs, "Slot" ∈ cs → fs.length < 1000 → putI f cs (.ref H.length) v (H ++ [.ins "Slot" fs]) = some (H ++ [.ins "Slot" (putFM f v fs)]) := fun f v fs cs hc hl => by
    rw [putI_ref at_app0, if_pos ⟨hc, hl⟩, set_app0']
  simp -implicitDefEqProofs [m_Slot___init__, b_Slot___init__, mDef_ev, eV, P]
def Oslot (C : HC) (N : Nat) : Nat → Str → List MO := fun _ l => [.ins "Slot" [("lane", .str l), ("rule", .str C.hb.marks), ("owner", .ref (N + 4)), ("giving", .int 0), ("row", .int 0)]]
def Onil : Nat → Str → List MO := fun _ _ => [.lst []]
def Oaw : Nat → Str → List MO := fun b _ => [.lst [], .ins "Share" [("lanes", .ref (b + 3))], .lst [], .lst []]
def Oos (C : HC) : Nat → Str → List MO := fun _ _ => [.dk (dkm C.ls fun _ => .str "out"), .dk []]
section
variable (C : HC) (N : Nat) (ed : Str → Nat)
def R1 : List MO := [.dk (dkm C.ms fun m => .ref (ed m)), .lst (C.ls.map .str), .lst (C.ms.map .str), .ins "Ledger" [("names", .ref (N + 3)), ("table", .ref (N + 5))], .dk (dkm C.ls fun _ => .non)]
def R2 : List MO := .dk (dkI 1 0 (N + 7) C.ls) :: mkObjs 1 (Oslot C N) (N + 7) C.ls
def R3 : List MO := .dk (dkI 1 0 (N + 8 + C.ls.length) C.ls) :: mkObjs 1 Onil (N + 8 + C.ls.length) C.ls
def R4 : List MO := [.dk (dkm C.ms fun _ => .str "out"), .dk (dkm C.ms fun _ => .bl false)]
def R5 : List MO := .dk (dkI 1 0 (N + 11 + 2 * C.ls.length) C.ms) :: mkObjs 1 Onil (N + 11 + 2 * C.ls.length) C.ms
def R6 : List MO := .dk (dkI 1 0 (N + 12 + 2 * C.ls.length + C.ms.length) C.ms) :: mkObjs 1 Onil (N + 12 + 2 * C.ls.length + C.ms.length) C.ms
def R7 : List MO := .dk (dkI 4 1 (N + 13 + 2 * C.ls.length + 2 * C.ms.length) C.ms) :: mkObjs 4 Oaw (N + 13 + 2 * C.ls.length + 2 * C.ms.length) C.ms
def R8 (xs : List Str) : List MO := [.dk (dkI 2 0 (N + 15 + 2 * C.ls.length + 6 * C.ms.length) xs), .dk (dkI 2 1 (N + 15 + 2 * C.ls.length + 6 * C.ms.length) xs)]
end
theorem l2 (C : HC) (N : Nat) : (R2 C N).length = 1 + C.ls.length := by simp only [R2, List.length_cons, mkObjs_len (n := 1) (O := Oslot C N) (fun _ _ => rfl)]; omega
theorem l3 (C : HC) (N : Nat) : (R3 C N).length = 1 + C.ls.length := by simp only [R3, List.length_cons, mkObjs_len (n := 1) (O := Onil) (fun _ _ => rfl)]; omega
theorem l5 (C : HC) (N : Nat) : (R5 C N).length = 1 + C.ms.length := by simp only [R5, List.length_cons, mkObjs_len (n := 1) (O := Onil) (fun _ _ => rfl)]; omega
theorem l6 (C : HC) (N : Nat) : (R6 C N).length = 1 + C.ms.length := by simp only [R6, List.length_cons, mkObjs_len (n := 1) (O := Onil) (fun _ _ => rfl)]; omega
theorem l7 (C : HC) (N : Nat) : (R7 C N).length = 1 + 4 * C.ms.length := by simp only [R7, List.length_cons, mkObjs_len (n := 4) (O := Oaw) (fun _ _ => rfl)]; omega
def R17 (C : HC) (N : Nat) (ed : Str → Nat) : List MO := R1 C N ed ++ (R2 C N ++ (R3 C N ++ (R4 C ++ (R5 C N ++ (R6 C N ++ R7 C N)))))
theorem l17 (C : HC) (N : Nat) (ed : Str → Nat) : (R17 C N ed).length = 12 + 2 * C.ls.length + 6 * C.ms.length := by
  simp only [R17, List.length_append, l2, l3, l5, l6, l7, R1, R4, List.length_cons, List.length_nil]; omega
section
variable {C : HC} {h : MH} {bk mD lD : Nat} {ed : Str → Nat}
theorem init_run (hC : COk C) (hB : h[bk]? = some (.ins "Book" (bkf C.hb C.hp))) (hM : h[mD]? = some (.dk (dkm C.ms fun m => .ref (ed m)))) (hL : h[lD]? = some (.lst (C.ls.map .str))) {s : Lo} (es : s = [some (.ref h.length), some (.ref bk), some (.ref mD), some (.ref lD), some (.int C.win), none, none]) :
    b_House___init__ s (h ++ [.ins "House" []]) = sForD (e1 (fFld "editions" ["House"]) (eV 0)) (gN 5) L0_House___init__ s (h ++ .ins "House" (hfs C S0 (L0 C h.length bk ed)) :: (R17 C h.length ed ++ R8 C h.length [])) := by
  have hs : s[0]? = some (some (.ref h.length)) := by rw [es]; rfl
  have hs1 : s[1]? = some (some (.ref bk)) := by rw [es]; rfl
  have hs2 : s[2]? = some (some (.ref mD)) := by rw [es]; rfl
  have hs3 : s[3]? = some (some (.ref lD)) := by rw [es]; rfl
  have hs4 : s[4]? = some (some (.int C.win)) := by rw [es]; rfl
  have w6 : ∀ x, (wipeM s [6]).set 6 (some x) = [some (.ref h.length), some (.ref bk), some (.ref mD), some (.ref lD), some (.int C.win), none, some x] := fun x => by rw [es]; rfl
  have w5 : ∀ x, (wipeM s [5]).set 5 (some x) = [some (.ref h.length), some (.ref bk), some (.ref mD), some (.ref lD), some (.int C.win), some x, none] := fun x => by rw [es]; rfl
  generalize hF : hfs C S0 (L0 C h.length bk ed) = F
  have ln : ∀ k, (F.take k).length < 1000 := fun k => by rw [← hF, List.length_take]; exact Nat.lt_of_le_of_lt (Nat.min_le_right _ _) (by show 17 < 1000; decide)
  have hp : ∀ k f v, F[k]? = some (f, v) → putFM f v (F.take k) = F.take (k + 1) := fun k f v e => by
    rw [← hF] at e ⊢
    match k, e with
    | 0, e => cases e; rfl
    | 1, e => cases e; rfl
    | 2, e => cases e; rfl
    | 3, e => cases e; rfl
    | 4, e => cases e; rfl
    | 5, e => cases e; rfl
    | 6, e => cases e; rfl
    | 7, e => cases e; rfl
    | 8, e => cases e; rfl
    | 9, e => cases e; rfl
    | 10, e => cases e; rfl
    | 11, e => cases e; rfl
    | 12, e => cases e; rfl
    | 13, e => cases e; rfl
    | 14, e => cases e; rfl
    | 15, e => cases e; rfl
    | 16, e => cases e; rfl
  have st : ∀ (k : Nat) (f : Str) (v : MV) (m : ME) (R R' : MH) (cs : List String), "House" ∈ cs → F[k]? = some (f, v) → m s (h ++ .ins "House" (F.take k) :: R) = .ok v (h ++ .ins "House" (F.take k) :: R') →
      sFldM (eV 0) m f cs s (h ++ .ins "House" (F.take k) :: R) = .nx s (h ++ .ins "House" (F.take (k + 1)) :: R') := fun k f v m R R' cs hc hf e => by
    rw [stepF e hs hc (ln k), hp k f v hf]
  have lk : ∀ (k : Nat) (f : Str) (v : MV) (cs : List String) (R : MH), "House" ∈ cs → (F.take k).lookup f = some v → e1 (fFld f cs) (eV 0) s (h ++ .ins "House" (F.take k) :: R) = .ok v (h ++ .ins "House" (F.take k) :: R) := fun k f v cs R hc hl => by
    simp -implicitDefEqProofs [eV, hs, fldN hc hl]
  have dM : ∀ (k : Nat) (R : MH), (h ++ .ins "House" (F.take k) :: R)[mD]? = some (.dk (dkm C.ms fun m => .ref (ed m))) := fun k R => app_at hM
  have dL : ∀ (k : Nat) (R : MH), (h ++ .ins "House" (F.take k) :: R)[lD]? = some (.lst (C.ls.map .str)) := fun k R => app_at hL
  have q0 := st 0 "book" (.ref bk) (eV 1) [] [] ["House"] (by decide) (by rw [← hF]; rfl) (by simp [eV, hs1])
  have q1 := st 1 "editions" (.ref (h.length + 1)) (eA fDictC (aCons (eV 2) aNil)) [] [.dk (dkm C.ms fun m => .ref (ed m))] ["House"] (by decide) (by rw [← hF]; rfl) (by
    have := dM 1 []
    simp -implicitDefEqProofs [eV, hs2, fDictC, this])
  have q2 := st 2 "lanes" (.ref (h.length + 2)) (eA fList (aCons (eV 3) aNil)) [.dk (dkm C.ms fun m => .ref (ed m))] [.dk (dkm C.ms fun m => .ref (ed m)), .lst (C.ls.map .str)] ["Share", "House"] (by decide) (by rw [← hF]; rfl) (by
    have := fList_ref (dL 2 [.dk (dkm C.ms fun m => .ref (ed m))])
    simp -implicitDefEqProofs [eV, hs3, this])
  have q3 := st 3 "window" (.int C.win) (eV 4) [.dk (dkm C.ms fun m => .ref (ed m)), .lst (C.ls.map .str)] [.dk (dkm C.ms fun m => .ref (ed m)), .lst (C.ls.map .str)] ["House"] (by decide) (by rw [← hF]; rfl) (by simp [eV, hs4])
  have q4 := st 4 "round" (.int 0) (eC (.int 0)) [.dk (dkm C.ms fun m => .ref (ed m)), .lst (C.ls.map .str)] [.dk (dkm C.ms fun m => .ref (ed m)), .lst (C.ls.map .str)] ["House"] (by decide) (by rw [← hF]; rfl) (by simp)
  have q5 := st 5 "called" (.bl false) (eC (.bl false)) [.dk (dkm C.ms fun m => .ref (ed m)), .lst (C.ls.map .str)] [.dk (dkm C.ms fun m => .ref (ed m)), .lst (C.ls.map .str)] ["House"] (by decide) (by rw [← hF]; rfl) (by simp)
  have q6 := st 6 "held" .non (eC .non) [.dk (dkm C.ms fun m => .ref (ed m)), .lst (C.ls.map .str)] [.dk (dkm C.ms fun m => .ref (ed m)), .lst (C.ls.map .str)] ["House"] (by decide) (by rw [← hF]; rfl) (by simp)
  -- the ledger
  have q7 := st 7 "owner" (.ref (h.length + 4)) (eMk "Ledger" 2 0 3 m_Ledger___init__ gPos (aCons (e1 (fFld "lanes" ["Share", "House"]) (eV 0)) (aCons (eA fListD (aCons (e1 (fFld "editions" ["House"]) (eV 0)) (aNil))) (aNil))) aNil) [.dk (dkm C.ms fun m => .ref (ed m)), .lst (C.ls.map .str)] (R1 C h.length ed) ["Slot", "House"] (by decide) (by rw [← hF]; rfl) (by
    have f1 := fldN (h := h) (fs := F.take 7) (f := "lanes") (v := .ref (h.length + 2)) (cs := ["Share", "House"]) (R := [.dk (dkm C.ms fun m => .ref (ed m)), .lst (C.ls.map .str)]) (by decide) (by rw [← hF]; rfl)
    have f2 := fldN (h := h) (fs := F.take 7) (f := "editions") (v := .ref (h.length + 1)) (cs := ["House"]) (R := [.dk (dkm C.ms fun m => .ref (ed m)), .lst (C.ls.map .str)]) (by decide) (by rw [← hF]; rfl)
    have g1 : (h ++ .ins "House" (F.take 7) :: [.dk (dkm C.ms fun m => .ref (ed m)), .lst (C.ls.map .str)])[h.length + 1]? = some (.dk (dkm C.ms fun m => .ref (ed m))) := atR (k := 0)
    have g2 : (h ++ .ins "House" (F.take 7) :: [.dk (dkm C.ms fun m => .ref (ed m)), .lst (C.ls.map .str)])[h.length + 2]? = some (.lst (C.ls.map .str)) := atR (k := 1)
    have hl : (h ++ MO.ins "House" (F.take 7) :: [MO.dk (dkm C.ms fun m => MV.ref (ed m)), MO.lst (C.ls.map MV.str)]).length = h.length + 3 := by simp
    have hr : h ++ .ins "House" (F.take 7) :: R1 C h.length ed = (h ++ .ins "House" (F.take 7) :: [.dk (dkm C.ms fun m => .ref (ed m)), .lst (C.ls.map .str)]) ++ [.lst (C.ms.map .str), .ins "Ledger" [("names", .ref (h.length + 3)), ("table", .ref (h.length + 5))], .dk (dkm C.ls fun _ => .non)] := by simp [R1]
    rw [hr]
    generalize h ++ MO.ins "House" (F.take 7) :: [MO.dk (dkm C.ms fun m => MV.ref (ed m)), MO.lst (C.ls.map MV.str)] = H at *
    have LI := ledger_init (H := H ++ [.lst (C.ms.map .str)]) (i := h.length + 2) (n := h.length + 3) (app_at g2) hC.nl hC.ll
    have ky : (dkm C.ms fun m => MV.ref (ed m)).map (fun kv => kM kv.1) = C.ms.map .str := by simp only [dkm, List.map_map]; rfl
    have FD : fListD [.ref (h.length + 1)] H = some (.ref (h.length + 3), H ++ [.lst (C.ms.map .str)]) := by
      simp only [fListD, g1, ky, hl]
    simp only [List.length_append, List.length_cons, List.length_nil, hl, List.append_assoc, List.cons_append, List.nil_append, Nat.add_assoc] at LI
    simp -implicitDefEqProofs [eV, hs, f1, f2, FD, gPos, hl, LI])
  have qD : ∀ (k : Nat) (X : MH), (h ++ .ins "House" (F.take k) :: (R1 C h.length ed ++ X))[h.length + 1]? = some (.dk (dkm C.ms fun m => .ref (ed m))) := fun k X => by
    rw [show h.length + 1 = h.length + 1 + 0 from rfl, atR]; rfl
  have qL : ∀ (k : Nat) (X : MH), (h ++ .ins "House" (F.take k) :: (R1 C h.length ed ++ X))[h.length + 2]? = some (.lst (C.ls.map .str)) := fun k X => by
    rw [show h.length + 2 = h.length + 1 + 1 from rfl, atR]; rfl
  have eL : ∀ (k : Nat) (X : MH), 8 ≤ k → e1 (fFld "lanes" ["Share", "House"]) (eV 0) s (h ++ .ins "House" (F.take k) :: X) = .ok (.ref (h.length + 2)) (h ++ .ins "House" (F.take k) :: X) := fun k X hk => lk k "lanes" _ _ X (by decide) (lk_take (j := 8) (by rw [← hF]; rfl) hk)
  have eE : ∀ (k : Nat), 8 ≤ k → List.lookup (Str.ofString "editions") (F.take k) = some (.ref (h.length + 1)) := fun k hk => lk_take (j := 8) (by rw [← hF]; rfl) hk
  have eO : ∀ (k : Nat), 8 ≤ k → List.lookup (Str.ofString "owner") (F.take k) = some (.ref (h.length + 4)) := fun k hk => lk_take (j := 8) (by rw [← hF]; rfl) hk
  have e2D : ∀ (k : Nat) (X : MH), 8 ≤ k → ∀ od vs, e1 (fFld "editions" ["House"]) (eV 0) s ((h ++ .ins "House" (F.take k) :: X).set (h.length + 1) (.fdk od vs (dkm C.ms fun m => .ref (ed m)))) = .ok (.ref (h.length + 1)) ((h ++ .ins "House" (F.take k) :: X).set (h.length + 1) (.fdk od vs (dkm C.ms fun m => .ref (ed m)))) := fun k X hk od vs => by
    have : ((h ++ .ins "House" (F.take k) :: X).set (h.length + 1) (.fdk od vs (dkm C.ms fun m => .ref (ed m))))[h.length]? = some (.ins "House" (F.take k)) := by rw [List.getElem?_set_ne (by omega)]; exact at_mid
    have := fld_of (f := "editions") (cs := ["House"]) this (by decide) (eE k hk)
    generalize (h ++ .ins "House" (F.take k) :: X).set (h.length + 1) (.fdk od vs (dkm C.ms fun m => .ref (ed m))) = G at *
    simp -implicitDefEqProofs [eV, hs, this]
  -- slots
  have q8 := st 8 "slots" (.ref (h.length + 6)) (eDc (e1 (fFld "lanes" ["Share", "House"]) (eV 0)) (gN 6) (bYes) ZK0_House___init__ Z0_House___init__ [6]) (R1 C h.length ed ++ []) (R1 C h.length ed ++ [] ++ R2 C h.length) ["House"] (by decide) (by rw [← hF]; rfl) (by
    have hl : (h ++ MO.ins "House" (F.take 8) :: (R1 C h.length ed ++ [])).length = h.length + 6 := by simp [R1]
    have D := dc_new (n := 1) (off := 0) (O := Oslot C h.length) (mk := ZK0_House___init__) (mv := Z0_House___init__) (j := 6) (us := [6]) (eL 8 (R1 C h.length ed ++ []) (by omega)) (qL 8 []) hC.nl hC.ll (by intro x hx acc; rw [w6]; simp [ZK0_House___init__, eV]) (fun _ _ => rfl) (by
      intro x hx acc
      rw [w6]
      have f1 := fld_of (f := "marks") (cs := ["Book"]) (h := h ++ .ins "House" (F.take 8) :: (R1 C h.length ed ++ []) ++ acc) (app_at (app_at hB)) (by decide) rfl
      have f2 := fld_of (f := "owner") (cs := ["Slot", "House"]) (h := h ++ .ins "House" (F.take 8) :: (R1 C h.length ed ++ []) ++ acc) (app_at at_mid) (by decide) (eO 8 (by omega))
      generalize h ++ MO.ins "House" (F.take 8) :: (R1 C h.length ed ++ []) ++ acc = H at *
      have SI := slot_init (H := H) (l := x) (r := C.hb.marks) (o := h.length + 4)
      simp -implicitDefEqProofs [Z0_House___init__, eV, f1, f2, gPos, SI, Oslot])
    rw [D, hl, app_many]
    rfl)
  have q8 : sFldM (eV 0) (eDc (e1 (fFld "lanes" ["Share", "House"]) (eV 0)) (gN 6) (bYes) ZK0_House___init__ Z0_House___init__ [6]) "slots" ["House"] s (h ++ .ins "House" (F.take 8) :: R1 C h.length ed) = .nx s (h ++ .ins "House" (F.take 9) :: (R1 C h.length ed ++ R2 C h.length)) := by
    rw [List.append_nil] at q8; exact q8
  have ln2 : ∀ k X, (h ++ MO.ins "House" (F.take k) :: (R1 C h.length ed ++ X)).length = h.length + 6 + X.length := fun k X => by simp [R1]; omega
  have cD : ∀ (k n off : Nat) (X : MH) (O : Nat → Str → List MO) (mk mv : ME), 8 ≤ k → mk = eV 5 → (∀ b x, (O b x).length = n) → (∀ (H : MH) x acc, mv ((wipeM s [5]).set 5 (some (.str x))) (H ++ acc) = .ok (.ref ((H ++ acc).length + off)) (H ++ acc ++ O (H ++ acc).length x)) →
      eDcD (e1 (fFld "editions" ["House"]) (eV 0)) (gN 5) bYes mk mv [5] s (h ++ .ins "House" (F.take k) :: (R1 C h.length ed ++ X)) = .ok (.ref (h.length + 6 + X.length)) (h ++ .ins "House" (F.take k) :: (R1 C h.length ed ++ (X ++ .dk (dkI n off (h.length + 6 + X.length + 1) C.ms) :: mkObjs n O (h.length + 6 + X.length + 1) C.ms))) := fun k n off X O mk mv hk em hO hv => by
    have D := dcD_new (n := n) (off := off) (O := O) (mk := mk) (mv := mv) (j := 5) (us := [5]) (lk k "editions" _ _ (R1 C h.length ed ++ X) (by decide) (eE k hk)) (qD k X) hC.nm hC.ml (fun od vs => e2D k _ hk od vs) (by intro H x acc; rw [w5, em]; simp [eV]) hO hv
    rw [D, ln2, app_many, List.append_assoc]
  have cC : ∀ (k : Nat) (X : MH) (v : MV) (mk mv : ME), 8 ≤ k → mk = eV 5 → mv = eC v →
      eDcD (e1 (fFld "editions" ["House"]) (eV 0)) (gN 5) bYes mk mv [5] s (h ++ .ins "House" (F.take k) :: (R1 C h.length ed ++ X)) = .ok (.ref (h.length + 6 + X.length)) (h ++ .ins "House" (F.take k) :: (R1 C h.length ed ++ (X ++ [.dk (dkm C.ms fun _ => v)]))) := fun k X v mk mv hk em ev => by
    have D := dcD_const (mk := mk) (mv := mv) (v := v) (j := 5) (us := [5]) (lk k "editions" _ _ (R1 C h.length ed ++ X) (by decide) (eE k hk)) (qD k X) hC.nm hC.ml (fun od vs => e2D k _ hk od vs) (by intro H x; rw [w5, em]; simp [eV]) (by intro H x; rw [ev]; rfl)
    rw [D, ln2, app_many, List.append_assoc]
  -- rows
  have q9 := st 9 "rows" (.ref (h.length + 7 + C.ls.length)) (eDc (e1 (fFld "lanes" ["Share", "House"]) (eV 0)) (gN 6) (bYes) ZK2_House___init__ Z2_House___init__ [6]) (R1 C h.length ed ++ R2 C h.length) (R1 C h.length ed ++ (R2 C h.length ++ R3 C h.length)) ["House"] (by decide) (by rw [← hF]; rfl) (by
    have D := dc_new (n := 1) (off := 0) (O := Onil) (mk := ZK2_House___init__) (mv := Z2_House___init__) (j := 6) (us := [6]) (eL 9 (R1 C h.length ed ++ R2 C h.length) (by omega)) (qL 9 _) hC.nl hC.ll (by intro x hx acc; rw [w6]; simp [ZK2_House___init__, eV]) (fun _ _ => rfl) (by
      intro x hx acc
      simp [Z2_House___init__, Onil])
    rw [D, ln2, l2, app_many, List.append_assoc, show h.length + 6 + (1 + C.ls.length) = h.length + 7 + C.ls.length by omega, show h.length + 7 + C.ls.length + 1 = h.length + 8 + C.ls.length by omega]
    rfl)
  have q10 := st 10 "status" (.ref (h.length + 8 + 2 * C.ls.length)) _ (R1 C h.length ed ++ (R2 C h.length ++ R3 C h.length)) (R1 C h.length ed ++ ((R2 C h.length ++ R3 C h.length) ++ [.dk (dkm C.ms fun _ => .str "out")])) ["House"] (by decide) (by rw [← hF]; rfl) (by
    have D := cC 10 (R2 C h.length ++ R3 C h.length) (.str "out") ZK4_House___init__ Z4_House___init__ (by omega) rfl rfl
    rw [List.length_append, l2, l3, show h.length + 6 + (1 + C.ls.length + (1 + C.ls.length)) = h.length + 8 + 2 * C.ls.length by omega] at D
    exact D)
  have q11 := st 11 "answered" (.ref (h.length + 9 + 2 * C.ls.length)) _ (R1 C h.length ed ++ ((R2 C h.length ++ R3 C h.length) ++ [.dk (dkm C.ms fun _ => .str "out")])) (R1 C h.length ed ++ ((R2 C h.length ++ R3 C h.length) ++ R4 C)) ["House"] (by decide) (by rw [← hF]; rfl) (by
    have D := cC 11 ((R2 C h.length ++ R3 C h.length) ++ [.dk (dkm C.ms fun _ => .str "out")]) (.bl false) ZK6_House___init__ Z6_House___init__ (by omega) rfl rfl
    rw [List.append_assoc (R2 C h.length ++ R3 C h.length), List.length_append, List.length_append, l2, l3, List.length_singleton, show h.length + 6 + (1 + C.ls.length + (1 + C.ls.length) + 1) = h.length + 9 + 2 * C.ls.length by omega] at D
    exact D)
  have q12 := st 12 "letters" (.ref (h.length + 10 + 2 * C.ls.length)) _ (R1 C h.length ed ++ ((R2 C h.length ++ R3 C h.length) ++ R4 C)) (R1 C h.length ed ++ ((R2 C h.length ++ R3 C h.length) ++ R4 C ++ R5 C h.length)) ["House"] (by decide) (by rw [← hF]; rfl) (by
    have D := cD 12 1 0 ((R2 C h.length ++ R3 C h.length) ++ R4 C) Onil ZK8_House___init__ Z8_House___init__ (by omega) rfl (fun _ _ => rfl) (by intro H x acc; simp [Z8_House___init__, Onil])
    rw [List.length_append (bs := R4 C), List.length_append, l2, l3, show (R4 C).length = 2 from rfl, show h.length + 6 + (1 + C.ls.length + (1 + C.ls.length) + 2) = h.length + 10 + 2 * C.ls.length by omega, show h.length + 10 + 2 * C.ls.length + 1 = h.length + 11 + 2 * C.ls.length by omega] at D
    exact D)
  have q13 := st 13 "post" (.ref (h.length + 11 + 2 * C.ls.length + C.ms.length)) _ (R1 C h.length ed ++ ((R2 C h.length ++ R3 C h.length) ++ R4 C ++ R5 C h.length)) (R1 C h.length ed ++ ((R2 C h.length ++ R3 C h.length) ++ R4 C ++ R5 C h.length ++ R6 C h.length)) ["House"] (by decide) (by rw [← hF]; rfl) (by
    have D := cD 13 1 0 ((R2 C h.length ++ R3 C h.length) ++ R4 C ++ R5 C h.length) Onil ZK10_House___init__ Z10_House___init__ (by omega) rfl (fun _ _ => rfl) (by intro H x acc; simp [Z10_House___init__, Onil])
    have hx : ((R2 C h.length ++ R3 C h.length) ++ R4 C ++ R5 C h.length).length = 5 + 2 * C.ls.length + C.ms.length := by simp only [List.length_append, l2, l3, l5, show (R4 C).length = 2 from rfl]; omega
    rw [hx, show h.length + 6 + (5 + 2 * C.ls.length + C.ms.length) = h.length + 11 + 2 * C.ls.length + C.ms.length by omega, show h.length + 11 + 2 * C.ls.length + C.ms.length + 1 = h.length + 12 + 2 * C.ls.length + C.ms.length by omega] at D
    exact D)
  have q14 := st 14 "awaits" (.ref (h.length + 12 + 2 * C.ls.length + 2 * C.ms.length)) _ (R1 C h.length ed ++ ((R2 C h.length ++ R3 C h.length) ++ R4 C ++ R5 C h.length ++ R6 C h.length)) (R1 C h.length ed ++ ((R2 C h.length ++ R3 C h.length) ++ R4 C ++ R5 C h.length ++ R6 C h.length ++ R7 C h.length)) ["House"] (by decide) (by rw [← hF]; rfl) (by
    have D := cD 14 4 1 ((R2 C h.length ++ R3 C h.length) ++ R4 C ++ R5 C h.length ++ R6 C h.length) Oaw ZK12_House___init__ Z12_House___init__ (by omega) rfl (fun _ _ => rfl) (by intro H x acc; exact share_mk0)
    have hx : ((R2 C h.length ++ R3 C h.length) ++ R4 C ++ R5 C h.length ++ R6 C h.length).length = 6 + 2 * C.ls.length + 2 * C.ms.length := by simp only [List.length_append, l2, l3, l5, l6, show (R4 C).length = 2 from rfl]; omega
    rw [hx, show h.length + 6 + (6 + 2 * C.ls.length + 2 * C.ms.length) = h.length + 12 + 2 * C.ls.length + 2 * C.ms.length by omega, show h.length + 12 + 2 * C.ls.length + 2 * C.ms.length + 1 = h.length + 13 + 2 * C.ls.length + 2 * C.ms.length by omega] at D
    exact D)
  have e17 : R1 C h.length ed ++ ((R2 C h.length ++ R3 C h.length) ++ R4 C ++ R5 C h.length ++ R6 C h.length ++ R7 C h.length) = R17 C h.length ed := by simp only [R17, List.append_assoc]
  rw [e17] at q14
  have q15 := st 15 "own" (.ref (h.length + 13 + 2 * C.ls.length + 6 * C.ms.length)) eDk (R17 C h.length ed) (R17 C h.length ed ++ [.dk []]) ["House"] (by decide) (by rw [← hF]; rfl) (by
    rw [eDk_ev, app_many, len_mid, l17, show h.length + 1 + (12 + 2 * C.ls.length + 6 * C.ms.length) = h.length + 13 + 2 * C.ls.length + 6 * C.ms.length by omega])
  have q16 := st 16 "stints" (.ref (h.length + 14 + 2 * C.ls.length + 6 * C.ms.length)) eDk (R17 C h.length ed ++ [.dk []]) (R17 C h.length ed ++ R8 C h.length []) ["House"] (by decide) (by rw [← hF]; rfl) (by
    rw [eDk_ev, app_many, len_mid, List.length_append, l17, List.append_assoc, show h.length + 1 + (12 + 2 * C.ls.length + 6 * C.ms.length + List.length [MO.dk []]) = h.length + 14 + 2 * C.ls.length + 6 * C.ms.length by simp; omega]
    rfl)
  have t17 : F.take (16 + 1) = F := by rw [← hF]; rfl
  have t0 : F.take 0 = [] := rfl
  rw [t0] at q0
  rw [t17] at q16
  exact (seqN q0).trans <| (seqN q1).trans <| (seqN q2).trans <| (seqN q3).trans <| (seqN q4).trans <| (seqN q5).trans <| (seqN q6).trans <| (seqN q7).trans <| (seqN q8).trans <| (seqN q9).trans <| (seqN q10).trans <| (seqN q11).trans <| (seqN q12).trans <| (seqN q13).trans <| (seqN q14).trans <| (seqN q15).trans <| seqN q16
end
end Lw
namespace Lw
open PySem L2 Mo
def Gr (C : HC) (b : Nat) (xs : List Str) : MH := .dk (dkI 2 0 b xs) :: .dk (dkI 2 1 b xs) :: mkObjs 2 (Oos C) b xs
theorem Gr_len {C : HC} {b : Nat} {xs : List Str} : (Gr C b xs).length = 2 + 2 * xs.length := by
  simp only [Gr, List.length_cons, mkObjs_len (n := 2) (O := Oos C) (fun _ _ => rfl)]; omega
section
variable {C : HC} {P : MH} {N : Nat} {F : List (Str × MV)}
theorem grow1 (hC : COk C) (hH : P[N]? = some (.ins "House" F)) (f1 : List.lookup (Str.ofString "own") F = some (.ref P.length)) (f2 : List.lookup (Str.ofString "stints") F = some (.ref (P.length + 1))) (f3 : List.lookup (Str.ofString "lanes") F = some (.ref (N + 2))) (qL : P[N + 2]? = some (.lst (C.ls.map .str)))
    {xs : List Str} {x : Str} (hx : x ∉ xs) (hl : xs.length < 64) {s : Lo} (hs : s[0]? = some (some (.ref N))) (hs5 : s[5]? = some (some (.str x))) (w6 : ∀ y, ((wipeM s [6]).set 6 (some y))[6]? = some (some y)) :
    L0_House___init__ s (P ++ Gr C (P.length + 2) xs) = .nx s (P ++ Gr C (P.length + 2) (xs ++ [x])) := by
  have g1 := fun T => fld_of (h := P ++ T) (f := "own") (cs := ["House"]) (app_at hH) (by decide) f1
  have g2 := fun T => fld_of (h := P ++ T) (f := "stints") (cs := ["House"]) (app_at hH) (by decide) f2
  have g3 := fun T => fld_of (h := P ++ T) (f := "lanes") (cs := ["Share", "House"]) (app_at hH) (by decide) f3
  have ln : (P ++ Gr C (P.length + 2) xs).length = P.length + 2 + 2 * xs.length := by rw [List.length_append, Gr_len]; omega
  have D := dc_lanes (it := e1 (fFld "lanes" ["Share", "House"]) (eV 0)) (mk := ZK14_House___init__) (mv := Z14_House___init__) (j := 6) (us := [6]) (s := s) (h := P ++ Gr C (P.length + 2) xs) (v := .str "out") (by simp -implicitDefEqProofs [eV, hs, g3]) (app_at qL) hC.nl hC.ll (by intro y H; simp [ZK14_House___init__, eV, w6]) (by intro y H; rfl)
  have dl : ∀ o, (dkI 2 o (P.length + 2) xs).length < SZ := fun o => by rw [dkI_len]; exact lt64 hl
  -- the first entry
  have a1 : (P ++ (Gr C (P.length + 2) xs ++ [.dk (dkm C.ls fun _ => .str "out")]))[P.length]? = some (.dk (dkI 2 0 (P.length + 2) xs)) := at_mid
  have p1 : putA (.ref P.length) (.str x) (.ref (P.length + 2 + 2 * xs.length)) (P ++ (Gr C (P.length + 2) xs ++ [.dk (dkm C.ls fun _ => .str "out")])) = some (P ++ MO.dk (dkI 2 0 (P.length + 2) (xs ++ [x])) :: .dk (dkI 2 1 (P.length + 2) xs) :: (mkObjs 2 (Oos C) (P.length + 2) xs ++ [.dk (dkm C.ls fun _ => .str "out")])) := by
    rw [putA_dk a1 rfl, if_pos (dl 0), putM_dkI hx, dkI_app]
    show some ((P ++ MO.dk (dkI 2 0 (P.length + 2) xs) :: .dk (dkI 2 1 (P.length + 2) xs) :: (mkObjs 2 (Oos C) (P.length + 2) xs ++ [.dk (dkm C.ls fun _ => .str "out")])).set P.length _) = _
    rw [set_mid]
    rfl
  have a2 : (P ++ MO.dk (dkI 2 0 (P.length + 2) (xs ++ [x])) :: .dk (dkI 2 1 (P.length + 2) xs) :: (mkObjs 2 (Oos C) (P.length + 2) xs ++ [.dk (dkm C.ls fun _ => .str "out"), .dk []]))[P.length + 1]? = some (.dk (dkI 2 1 (P.length + 2) xs)) := atR (k := 0)
  have l2 : (P ++ MO.dk (dkI 2 0 (P.length + 2) (xs ++ [x])) :: .dk (dkI 2 1 (P.length + 2) xs) :: (mkObjs 2 (Oos C) (P.length + 2) xs ++ [.dk (dkm C.ls fun _ => .str "out")])).length = P.length + 2 + 2 * xs.length + 1 := by
    simp only [List.length_append, List.length_cons, mkObjs_len (n := 2) (O := Oos C) (fun _ _ => rfl), List.length_nil]; omega
  have p2 : putA (.ref (P.length + 1)) (.str x) (.ref (P.length + 2 + 2 * xs.length + 1)) (P ++ MO.dk (dkI 2 0 (P.length + 2) (xs ++ [x])) :: .dk (dkI 2 1 (P.length + 2) xs) :: (mkObjs 2 (Oos C) (P.length + 2) xs ++ [.dk (dkm C.ls fun _ => .str "out"), .dk []])) = some (P ++ Gr C (P.length + 2) (xs ++ [x])) := by
    rw [putA_dk a2 rfl, if_pos (dl 1), putM_dkI hx]
    have e : P ++ .dk (dkI 2 0 (P.length + 2) (xs ++ [x])) :: .dk (dkI 2 1 (P.length + 2) xs) :: (mkObjs 2 (Oos C) (P.length + 2) xs ++ [.dk (dkm C.ls fun _ => .str "out"), .dk []]) = (P ++ [.dk (dkI 2 0 (P.length + 2) (xs ++ [x]))]) ++ MO.dk (dkI 2 1 (P.length + 2) xs) :: (mkObjs 2 (Oos C) (P.length + 2) xs ++ [.dk (dkm C.ls fun _ => .str "out"), .dk []]) := by simp
    have l1 : P.length + 1 = (P ++ [MO.dk (dkI 2 0 (P.length + 2) (xs ++ [x]))]).length := by simp
    rw [e]
    conv => lhs; rw [l1, set_mid]
    rw [← dkI_app (n := 2) (off := 1)]
    unfold Gr
    rw [mkObjs_app, List.append_assoc]
    rfl
  have G1 := g1 (Gr C (P.length + 2) xs ++ [.dk (dkm C.ls fun _ => .str "out")])
  have G2 := g2 (.dk (dkI 2 0 (P.length + 2) (xs ++ [x])) :: .dk (dkI 2 1 (P.length + 2) xs) :: (mkObjs 2 (Oos C) (P.length + 2) xs ++ [.dk (dkm C.ls fun _ => .str "out"), .dk []]))
  have s1 : sPutA (e1 (fFld "own" ["House"]) (eV 0)) (eV 5) (eDc (e1 (fFld "lanes" ["Share", "House"]) (eV 0)) (gN 6) (bYes) ZK14_House___init__ Z14_House___init__ [6]) s (P ++ Gr C (P.length + 2) xs) = .nx s (P ++ MO.dk (dkI 2 0 (P.length + 2) (xs ++ [x])) :: .dk (dkI 2 1 (P.length + 2) xs) :: (mkObjs 2 (Oos C) (P.length + 2) xs ++ [.dk (dkm C.ls fun _ => .str "out")])) := by
    rw [sPutA_ev, D, ln, List.append_assoc]
    generalize P ++ (Gr C (P.length + 2) xs ++ [.dk (dkm C.ls fun _ => .str "out")]) = Q1 at *
    simp -implicitDefEqProofs [eV, hs, hs5, G1, p1]
  have s2 : sPutA (e1 (fFld "stints" ["House"]) (eV 0)) (eV 5) eDk s (P ++ MO.dk (dkI 2 0 (P.length + 2) (xs ++ [x])) :: .dk (dkI 2 1 (P.length + 2) xs) :: (mkObjs 2 (Oos C) (P.length + 2) xs ++ [.dk (dkm C.ls fun _ => .str "out")])) = .nx s (P ++ Gr C (P.length + 2) (xs ++ [x])) := by
    have e : (P ++ MO.dk (dkI 2 0 (P.length + 2) (xs ++ [x])) :: .dk (dkI 2 1 (P.length + 2) xs) :: (mkObjs 2 (Oos C) (P.length + 2) xs ++ [.dk (dkm C.ls fun _ => .str "out")])) ++ [.dk []] = P ++ MO.dk (dkI 2 0 (P.length + 2) (xs ++ [x])) :: .dk (dkI 2 1 (P.length + 2) xs) :: (mkObjs 2 (Oos C) (P.length + 2) xs ++ [.dk (dkm C.ls fun _ => .str "out"), .dk []]) := by simp
    rw [sPutA_ev, eDk_ev, l2, e]
    generalize P ++ MO.dk (dkI 2 0 (P.length + 2) (xs ++ [x])) :: .dk (dkI 2 1 (P.length + 2) xs) :: (mkObjs 2 (Oos C) (P.length + 2) xs ++ [.dk (dkm C.ls fun _ => .str "out"), .dk []]) = Q2 at *
    simp -implicitDefEqProofs [eV, hs, hs5, G2, p2]
  exact (seqN s1).trans s2
theorem grow (hC : COk C) {ed : Str → Nat} (hH : P[N]? = some (.ins "House" F)) (f0 : List.lookup (Str.ofString "editions") F = some (.ref (N + 1))) (f1 : List.lookup (Str.ofString "own") F = some (.ref P.length)) (f2 : List.lookup (Str.ofString "stints") F = some (.ref (P.length + 1))) (f3 : List.lookup (Str.ofString "lanes") F = some (.ref (N + 2)))
    (qE : P[N + 1]? = some (.dk (dkm C.ms fun m => .ref (ed m)))) (qL : P[N + 2]? = some (.lst (C.ls.map .str))) {a b c d z : Option MV} :
    ∃ s', sForD (e1 (fFld "editions" ["House"]) (eV 0)) (gN 5) L0_House___init__ [some (.ref N), a, b, c, d, z, none] (P ++ Gr C (P.length + 2) []) = .nx s' (P ++ Gr C (P.length + 2) C.ms) := by
  have hlt := (List.getElem?_eq_some_iff.mp qE).1
  refine ⟨[some (.ref N), a, b, c, d, lvz z C.ms, none], ?_⟩
  have lkd : ∀ od vs, (P.set (N + 1) (.fdk od vs (dkm C.ms fun m => .ref (ed m))))[N + 1]? = some (.fdk od vs (dkm C.ms fun m => .ref (ed m))) := fun od vs => List.getElem?_set_self hlt
  have hH' : ∀ o, (P.set (N + 1) o)[N]? = some (.ins "House" F) := fun o => by rw [List.getElem?_set_ne (by omega)]; exact hH
  have qL' : ∀ o, (P.set (N + 1) o)[N + 2]? = some (.lst (C.ls.map .str)) := fun o => by rw [List.getElem?_set_ne (by omega)]; exact qL
  refine sForD_at (i := N + 1) (kvs := dkm C.ms fun m => .ref (ed m)) (h0 := P ++ Gr C (P.length + 2) []) ?_ (app_at qE) (fun od vs => ?_) fun od vs => ?_
  · have g := fld_of (h := P ++ Gr C (P.length + 2) []) (f := "editions") (cs := ["House"]) (app_at hH) (by decide) f0
    simp -implicitDefEqProofs [eV, g]
  · rw [List.set_append_left _ _ hlt]
    have g := fld_of (h := P.set (N + 1) (.fdk od vs (dkm C.ms fun m => .ref (ed m))) ++ Gr C (P.length + 2) []) (f := "editions") (cs := ["House"]) (app_at (hH' _)) (by decide) f0
    simp -implicitDefEqProofs [eV, g]
  · rw [List.set_append_left _ _ hlt]
    have pb : P = (P.set (N + 1) (.fdk od vs (dkm C.ms fun m => .ref (ed m)))).set (N + 1) (.dk (dkm C.ms fun m => .ref (ed m))) := (set_back qE).symm
    have pl : (P.set (N + 1) (.fdk od vs (dkm C.ms fun m => .ref (ed m)))).length = P.length := List.length_set
    have q1 := lkd od vs
    have q2 := hH' (.fdk od vs (dkm C.ms fun m => .ref (ed m)))
    have q3 := qL' (.fdk od vs (dkm C.ms fun m => .ref (ed m)))
    generalize P.set (N + 1) (.fdk od vs (dkm C.ms fun m => .ref (ed m))) = P' at *
    rw [← pl] at f1 f2 ⊢
    have R : forG (getFD od vs (N + 1)) (gN 5) L0_House___init__ (C.ms.length + 1) 0 [some (.ref N), a, b, c, d, z, none] (P' ++ Gr C (P'.length + 2) []) = .nx [some (.ref N), a, b, c, d, lvz z C.ms, none] (P' ++ Gr C (P'.length + 2) C.ms) := by
      refine forG_inv (N := C.ms.length) (fun k s h' => s = [some (.ref N), a, b, c, d, lvz z (C.ms.take k), none] ∧ h' = P' ++ Gr C (P'.length + 2) (C.ms.take k))
        (fun r => r = .nx [some (.ref N), a, b, c, d, lvz z C.ms, none] (P' ++ Gr C (P'.length + 2) C.ms)) ?_ ?_ C.ms.length 0 _ _ (by simp) ⟨rfl, rfl⟩
      · rintro s h' ⟨rfl, rfl⟩
        refine ⟨?_, ?_⟩
        · rw [getFD_at (app_at q1), dkm, List.getElem?_map, List.getElem?_eq_none (Nat.le_refl _)]; rfl
        · rw [List.take_length]
      · rintro k s h' hk ⟨rfl, rfl⟩
        refine ⟨.str C.ms[k], [some (.ref N), a, b, c, d, some (.str C.ms[k]), none], ?_, rfl, ?_⟩
        · rw [getFD_at (app_at q1), dkm, List.getElem?_map, List.getElem?_eq_getElem hk]; rfl
        · rw [grow1 hC q2 f1 f2 f3 q3 (not_mem_take hC.nm hk) (by have := hC.ml; rw [List.length_take]; omega) rfl rfl (fun y => rfl), turn_nx]
          exact ⟨by rw [lvz_succ hk], by rw [List.take_succ_eq_append_getElem hk]⟩
    rw [dkm_len, R, unlD_nx (app_at q1), List.set_append_left _ _ (by rw [pl]; exact hlt), ← pb]
end
end Lw
namespace Lw
open PySem L2 Mo
theorem ap_r {A B : MH} {n k : Nat} (e : A.length = n) : (A ++ B)[n + k]? = B[k]? := by
  subst e
  rw [List.getElem?_append_right (by omega), Nat.add_sub_cancel_left]
theorem ap_l {A B : MH} {k : Nat} (e : k < A.length) : (A ++ B)[k]? = A[k]? := List.getElem?_append_left e
def house0 (C : HC) (N bk : Nat) (ed : Str → Nat) : List MO := .ins "House" (hfs C S0 (L0 C N bk ed)) :: (R17 C N ed ++ Gr C (N + 15 + 2 * C.ls.length + 6 * C.ms.length) C.ms)
section
variable {C : HC} {h : MH} {bk mD lD : Nat} {ed : Str → Nat}
theorem house0_run (hC : COk C) (hB : h[bk]? = some (.ins "Book" (bkf C.hb C.hp))) (hM : h[mD]? = some (.dk (dkm C.ms fun m => .ref (ed m)))) (hL : h[lD]? = some (.lst (C.ls.map .str))) :
    m_House___init__ [.ref h.length, .ref bk, .ref mD, .ref lD, .int C.win] (h ++ [.ins "House" []]) = .ok .non (h ++ house0 C h.length bk ed) := by
  have I := init_run (s := [some (.ref h.length), some (.ref bk), some (.ref mD), some (.ref lD), some (.int C.win), none, none]) hC hB hM hL rfl
  have pl : (h ++ MO.ins "House" (hfs C S0 (L0 C h.length bk ed)) :: R17 C h.length ed).length = h.length + 13 + 2 * C.ls.length + 6 * C.ms.length := by
    rw [len_mid, l17]; omega
  have r1 : ∀ k, k < 5 → (h ++ MO.ins "House" (hfs C S0 (L0 C h.length bk ed)) :: R17 C h.length ed)[h.length + 1 + k]? = (R1 C h.length ed)[k]? := fun k hk => by
    rw [atR]; exact ap_l hk
  obtain ⟨s', G⟩ := grow (P := h ++ MO.ins "House" (hfs C S0 (L0 C h.length bk ed)) :: R17 C h.length ed) (N := h.length) (F := hfs C S0 (L0 C h.length bk ed)) (ed := ed) hC at_mid rfl (by rw [pl]; rfl) (by rw [pl, show h.length + 13 + 2 * C.ls.length + 6 * C.ms.length + 1 = h.length + 14 + 2 * C.ls.length + 6 * C.ms.length by omega]; rfl) rfl (r1 0 (by decide)) (r1 1 (by decide))
    (a := some (.ref bk)) (b := some (.ref mD)) (c := some (.ref lD)) (d := some (.int C.win)) (z := none)
  rw [pl, show h.length + 13 + 2 * C.ls.length + 6 * C.ms.length + 2 = h.length + 15 + 2 * C.ls.length + 6 * C.ms.length by omega, app_many, app_many] at G
  have e8 : R8 C h.length [] = Gr C (h.length + 15 + 2 * C.ls.length + 6 * C.ms.length) [] := rfl
  rw [e8, G] at I
  have : m_House___init__ [.ref h.length, .ref bk, .ref mD, .ref lD, .int C.win] (h ++ [.ins "House" []]) = KD (b_House___init__ [some (.ref h.length), some (.ref bk), some (.ref mD), some (.ref lD), some (.int C.win), none, none] (h ++ [.ins "House" []])) := by
    simp -implicitDefEqProofs [m_House___init__, mDef_ev]
  rw [this, I]
  rfl
theorem dkI_at {n off b : Nat} {xs : List Str} {f : Str → MV} (nd : xs.Nodup) (e : ∀ x, MV.ref (b + n * ix xs x + off) = f x) : dkI n off b xs = dkm xs f := by
  rw [dkI_eq xs b nd]
  unfold dkm
  congr 1
  funext x
  exact congrArg _ (e x)
theorem house0_at (hC : COk C) (hB : h[bk]? = some (.ins "Book" (bkf C.hb C.hp))) (hE : ∀ m ∈ C.ms, h[ed m]? = some (.ins "Book" (bkf (C.eb m) (C.ep m)))) : HAt C h.length (h ++ house0 C h.length bk ed) S0 (L0 C h.length bk ed) := by
  have hbk := (List.getElem?_eq_some_iff.mp hB).1
  have hed := fun m hm => (List.getElem?_eq_some_iff.mp (hE m hm)).1
  refine ⟨rfl, ?_, L0_inj hbk hed⟩
  generalize hN : h.length = N
  have sN : ∀ k, (h ++ house0 C N bk ed)[N + 1 + k]? = (R17 C N ed ++ Gr C (N + 15 + 2 * C.ls.length + 6 * C.ms.length) C.ms)[k]? := fun k => by subst hN; exact atR
  have sH : (h ++ house0 C N bk ed)[N]? = some (.ins "House" (hfs C S0 (L0 C N bk ed))) := by subst hN; exact at_mid
  have e4 : (R4 C).length = 2 := rfl
  have e1 : (R1 C N ed).length = 5 := rfl
  generalize hh : h ++ house0 C N bk ed = H at *
  have s1 : ∀ k, k < 5 → H[N + 1 + k]? = (R1 C N ed)[k]? := fun k hk => by rw [sN, R17, List.append_assoc]; exact ap_l hk
  have s2 : ∀ k, k < 1 + C.ls.length → H[N + 6 + k]? = (R2 C N)[k]? := fun k hk => by
    rw [show N + 6 + k = N + 1 + (5 + k) by omega, sN, R17, List.append_assoc, ap_r e1, List.append_assoc]
    exact ap_l (by rw [l2]; exact hk)
  have s3 : ∀ k, k < 1 + C.ls.length → H[N + 7 + C.ls.length + k]? = (R3 C N)[k]? := fun k hk => by
    rw [show N + 7 + C.ls.length + k = N + 1 + (5 + (1 + C.ls.length + k)) by omega, sN, R17, List.append_assoc, ap_r e1, List.append_assoc, ap_r (l2 C N), List.append_assoc]
    exact ap_l (by rw [l3]; exact hk)
  have s4 : ∀ k, k < 2 → H[N + 8 + 2 * C.ls.length + k]? = (R4 C)[k]? := fun k hk => by
    rw [show N + 8 + 2 * C.ls.length + k = N + 1 + (5 + (1 + C.ls.length + (1 + C.ls.length + k))) by omega, sN, R17, List.append_assoc, ap_r e1, List.append_assoc, ap_r (l2 C N), List.append_assoc, ap_r (l3 C N), List.append_assoc]
    exact ap_l hk
  have s5 : ∀ k, k < 1 + C.ms.length → H[N + 10 + 2 * C.ls.length + k]? = (R5 C N)[k]? := fun k hk => by
    rw [show N + 10 + 2 * C.ls.length + k = N + 1 + (5 + (1 + C.ls.length + (1 + C.ls.length + (2 + k)))) by omega, sN, R17, List.append_assoc, ap_r e1, List.append_assoc, ap_r (l2 C N), List.append_assoc, ap_r (l3 C N), List.append_assoc, ap_r e4, List.append_assoc]
    exact ap_l (by rw [l5]; exact hk)
  have s6 : ∀ k, k < 1 + C.ms.length → H[N + 11 + 2 * C.ls.length + C.ms.length + k]? = (R6 C N)[k]? := fun k hk => by
    rw [show N + 11 + 2 * C.ls.length + C.ms.length + k = N + 1 + (5 + (1 + C.ls.length + (1 + C.ls.length + (2 + (1 + C.ms.length + k))))) by omega, sN, R17, List.append_assoc, ap_r e1, List.append_assoc, ap_r (l2 C N), List.append_assoc, ap_r (l3 C N), List.append_assoc, ap_r e4, List.append_assoc, ap_r (l5 C N), List.append_assoc]
    exact ap_l (by rw [l6]; exact hk)
  have s7 : ∀ k, k < 1 + 4 * C.ms.length → H[N + 12 + 2 * C.ls.length + 2 * C.ms.length + k]? = (R7 C N)[k]? := fun k hk => by
    rw [show N + 12 + 2 * C.ls.length + 2 * C.ms.length + k = N + 1 + (5 + (1 + C.ls.length + (1 + C.ls.length + (2 + (1 + C.ms.length + (1 + C.ms.length + k)))))) by omega, sN, R17, List.append_assoc, ap_r e1, List.append_assoc, ap_r (l2 C N), List.append_assoc, ap_r (l3 C N), List.append_assoc, ap_r e4, List.append_assoc, ap_r (l5 C N), List.append_assoc, ap_r (l6 C N)]
    exact ap_l (by rw [l7]; exact hk)
  have s8 : ∀ k, H[N + 13 + 2 * C.ls.length + 6 * C.ms.length + k]? = (Gr C (N + 15 + 2 * C.ls.length + 6 * C.ms.length) C.ms)[k]? := fun k => by
    rw [show N + 13 + 2 * C.ls.length + 6 * C.ms.length + k = N + 1 + (12 + 2 * C.ls.length + 6 * C.ms.length + k) by omega, sN]
    exact ap_r (l17 C N ed)
  have g1 : ∀ {O : Nat → Str → List MO} {b : Nat} {xs : List Str} {y : Str} {d : MO}, (∀ b x, (O b x).length = 1) → y ∈ xs → (d :: mkObjs 1 O b xs)[1 + ix xs y]? = (O (b + 1 * ix xs y) y)[0]? := fun hO hy => by
    rename_i O b xs y d
    rw [show 1 + ix xs y = (1 * ix xs y + 0) + 1 by omega, List.getElem?_cons_succ]; exact mkObjs_get hO _ _ hy (Nat.zero_lt_one)
  intro t lv
  cases t with
  | house => exact sH
  | book => rw [← hh]; exact app_at hB
  | ed m => rw [← hh]; exact app_at (hE m lv)
  | eds => exact s1 0 (by decide)
  | lanes => exact s1 1 (by decide)
  | names => exact s1 2 (by decide)
  | owner => exact s1 3 (by decide)
  | table => exact s1 4 (by decide)
  | slotsD =>
    refine (s2 0 (by omega)).trans ?_
    show some (MO.dk (dkI 1 0 (N + 7) C.ls)) = some (MO.dk _)
    rw [dkI_at hC.nl]
    intro x; simp [L0]
  | slot l =>
    have := ix_lt lv
    have e := (s2 (1 + ix C.ls l) (by omega)).trans (g1 (fun _ _ => rfl) lv)
    rw [show N + 6 + (1 + ix C.ls l) = N + 7 + ix C.ls l by omega] at e
    exact e
  | rowsD =>
    refine (s3 0 (by omega)).trans ?_
    show some (MO.dk (dkI 1 0 (N + 8 + C.ls.length) C.ls)) = some (MO.dk _)
    rw [dkI_at hC.nl]
    intro x; simp [L0]
  | rows l =>
    have := ix_lt lv
    have e := (s3 (1 + ix C.ls l) (by omega)).trans (g1 (fun _ _ => rfl) lv)
    rw [show N + 7 + C.ls.length + (1 + ix C.ls l) = N + 8 + C.ls.length + ix C.ls l by omega] at e
    exact e
  | statusD => exact s4 0 (by decide)
  | ansD =>
    have e := s4 1 (by decide)
    rw [show N + 8 + 2 * C.ls.length + 1 = N + 9 + 2 * C.ls.length by omega] at e
    exact e
  | letD =>
    refine (s5 0 (by omega)).trans ?_
    show some (MO.dk (dkI 1 0 (N + 11 + 2 * C.ls.length) C.ms)) = some (MO.dk _)
    rw [dkI_at hC.nm]
    intro x; simp [L0]
  | lets m =>
    have := ix_lt lv
    have e := (s5 (1 + ix C.ms m) (by omega)).trans (g1 (fun _ _ => rfl) lv)
    rw [show N + 10 + 2 * C.ls.length + (1 + ix C.ms m) = N + 11 + 2 * C.ls.length + ix C.ms m by omega] at e
    exact e
  | postD =>
    refine (s6 0 (by omega)).trans ?_
    show some (MO.dk (dkI 1 0 (N + 12 + 2 * C.ls.length + C.ms.length) C.ms)) = some (MO.dk _)
    rw [dkI_at hC.nm]
    intro x; simp [L0]
  | post m =>
    have := ix_lt lv
    have e := (s6 (1 + ix C.ms m) (by omega)).trans (g1 (fun _ _ => rfl) lv)
    rw [show N + 11 + 2 * C.ls.length + C.ms.length + (1 + ix C.ms m) = N + 12 + 2 * C.ls.length + C.ms.length + ix C.ms m by omega] at e
    exact e
  | awD =>
    refine (s7 0 (by omega)).trans ?_
    show some (MO.dk (dkI 4 1 (N + 13 + 2 * C.ls.length + 2 * C.ms.length) C.ms)) = some (MO.dk _)
    rw [dkI_at hC.nm]
    intro x
    show MV.ref _ = MV.ref (N + 14 + 2 * C.ls.length + 2 * C.ms.length + 4 * ix C.ms x)
    congr 1; omega
  | aw m =>
    have := ix_lt lv
    have e := s7 (1 + (4 * ix C.ms m + 1)) (by omega)
    have g : (R7 C N)[1 + (4 * ix C.ms m + 1)]? = (Oaw (N + 13 + 2 * C.ls.length + 2 * C.ms.length + 4 * ix C.ms m) m)[1]? := by
      rw [R7, Nat.add_comm 1, List.getElem?_cons_succ]; exact mkObjs_get (O := Oaw) (n := 4) (k := 1) (fun _ _ => rfl) _ _ lv (by omega)
    rw [g, show N + 12 + 2 * C.ls.length + 2 * C.ms.length + (1 + (4 * ix C.ms m + 1)) = N + 14 + 2 * C.ls.length + 2 * C.ms.length + 4 * ix C.ms m by omega] at e
    refine e.trans ?_
    show some (MO.ins "Share" [("lanes", .ref (N + 13 + 2 * C.ls.length + 2 * C.ms.length + 4 * ix C.ms m + 3))]) = some (MO.ins "Share" [("lanes", .ref (N + 16 + 2 * C.ls.length + 2 * C.ms.length + 4 * ix C.ms m))])
    rw [show N + 13 + 2 * C.ls.length + 2 * C.ms.length + 4 * ix C.ms m + 3 = N + 16 + 2 * C.ls.length + 2 * C.ms.length + 4 * ix C.ms m by omega]
  | awl m =>
    have := ix_lt lv
    have e := s7 (1 + (4 * ix C.ms m + 3)) (by omega)
    have g : (R7 C N)[1 + (4 * ix C.ms m + 3)]? = (Oaw (N + 13 + 2 * C.ls.length + 2 * C.ms.length + 4 * ix C.ms m) m)[3]? := by
      rw [R7, Nat.add_comm 1, List.getElem?_cons_succ]; exact mkObjs_get (O := Oaw) (n := 4) (k := 3) (fun _ _ => rfl) _ _ lv (by omega)
    rw [g, show N + 12 + 2 * C.ls.length + 2 * C.ms.length + (1 + (4 * ix C.ms m + 3)) = N + 16 + 2 * C.ls.length + 2 * C.ms.length + 4 * ix C.ms m by omega] at e
    exact e
  | ownD =>
    refine (s8 0).trans ?_
    show some (MO.dk (dkI 2 0 _ C.ms)) = some (MO.dk _)
    rw [dkI_at hC.nm]
    intro x; rfl
  | stiD =>
    have e := s8 1
    rw [show N + 13 + 2 * C.ls.length + 6 * C.ms.length + 1 = N + 14 + 2 * C.ls.length + 6 * C.ms.length by omega] at e
    refine e.trans ?_
    show some (MO.dk (dkI 2 1 _ C.ms)) = some (MO.dk _)
    rw [dkI_at hC.nm]
    intro x
    show MV.ref _ = MV.ref (N + 16 + 2 * C.ls.length + 6 * C.ms.length + 2 * ix C.ms x)
    congr 1; omega
  | own m =>
    have e := s8 (2 * ix C.ms m + 0 + 2)
    have g : (Gr C (N + 15 + 2 * C.ls.length + 6 * C.ms.length) C.ms)[2 * ix C.ms m + 0 + 2]? = (Oos C (N + 15 + 2 * C.ls.length + 6 * C.ms.length + 2 * ix C.ms m) m)[0]? := by
      rw [Gr, List.getElem?_cons_succ, List.getElem?_cons_succ]; exact mkObjs_get (O := Oos C) (n := 2) (k := 0) (fun _ _ => rfl) _ _ lv (by omega)
    rw [g, show N + 13 + 2 * C.ls.length + 6 * C.ms.length + (2 * ix C.ms m + 0 + 2) = N + 15 + 2 * C.ls.length + 6 * C.ms.length + 2 * ix C.ms m by omega] at e
    exact e
  | sti m =>
    have e := s8 (2 * ix C.ms m + 1 + 2)
    have g : (Gr C (N + 15 + 2 * C.ls.length + 6 * C.ms.length) C.ms)[2 * ix C.ms m + 1 + 2]? = (Oos C (N + 15 + 2 * C.ls.length + 6 * C.ms.length + 2 * ix C.ms m) m)[1]? := by
      rw [Gr, List.getElem?_cons_succ, List.getElem?_cons_succ]; exact mkObjs_get (O := Oos C) (n := 2) (k := 1) (fun _ _ => rfl) _ _ lv (by omega)
    rw [g, show N + 13 + 2 * C.ls.length + 6 * C.ms.length + (2 * ix C.ms m + 1 + 2) = N + 16 + 2 * C.ls.length + 6 * C.ms.length + 2 * ix C.ms m by omega] at e
    exact e
  | stn k => exact absurd lv (Nat.not_lt_zero _)
  | ltr k => exact absurd lv (Nat.not_lt_zero _)
  | lsh k => exact absurd lv.1 (Nat.not_lt_zero _)
  | lsl k => exact absurd lv.1 (Nat.not_lt_zero _)
  | lgv k => exact absurd lv.1 (Nat.not_lt_zero _)
end
end Lw
namespace Lw
open PySem L2 Mo
theorem cutN_len (z : Str) (lo hi : Option Int) : (cutS z lo hi).length = HT.sIx z.length z.length hi - HT.sIx z.length 0 lo := by
  have h2 : HT.sIx z.length z.length hi ≤ z.length := HT.sIx_le _ _ (Nat.le_refl _) _
  show (((z.cps.toList.drop (HT.sIx z.length 0 lo)).take (HT.sIx z.length z.length hi - HT.sIx z.length 0 lo)).toArray).size = _
  have e : z.cps.toList.length = z.length := rfl
  rw [List.size_toArray, List.length_take, List.length_drop, e]
  omega
theorem bodyN_len {d : List Int} (hd : d.length = 12) : (bodyP d).length = 7 := by
  unfold bodyP
  rw [join0_len, sum_ltr, List.length_take]
  omega
theorem mid_inj {a b : Str} {x y : Int} (e : a ++ ltr x ++ b = a ++ ltr y ++ b) : x.toNat = y.toNat := by
  have t : (a ++ ltr x ++ b).cps.toList = (a ++ ltr y ++ b).cps.toList := by rw [e]
  have tl : ∀ x y : Str, (x ++ y).cps.toList = x.cps.toList ++ y.cps.toList := fun x y => TL.tl_append x y
  rw [tl, tl, tl, tl] at t
  have t1 := List.append_cancel_left (List.append_cancel_right t)
  have t2 : [97 + x.toNat] = [97 + y.toNat] := t1
  have t3 : 97 + x.toNat = 97 + y.toNat := by injection t2
  omega
theorem names_len (c : Int) (n : Nat) : (namesP c n).length = n := by simp [namesP]
end Lw
namespace Lw
open PySem L2 Mo
def wdP (n : Int) : Wd := ⟨if n % 2 = 0 then "asked" else "all", if n / 2 % 2 = 0 then "once" else "back", if n / 4 % 2 = 0 then "once" else "wait", if n / 8 % 3 = 0 then "any" else if n / 8 % 3 = 1 then "owner" else "given"⟩
def wdL (w : Wd) : List MV := [.str w.stop, .str w.move, .str w.out, .str w.marks]
theorem atI_2 {x y : MV} {n : Int} : atI [x, y] (n % 2) = some (if n % 2 = 0 then x else y) := by
  have : n % 2 = 0 ∨ n % 2 = 1 := by omega
  rcases this with e | e <;> rw [e] <;> rfl
theorem atI_3 {x y z : MV} {n : Int} : atI [x, y, z] (n % 3) = some (if n % 3 = 0 then x else if n % 3 = 1 then y else z) := by
  have : n % 3 = 0 ∨ n % 3 = 1 ∨ n % 3 = 2 := by omega
  rcases this with e | e | e <;> rw [e] <;> rfl
theorem ixA_at {h : MH} {i : Nat} {xs : List MV} {k : Int} {v : MV} (e : h[i]? = some (.lst xs)) (a : atI xs k = some v) : fIxA (.ref i) (.int k) h = some (v, h) := by
  rw [fIxA_ev, if_neg (by rw [isDM_lst e]; decide), fIx_ref e, a]; rfl
theorem words_eq (n : Int) (h : MH) : m__law_words [.int n] h = .ok (.ref h.length) (h ++ [.lst (wdL (wdP n))]) := by
  refine gc_newE ?_ rfl
  have i0 : fIxA (.ref h.length) (.int (n % 2)) (h ++ [.lst [.str "asked", .str "all"]]) = some (.str (wdP n).stop, h ++ [.lst [.str "asked", .str "all"]]) := ixA_at at_app0 (by rw [atI_2]; unfold wdP; split <;> rfl)
  have i1 : ∀ x, fIxA (.ref (h.length + 1)) (.int (n / 2 % 2)) (h ++ [x, .lst [.str "once", .str "back"]]) = some (.str (wdP n).move, h ++ [x, .lst [.str "once", .str "back"]]) := fun x => ixA_at (xs := [.str "once", .str "back"]) (by simp [at_app]) (by rw [atI_2]; unfold wdP; split <;> rfl)
  have i2 : ∀ x y z, fIxA (.ref (h.length + 3)) (.int (n / 4 % 2)) (h ++ [x, y, z, .lst [.str "once", .str "wait"]]) = some (.str (wdP n).out, h ++ [x, y, z, .lst [.str "once", .str "wait"]]) := fun x y z => ixA_at (xs := [.str "once", .str "wait"]) (by simp [at_app]) (by rw [atI_2]; unfold wdP; split <;> rfl)
  have i3 : ∀ x y z u, fIxA (.ref (h.length + 4)) (.int (n / 8 % 3)) (h ++ [x, y, z, u, .lst [.str "any", .str "owner", .str "given"]]) = some (.str (wdP n).marks, h ++ [x, y, z, u, .lst [.str "any", .str "owner", .str "given"]]) := fun x y z u => ixA_at (xs := [.str "any", .str "owner", .str "given"]) (by simp [at_app]) (by rw [atI_3]; unfold wdP; split <;> (try split) <;> rfl)
  have a1 : ∀ x y z u, fAdd (.ref (h.length + 2)) (.ref (h.length + 5)) (h ++ [x, y, .lst [.str (wdP n).stop, .str (wdP n).move], z, u, .lst [.str (wdP n).out, .str (wdP n).marks]]) = some (.ref (h.length + 6), h ++ [x, y, .lst [.str (wdP n).stop, .str (wdP n).move], z, u, .lst [.str (wdP n).out, .str (wdP n).marks], .lst (wdL (wdP n))]) := fun x y z u => by
    simp [fAdd, at_app, wdL]
    show 4 ≤ SZ
    decide
  have z2 : 2 ≤ SZ := by decide
  have z3 : 3 ≤ SZ := by decide
  generalize wdP n = w at *
  refine ⟨6, ?_⟩
  refine ⟨[.lst [.str "asked", .str "all"], .lst [.str "once", .str "back"], .lst [.str w.stop, .str w.move], .lst [.str "once", .str "wait"], .lst [.str "any", .str "owner", .str "given"], .lst [.str w.out, .str w.marks], .lst (wdL w)], ?_, rfl⟩
  simp -implicitDefEqProofs [b__law_words, mDef_ev, eV, -fIxA_ev, i0, i1, i2, i3, a1, z2, z3]
end Lw
namespace Lw
open PySem L2 Mo
section
variable {P T : MH} {d : List Int} {hn : Int}
end
end Lw
namespace Lw
open PySem L2 Mo
structure SU (H : MH) (su : Nat) (ms ls : List Str) (hn win : Int) (M Lr Hd Fo : Nat) (rs : List Nat) : Prop where
  top : H[su]? = some (MO.lst [.ref M, .ref Lr, .ref Hd, .ref Fo, .int win])
  m : H[M]? = some (MO.lst (ms.map .str))
  l : H[Lr]? = some (MO.lst (ls.map .str))
  hd : H[Hd]? = some (MO.lst (wdL (wdP hn)))
  fo : H[Fo]? = some (MO.lst (rs.map .ref))
  rl : rs.length = ms.length
  rw : ∀ (j r : Nat), rs[j]? = some r → ∃ n : Int, H[r]? = some (MO.lst (wdL (wdP n)))
theorem SU.app {H T : MH} {su : Nat} {ms ls : List Str} {hn win : Int} {M Lr Hd Fo : Nat} {rs : List Nat} (U : SU H su ms ls hn win M Lr Hd Fo rs) : SU (H ++ T) su ms ls hn win M Lr Hd Fo rs :=
  ⟨app_at U.top, app_at U.m, app_at U.l, app_at U.hd, app_at U.fo, U.rl, fun j r e => by
    obtain ⟨n, hn⟩ := U.rw j r e
    exact ⟨n, app_at hn⟩⟩
end Lw
namespace Lw
open PySem L2 Mo
def wdOk (w : Wd) : Prop := (Str.ofString "asked" = w.stop ∨ Str.ofString "all" = w.stop) ∧ (Str.ofString "once" = w.move ∨ Str.ofString "back" = w.move) ∧ (Str.ofString "once" = w.out ∨ Str.ofString "wait" = w.out) ∧ (Str.ofString "any" = w.marks ∨ Str.ofString "owner" = w.marks ∨ Str.ofString "given" = w.marks)
theorem wdP_ok (n : Int) : wdOk (wdP n) := by
  refine ⟨?_, ?_, ?_, ?_⟩
  · unfold wdP; dsimp only; split <;> simp
  · unfold wdP; dsimp only; split <;> simp
  · unfold wdP; dsimp only; split <;> simp
  · unfold wdP; dsimp only; split
    · simp
    · split <;> simp
def prW (w : Wd) : List MV := [.tup [.str "stop", .str w.stop], .tup [.str "move", .str w.move], .tup [.str "out", .str w.out], .tup [.str "marks", .str w.marks]]
theorem book_init {h : MH} {w : Wd} (hw : wdOk w) :
    m_Book___init__ [.ref h.length, .str w.stop, .str w.move, .str w.out, .str w.marks] (h ++ [.ins "Book" []]) = .ok .non (h ++ [.ins "Book" (bkf w (h.length + 1)), .lst (prW w)]) := by
  obtain ⟨w1, w2, w3, w4⟩ := hw
  have w1' : ¬ (¬ Str.ofString "asked" = w.stop ∧ ¬ Str.ofString "all" = w.stop) := fun z => w1.elim z.1 z.2
  have w2' : ¬ (¬ Str.ofString "once" = w.move ∧ ¬ Str.ofString "back" = w.move) := fun z => w2.elim z.1 z.2
  have w3' : ¬ (¬ Str.ofString "once" = w.out ∧ ¬ Str.ofString "wait" = w.out) := fun z => w3.elim z.1 z.2
  have w4' : ¬ (¬ Str.ofString "any" = w.marks ∧ ¬ Str.ofString "owner" = w.marks ∧ ¬ Str.ofString "given" = w.marks) := fun z => w4.elim z.1 fun q => q.elim z.2.1 z.2.2
  have p : ∀ f v fs cs, "Book" ∈ cs → fs.length < 1000 → putI f cs (.ref h.length) v (h ++ [.ins "Book" fs]) = some (h ++ [.ins "Book" (putFM f v fs)]) := fun f v fs cs hc hl => by
    rw [putI_ref at_app0, if_pos ⟨hc, hl⟩, set_app0']
  have p2 : ∀ f v fs cs o, "Book" ∈ cs → fs.length < 1000 → putI f cs (.ref h.length) v (h ++ [.ins "Book" fs, o]) = some (h ++ [.ins "Book" (putFM f v fs), o]) := fun f v fs cs o hc hl => by
    rw [putI_ref at_mid, if_pos ⟨hc, hl⟩, set_mid]
  simp -implicitDefEqProofs [m_Book___init__, b_Book___init__, L0_Book___init__, mDef_ev, eV, SZ, forG_ev, k_STOPS, k_MOVES, k_OUTS, k_MARKS, w1', w2', w3', w4', p, p2, bkf, prW]
theorem book_new {h : MH} {i : Nat} {w : Wd} (hw : wdOk w) (hi : h[i]? = some (.lst (wdL w))) : m__law_book [.ref i] h = .ok (.ref h.length) (h ++ [.ins "Book" (bkf w (h.length + 1)), .lst (prW w)]) := by
  have B := book_init (h := h) hw
  refine gc_keep (k := 0) (o := .ins "Book" (bkf w (h.length + 1))) ?_ rfl rfl
  have i0 := ixA_at (k := 0) (v := .str w.stop) hi rfl
  have i1 := ixA_at (k := 1) (v := .str w.move) hi rfl
  have i2 := ixA_at (k := 2) (v := .str w.out) hi rfl
  have i3 := ixA_at (k := 3) (v := .str w.marks) hi rfl
  have pk : pickL [(0, 0), (2, 0), (2, 1), (2, 2), (2, 3)] [MV.ref h.length] [] [.str w.stop, .str w.move, .str w.out, .str w.marks] = [.ref h.length, .str w.stop, .str w.move, .str w.out, .str w.marks] := rfl
  simp -implicitDefEqProofs [b__law_book, mDef_ev, eV, -fIxA_ev, i0, i1, i2, i3, pk, B]
section
variable {h : MH} {su : Nat} {ms ls : List Str} {hn win : Int} {M Lr Hd Fo : Nat} {rs : List Nat}
end
end Lw
namespace Lw
open PySem L2 Mo
section
variable {C : HC} {a N : Nat} {h g : MH} {S S1 : HS} {L L1 : HL} {m l : Str}
end
end Lw
namespace Lw
open PySem L2 Mo
def Out (C : HC) (S : HS) (L : HL) (h : MH) (i : Nat) : Prop := i < h.length ∧ ∀ t, live C S t → L t ≠ i
section
variable {C : HC} {a N : Nat} {h h' g : MH} {S S' : HS} {L L' : HL} {m l w : Str} {st sd : Str → Str}
theorem Out.app (o : Out C S L h i) : Out C S L (h ++ g) i := ⟨by simp; have := o.1; omega, o.2⟩
end
end Lw
namespace Lw
open PySem L2 Mo
section
variable {C : HC} {a : Nat} {h h' : MH} {S : HS} {L : HL} {nm : Str} {F : MF} {v x y : MV} {i : Nat} {s : Lo} {e e' : ME}
theorem ev_m1 (A : HAt C a h S L) (lk : (hfs C S L).lookup nm = none) (h0 : s[i]? = some (some (.ref a))) (he : e s h = .ok x h) (p : F [.ref a, x] h = .ok v h') : eMeth "House" nm 2 F (eV i) (aCons e aNil) s h = .ok v h' := by
  have k : ∀ n f as s, KMt (.ok (.ref a) h) "House" nm n f as s = KMt2 (as s h) n f (.ref a) := fun n f as s => A.cl lk
  simp -implicitDefEqProofs [eV, h0, k, he, p]
theorem ex_of {m : ME} (p : m s h = .ok v h') : sExp m s h = .nx s h' := by
  simp -implicitDefEqProofs [p]
theorem ex_m1 (A : HAt C a h S L) (lk : (hfs C S L).lookup nm = none) (h0 : s[i]? = some (some (.ref a))) (he : e s h = .ok x h) (p : F [.ref a, x] h = .ok v h') : sExp (eMeth "House" nm 2 F (eV i) (aCons e aNil)) s h = .nx s h' := ex_of (ev_m1 A lk h0 he p)
theorem eV_at (h0 : s[i]? = some (some x)) : eV i s h = .ok x h := by simp [eV, h0]
end
end Lw
namespace Lw
open PySem L2 Mo
theorem atN {x : MV} {xs : List MV} {k : Nat} (e : xs[k]? = some x) : atI xs (k : Nat) = some x := by rw [atI_ofNat]; exact e
section
variable {C : HC} {a : Nat} {h h1 : MH} {S : HS} {L : HL} {m l : Str}
theorem slot_eqX (A : HAt C a h S L) (hl : l ∈ C.ls) : m_House_slot [.ref a, .str l] h = .ok (.ref (L (.slot l))) h := by
  have k1 : ∀ n f as s, KMt (.ok (.ref a) h) "House" "check_lane" n f as s = KMt2 (as s h) n f (.ref a) := fun n f as s => A.cl rfl
  simp -implicitDefEqProofs [m_House_slot, b_House_slot, mDef_ev, eV, -fIxA_ev, k1, check_lane_ok A hl, A.fH, A.ixL hl]
theorem mark_getX (A : HAt C a h S L) (hl : l ∈ C.ls) : m_Slot_mark [.ref (L (.slot l))] h = .ok (.int (S.row l)) h := by
  simp -implicitDefEqProofs [m_Slot_mark, b_Slot_mark, mDef_ev, eV, A.fS hl]
theorem sent_eqX (A : HAt C a h S L) (hm : m ∈ C.ms) (hp : (S.post m).length ≤ SZ) : m_House_sent [.ref a, .str m] h = .ok (.ref h.length) (h ++ [.lst ((S.post m).map fun p => wrB p.1 m)]) := by
  have k1 : ∀ n f as s, KMt (.ok (.ref a) h) "House" "check_member" n f as s = KMt2 (as s h) n f (.ref a) := fun n f as s => A.cl rfl
  have q : h[L (.post m)]? = some (.lst ((S.post m).map fun p => .tup [wrB p.1 m, .ref (L (.stn p.2))])) := A.obj (.post m) hm
  have G := lcS_run (h := h) (s := [some (.ref a), some (.str m), none, none]) (g := gT [2, 3]) (c := bYes) (m := Z0_House_sent) (xs := (S.post m).map fun p => .tup [wrB p.1 m, .ref (L (.stn p.2))]) (f := fun v => match v with | .tup (x :: _) => x | _ => .non) (p := fun _ => true) (by rw [List.length_map]; exact hp) q (fun x hx => by
    obtain ⟨p, hp, rfl⟩ := List.mem_map.mp hx
    exact ⟨[some (.ref a), some (.str m), some (wrB p.1 m), some (.ref (L (.stn p.2)))], rfl, fun acc => ⟨rfl, fun _ => by simp [Z0_House_sent, eV]⟩⟩)
  rw [List.filter_eq_self.mpr (fun _ _ => rfl), List.map_map] at G
  have G : lcV (gT [2, 3]) bYes Z0_House_sent [some (.ref a), some (.str m), none, none] (.ref (L (.post m))) h = .ok (.ref h.length) (h ++ [.lst ((S.post m).map fun p => wrB p.1 m)]) := G
  have CK := check_member_ok A hm
  have IX : fIxA (.ref (L .postD)) (.str m) h = some (.ref (L (.post m)), h) := ix_dkm (A.obj .postD trivial) hm
  simp -implicitDefEqProofs [m_House_sent, b_House_sent, mDef_ev, eV, -fIxA_ev, k1, CK, A.fH, IX, eLc_ev, KCo_ok, wipeM, G]
end
end Lw
namespace Lw
open PySem L2 Mo
theorem nm_inj7 {d : List Int} (hd : d.length = 12) {i j : Nat} (hi : i < 7) (hj : j < 7) (e : nmAt d i = nmAt d j) : i = j := by
  have b := bodyN_len hd
  unfold nmAt at e
  split at e
  · have q := mid_inj e
    have a0 : 0 ≤ (dI d 11 + i * (1 + dI d 7 % 4)) % 26 := Int.emod_nonneg _ (by decide)
    have b0 : 0 ≤ (dI d 11 + j * (1 + dI d 7 % 4)) % 26 := Int.emod_nonneg _ (by decide)
    have q2 : (dI d 11 + i * (1 + dI d 7 % 4)) % 26 = (dI d 11 + j * (1 + dI d 7 % 4)) % 26 := by omega
    have c0 : 0 ≤ dI d 7 % 4 := Int.emod_nonneg _ (by decide)
    have c1 : dI d 7 % 4 < 4 := Int.emod_lt_of_pos _ (by decide)
    generalize dI d 7 % 4 = c at *
    generalize dI d 11 = z at *
    have : c = 0 ∨ c = 1 ∨ c = 2 ∨ c = 3 := by omega
    rcases this with rfl | rfl | rfl | rfl <;> omega
  · have q : (cutS (bodyP d ++ ltr (dI d 7)) none (some (1 + (dI d 9 + i) % 8))).length = (cutS (bodyP d ++ ltr (dI d 7)) none (some (1 + (dI d 9 + j) % 8))).length := by rw [e]
    have u0 : 0 ≤ (dI d 9 + i) % 8 := Int.emod_nonneg _ (by decide)
    have u1 : (dI d 9 + i) % 8 < 8 := Int.emod_lt_of_pos _ (by decide)
    have v0 : 0 ≤ (dI d 9 + j) % 8 := Int.emod_nonneg _ (by decide)
    have v1 : (dI d 9 + j) % 8 < 8 := Int.emod_lt_of_pos _ (by decide)
    have w : (dI d 9 + i) % 8 = (dI d 9 + j) % 8 := by
      generalize (dI d 9 + i) % 8 = u at *
      generalize (dI d 9 + j) % 8 = v at *
      obtain ⟨u, rfl⟩ := Int.eq_ofNat_of_zero_le u0
      obtain ⟨v, rfl⟩ := Int.eq_ofNat_of_zero_le v0
      have e1 : (1 : Int) + (u : Int) = ((1 + u : Nat) : Int) := by omega
      have e2 : (1 : Int) + (v : Int) = ((1 + v : Nat) : Int) := by omega
      rw [cutN_len, cutN_len, str_app_len, ltr_len, b, e1, e2, HT.sIx_none, HT.sIx_nat, HT.sIx_nat] at q
      omega
    omega
theorem names_nodup7 (c : Int) {n : Nat} (hn : n ≤ 7) : (namesP c n).Nodup := by
  have hd : (rowP c 12 26).length = 12 := rowGo_length _ _ _ _ _
  unfold namesP
  generalize rowP c 12 26 = d at *
  unfold List.Nodup
  rw [List.pairwise_map]
  refine List.Pairwise.imp_of_mem ?_ (List.nodup_range (n := n))
  intro i j hi hj ne e
  rw [List.mem_range] at hi hj
  exact ne (nm_inj7 hd (by omega) (by omega) e)
end Lw
namespace Lw
open PySem L2 Mo
section
variable {C : HC} {a M Lr O : Nat} {h H : MH} {S : HS} {L : HL} {m l : Str} {os : List Str} {x5 : Option MV}
theorem led_in (A : HAt C a h S L) : m_Ledger___contains__ [.ref (L .owner), .str l] h = .ok (.bl (decide (l ∈ C.ls))) h := by
  simp -implicitDefEqProofs [m_Ledger___contains__, b_Ledger___contains__, mDef_ev, eV, -fInA_ev, A.fO, A.inL]
theorem done_eq9 (A : HAt C a h S0 L) (hl : l ∈ C.ls) : m_House_done [.ref a, .str l] h = .ok (.ref h.length) (h ++ [.lst []]) := by
  have k1 : ∀ n f as s, KMt (.ok (.ref a) h) "House" "check_lane" n f as s = KMt2 (as s h) n f (.ref a) := fun n f as s => A.cl rfl
  have q : h[L (.rows l)]? = some (.lst []) := A.obj (.rows l) hl
  have FL : fList [.ref (L (.rows l))] h = some (.ref h.length, h ++ [.lst []]) := by
    rw [fList_ref q]
  simp -implicitDefEqProofs [m_House_done, b_House_done, mDef_ev, eV, -fIxA_ev, k1, check_lane_ok A hl, A.fH, A.ixL hl, FL]
theorem mRc_nil {h : MH} {i j : Nat} (h1 : h[i]? = some (.lst [])) (h2 : h[j]? = some (.lst [])) : mRc h (.ref i) (.ref j) = some true := by
  rw [mRc_ll h1 h2]; rfl
theorem place19 : S0.place m l = Str.ofString "out" := by
  have n1 : ¬ (S0.status m = Str.ofString "in") := by show ¬ (Str.ofString "out" = Str.ofString "in"); decide +kernel
  have n2 : ¬ (l ∈ S0.awaits m) := fun q => by cases q
  have n3 : ¬ (S0.status m = Str.ofString "lost") := by show ¬ (Str.ofString "out" = Str.ofString "lost"); decide +kernel
  unfold HS.place bare
  rw [if_neg n1, if_neg n2, if_neg n3]
theorem lane19 (A : HAt C a H S0 L) (hl : l ∈ C.ls) (hml : C.ms.length < 64) (qM : H[M]? = some (.lst (C.ms.map .str))) :
    ∃ g, L1__law_is_new [some (.ref a), some (.ref M), some (.ref Lr), some (.ref O), some (.str l), none] H = .nx [some (.ref a), some (.ref M), some (.ref Lr), some (.ref O), some (.str l), none] (H ++ g) := by
  have zz : SZ = 16777216 := rfl
  have z0 : 0 ≤ SZ := by decide
  have t3 : tabB "int" "bool" = some false := by decide +kernel
  have s0 : (sIf (bOr (bB (e2 fNotN (eIxO [("Ledger", m_Ledger___getitem__)] (e1 (fFld "owner" ["Slot", "House"]) (eV 0)) (eV 4)) (eC .non))) (bB (e2 fNe (eMeth "House" "done" 2 m_House_done (eV 0) (aCons (eV 4) (aNil))) (eA fLst (aNil))))) (sRet (eC (.bl false))) (sNx)) [some (.ref a), some (.ref M), some (.ref Lr), some (.ref O), some (.str l), none] H = .nx [some (.ref a), some (.ref M), some (.ref Lr), some (.ref O), some (.str l), none] (H ++ [.lst []] ++ [.lst []]) := by
    have IO := A.isO
    have fH := A.fH
    have P : m_Ledger___getitem__ [.ref (L .owner), .str l] H = .ok .non H := led_get A hl
    have DN := done_eq9 A hl
    have k1 : ∀ n f as s, KMt (.ok (.ref a) H) "House" "done" n f as s = KMt2 (as s H) n f (.ref a) := fun n f as s => A.cl rfl
    have M1 : mRc (H ++ [.lst []] ++ [.lst []]) (.ref H.length) (.ref (H.length + 1)) = some true := mRc_nil (app_at at_app0) (by rw [show H.length + 1 = (H ++ [MO.lst []]).length from by simp]; exact at_app0)
    have hX' : H ++ [MO.lst [], MO.lst []] = H ++ [MO.lst []] ++ [MO.lst []] := by simp
    generalize hX : H ++ [MO.lst []] ++ [MO.lst []] = X at *
    simp -implicitDefEqProofs [eV, fH, IO, P, k1, DN, z0, hX', M1]
  have A1 := (A.app [MO.lst []]).app [MO.lst []]
  have qM1 := app_at (t := [MO.lst []]) (app_at (t := [MO.lst []]) qM)
  obtain ⟨T, hT⟩ : ∃ T, H ++ [MO.lst []] ++ [MO.lst []] = H ++ T := ⟨_, List.append_assoc _ _ _⟩
  generalize H ++ [MO.lst []] ++ [MO.lst []] = H1 at *
  have s1 : (sIf (bOr (bB (e2 fNe (eProp "Slot" m_Slot_mark (eMeth "House" "slot" 2 m_House_slot (eV 0) (aCons (eV 4) (aNil)))) (eC (.int 0)))) (bT (eA (fIsi ownT) (aCons (eProp "Slot" m_Slot_mark (eMeth "House" "slot" 2 m_House_slot (eV 0) (aCons (eV 4) (aNil)))) (aCons (eC (.ty "bool")) (aNil)))))) (sRet (eC (.bl false))) (sNx)) [some (.ref a), some (.ref M), some (.ref Lr), some (.ref O), some (.str l), none] H1 = .nx [some (.ref a), some (.ref M), some (.ref Lr), some (.ref O), some (.str l), none] H1 := by
    have k1 : ∀ n f as s, KMt (.ok (.ref a) H1) "House" "slot" n f as s = KMt2 (as s H1) n f (.ref a) := fun n f as s => A1.cl rfl
    have SE := slot_eqX A1 hl
    have MG : m_Slot_mark [.ref (L (.slot l))] H1 = .ok (.int 0) H1 := mark_getX A1 hl
    have IS : insC H1 (.ref (L (.slot l))) = some "Slot" := insC_ref (A1.obj (.slot l) hl)
    simp -implicitDefEqProofs [eV, k1, SE, MG, IS, fIsi, tyM, isiM, ownOf, tabT, t3]
  have LC2 : lcV (gN 5) ZT1__law_is_new Z1__law_is_new [some (.ref a), some (.ref M), some (.ref Lr), some (.ref O), some (.str l), none] (.ref M) H1 = .ok (.ref H1.length) (H1 ++ [.lst []]) := by
    have G := lcS_run (h := H1) (s := [some (.ref a), some (.ref M), some (.ref Lr), some (.ref O), some (.str l), none]) (g := gN 5) (c := ZT1__law_is_new) (m := Z1__law_is_new) (xs := C.ms.map .str) (f := id) (p := fun _ => false) (by rw [List.length_map]; omega) qM1 (fun x hx => by
      obtain ⟨z, hz, rfl⟩ := List.mem_map.mp hx
      refine ⟨[some (.ref a), some (.ref M), some (.ref Lr), some (.ref O), some (.str l), some (.str z)], rfl, fun acc => ?_⟩
      have A2 := A1.app [.lst acc]
      have PL := place_ok A2 hz hl
      rw [place19] at PL
      generalize hX : H1 ++ [MO.lst acc] = X at *
      have k1 : ∀ n f as s, KMt (.ok (.ref a) X) "House" "place" n f as s = KMt2 (as s X) n f (.ref a) := fun n f as s => A2.cl rfl
      constructor
      · simp -implicitDefEqProofs [ZT1__law_is_new, eV, k1, PL]
      · intro z; cases z)
    rw [G]
    congr 3
    simp
  have s2 : (sIf (bB (e2 fNe (eLc (eV 1) (gN 5) (ZT1__law_is_new) Z1__law_is_new [5]) (eA fLst (aNil)))) (sRet (eC (.bl false))) (sNx)) [some (.ref a), some (.ref M), some (.ref Lr), some (.ref O), some (.str l), none] H1 = .nx [some (.ref a), some (.ref M), some (.ref Lr), some (.ref O), some (.str l), none] (H1 ++ [.lst []] ++ [.lst []]) := by
    have M1 : mRc (H1 ++ [.lst []] ++ [.lst []]) (.ref H1.length) (.ref (H1.length + 1)) = some true := mRc_nil (app_at at_app0) (by rw [show H1.length + 1 = (H1 ++ [MO.lst []]).length from by simp]; exact at_app0)
    have hX' : H1 ++ [MO.lst [], MO.lst []] = H1 ++ [MO.lst []] ++ [MO.lst []] := by simp
    generalize hX : H1 ++ [MO.lst []] ++ [MO.lst []] = X at *
    simp -implicitDefEqProofs [eV, eLc_ev, KCo_ok, wipeM, LC2, z0, hX', M1]
  refine ⟨T ++ ([.lst []] ++ [.lst []]), ?_⟩
  unfold L1__law_is_new
  rw [seqN s0, seqN s1, s2, hT, List.append_assoc, List.append_assoc]
theorem sent19 (A : HAt C a H S0 L) (hml : C.ms.length < 64) (qM : H[M]? = some (.lst (C.ms.map .str))) :
    ∃ g, lcV (gN 5) ZT3__law_is_new Z3__law_is_new [some (.ref a), some (.ref M), some (.ref Lr), some (.ref O), x5, none] (.ref M) H = .ok (.ref H.length) (H ++ .lst [] :: g) := by
  have z0 : 0 ≤ SZ := by decide
  have sq : seqOf H (.ref M) = some (C.ms.map .str) := seqOf_ref qM
  rw [lcV_ref sq]
  refine lcG_inv (N := (C.ms.map MV.str).length) (fun k h' => ∃ g, h' = H ++ .lst [] :: g) (fun r => ∃ g, r = .ok (.ref H.length) (H ++ .lst [] :: g)) ?_ ?_ (C.ms.map MV.str).length 0 _ (by simp) ⟨[], rfl⟩
  · rintro h' ⟨g, rfl⟩
    refine ⟨?_, g, rfl⟩
    unfold getSeq
    rw [seqOf_ref (app_at qM)]
    simp
  · rintro k h' hk ⟨g, rfl⟩
    have hk' : k < C.ms.length := by simpa using hk
    have A1 := A.app (.lst [] :: g)
    have SE := sent_eqX A1 (List.getElem_mem hk') (by show 0 ≤ SZ; decide)
    have SE : m_House_sent [.ref a, .str C.ms[k]] (H ++ .lst [] :: g) = .ok (.ref (H ++ .lst [] :: g).length) (H ++ .lst [] :: g ++ [.lst []]) := SE
    refine ⟨.str C.ms[k], [some (.ref a), some (.ref M), some (.ref Lr), some (.ref O), x5, some (.str C.ms[k])], ?_, rfl, .inl ⟨H ++ .lst [] :: g ++ [.lst []] ++ [.lst []], ?_, g ++ [.lst []] ++ [.lst []], by simp⟩⟩
    · unfold getSeq
      rw [seqOf_ref (app_at qM)]
      simp [hk']
    · have M1 : mRc (H ++ .lst [] :: g ++ [.lst []] ++ [.lst []]) (.ref (H ++ .lst [] :: g).length) (.ref ((H ++ .lst [] :: g).length + 1)) = some true := mRc_nil (app_at at_app0) (by rw [show (H ++ .lst [] :: g).length + 1 = (H ++ .lst [] :: g ++ [MO.lst []]).length from by (simp; omega)]; exact at_app0)
      generalize hG : H ++ MO.lst [] :: g = G at *
      have k1 : ∀ n f as s, KMt (.ok (.ref a) G) "House" "sent" n f as s = KMt2 (as s G) n f (.ref a) := fun n f as s => A1.cl rfl
      have hX' : G ++ [MO.lst [], MO.lst []] = G ++ [MO.lst []] ++ [MO.lst []] := by simp
      generalize hX : G ++ [MO.lst []] ++ [MO.lst []] = X at *
      simp -implicitDefEqProofs [ZT3__law_is_new, eV, k1, SE, z0, hX', M1]
theorem new19 (A : HAt C a h S0 L) (hC : COk C) (qM : h[M]? = some (.lst (C.ms.map .str))) (qL : h[Lr]? = some (.lst (C.ls.map .str))) (qo : h[O]? = some (.lst (os.map .str))) :
    m__law_is_new [.ref a, .ref M, .ref Lr, .ref O] h = .ok (.bl true) h := by
  have zz : SZ = 16777216 := rfl
  have z0 : 0 ≤ SZ := by decide
  have hll := hC.ll
  have hml := hC.ml
  have t3 : tabB "int" "bool" = some false := by decide +kernel
  refine gc_okE ?_ rfl
  have ex : (mDef 6 b__law_is_new) [.ref a, .ref M, .ref Lr, .ref O] h = KD (b__law_is_new [some (.ref a), some (.ref M), some (.ref Lr), some (.ref O), none, none] h) := by
    simp -implicitDefEqProofs [mDef_ev]
  have s0 : (sIf (bOr (bB (e2 fNe (e1 (fFld "round" ["House"]) (eV 0)) (eC (.int 0)))) (bOr (bT (eA (fIsi ownT) (aCons (e1 (fFld "round" ["House"]) (eV 0)) (aCons (eC (.ty "bool")) (aNil))))) (bOr (bB (e2 fNotB (e1 (fFld "called" ["House"]) (eV 0)) (eC (.bl false)))) (bB (e2 fNotN (e1 (fFld "held" ["House"]) (eV 0)) (eC .non)))))) (sRet (eC (.bl false))) (sNx)) [some (.ref a), some (.ref M), some (.ref Lr), some (.ref O), none, none] h = .nx [some (.ref a), some (.ref M), some (.ref Lr), some (.ref O), none, none] h := by
    have fH := A.fH
    have e1' : S0.round = 0 := rfl
    have e2' : S0.called = false := rfl
    have e3' : S0.held = .non := rfl
    rw [e1', e2', e3'] at fH
    simp -implicitDefEqProofs [eV, fH, fIsi, tyM, isiM, ownOf, tabT, t3]
  have qT : h[L .table]? = some (.dk (dkm C.ls fun l => ov (S0.owner l))) := A.obj .table trivial
  have qO : h[L .owner]? = some (.ins "Ledger" [("names", .ref (L .names)), ("table", .ref (L .table))]) := A.obj .owner trivial
  have qH : h[a]? = some (.ins "House" (hfs C S0 L)) := by have := A.obj .house trivial; rw [A.ha] at this; exact this
  have nO : L .table ≠ L .owner := fun e => by rw [e, qO] at qT; cases qT
  have nH : L .table ≠ a := fun e => by rw [e, qH] at qT; cases qT
  have IT : ∀ {H : MH}, H[a]? = some (.ins "House" (hfs C S0 L)) → H[L .owner]? = some (.ins "Ledger" [("names", .ref (L .names)), ("table", .ref (L .table))]) → e1 (fItrD "Ledger" "table") (e1 (fFld "owner" ["Slot", "House"]) (eV 0)) [some (.ref a), some (.ref M), some (.ref Lr), some (.ref O), none, none] H = .ok (.ref (L .table)) H := fun q1 q2 => by
    have f1 : fFld "owner" ["Slot", "House"] (.ref a) _ = some (.ref (L .owner), _) := fld_of q1 (by decide) rfl
    have f2 := fItrD_at (c := "Ledger") (f := "table") q2 rfl
    simp -implicitDefEqProofs [eV, f1, f2]
  have LC := lcD_strs (it := e1 (fItrD "Ledger" "table") (e1 (fFld "owner" ["Slot", "House"]) (eV 0))) (j := 4) (us := [4]) (c := bYes) (me := Z0__law_is_new) (p := fun _ => true) (F := fun l => ov (S0.owner l)) (xs := C.ls) (s := [some (.ref a), some (.ref M), some (.ref Lr), some (.ref O), none, none]) (IT qH qO) qT hll
    (fun od vs => IT (by rw [List.getElem?_set_ne nH]; exact qH) (by rw [List.getElem?_set_ne nO]; exact qO))
    (fun od vs x hx acc => rfl)
    (fun od vs x hx acc => by simp -implicitDefEqProofs [Z0__law_is_new, eV, wipeM])
  rw [List.filter_eq_self.mpr fun _ _ => rfl] at LC
  have M1 : mRc (h ++ [.lst (C.ls.map .str)]) (.ref h.length) (.ref Lr) = some true := by rw [mRc_strs at_app0 (app_at qL), decide_eq_true rfl]
  have A1 := A.app [.lst (C.ls.map .str)]
  have qM1 := app_at (t := [MO.lst (C.ls.map .str)]) qM
  have qL1 := app_at (t := [MO.lst (C.ls.map .str)]) qL
  have qo1 := app_at (t := [MO.lst (C.ls.map .str)]) qo
  obtain ⟨T1, hT1⟩ : ∃ T, h ++ [MO.lst (C.ls.map .str)] = h ++ T := ⟨_, rfl⟩
  clear IT qH qO qT
  generalize h ++ [MO.lst (C.ls.map .str)] = H1 at *
  obtain ⟨g, dl, D, dd⟩ := due_ok A1 hC rfl (fun x hx => by show 0 < 1000; decide) (fun x hx => by show 0 < SZ; decide)
  have nd : S0.dealDue C = false := rfl
  rw [nd] at dd
  simp only [Bool.false_eq_true, if_false] at dd
  subst dd
  have e1' : S0.dueR C = [] := by
    unfold HS.dueR
    rw [List.filter_eq_nil_iff.mpr fun x hx => by simp [S0]]; rfl
  have e2' : S0.dueO C = [] := by
    unfold HS.dueO
    rw [List.filter_eq_nil_iff.mpr fun x hx => by simp [S0]]; rfl
  have e3' : S0.dueH C = [] := by
    unfold HS.dueH
    rw [List.filter_eq_nil_iff.mpr fun x hx => by show ¬ decide (Str.ofString "out" = Str.ofString "lost") = true; decide +kernel]; rfl
  have e4' : S0.dueC C = [] := by
    unfold HS.dueC
    refine if_neg fun q => ?_
    unfold HS.callDue at q
    have ib : S0.inB C = [] := List.filter_eq_nil_iff.mpr fun x hx => by show ¬ decide (Str.ofString "out" = Str.ofString "in") = true; decide +kernel
    rw [ib] at q
    simp at q
  rw [e1', e2', e3', e4'] at D
  simp only [List.nil_append, List.append_nil] at D
  have GE : ∀ s : Lo, s[0]? = some (some (.ref a)) → eGenM "House" "due" mg_House_due (eV 0) s H1 = .ok (.ref (H1 ++ g).length) ((H1 ++ g) ++ [.lst []]) := fun s h0 => by
    unfold eGenM
    simp only [eV, h0]
    show gKLm "House" "due" mg_House_due (.ref a) H1 = _
    simp only [gKLm, A1.hs]
    rw [if_pos ⟨trivial, rfl⟩]
    simp only [gKL, D]
    rfl
  have GE := GE [some (.ref a), some (.ref M), some (.ref Lr), some (.ref O), none, none] rfl
  have M2 : mRc ((H1 ++ g) ++ [.lst []] ++ [.lst []]) (.ref (H1 ++ g).length) (.ref ((H1 ++ g).length + 1)) = some true := mRc_nil (app_at at_app0) (by rw [show (H1 ++ g).length + 1 = (H1 ++ g ++ [MO.lst []]).length from by (simp; omega)]; exact at_app0)
  have A2 := ((A1.app g).app [MO.lst []]).app [MO.lst []]
  have qM2 := app_at (t := [MO.lst []]) (app_at (t := [MO.lst []]) (app_at (t := g) qM1))
  have qL2 := app_at (t := [MO.lst []]) (app_at (t := [MO.lst []]) (app_at (t := g) qL1))
  have qo2 := app_at (t := [MO.lst []]) (app_at (t := [MO.lst []]) (app_at (t := g) qo1))
  have hT2 : (H1 ++ g) ++ [.lst []] ++ [.lst []] = h ++ (T1 ++ g ++ [.lst []] ++ [.lst []]) := by rw [hT1]; simp
  have s1 : (sIf (bOr (bB (e2 fNe (eLcD (e1 (fItrD "Ledger" "table") (e1 (fFld "owner" ["Slot", "House"]) (eV 0))) (gN 4) (bYes) Z0__law_is_new [4]) (eV 2))) (bB (e2 fNe (eGenM "House" "due" mg_House_due (eV 0)) (eA fLst (aNil))))) (sRet (eC (.bl false))) (sNx)) [some (.ref a), some (.ref M), some (.ref Lr), some (.ref O), none, none] h = .nx [some (.ref a), some (.ref M), some (.ref Lr), some (.ref O), none, none] ((H1 ++ g) ++ [.lst []] ++ [.lst []]) := by
    clear A2 qM2 qL2 qo2 D hT2
    generalize eLcD (e1 (fItrD "Ledger" "table") (e1 (fFld "owner" ["Slot", "House"]) (eV 0))) (gN 4) (bYes) Z0__law_is_new [4] = E at *
    generalize eGenM "House" "due" mg_House_due (eV 0) = E2 at *
    have hX' : H1 ++ g ++ [MO.lst [], MO.lst []] = H1 ++ g ++ [MO.lst []] ++ [MO.lst []] := by simp
    have ln : (H1 ++ g ++ [MO.lst []]).length = (H1 ++ g).length + 1 := by (simp; omega)
    generalize hX : H1 ++ g ++ [MO.lst []] ++ [MO.lst []] = X at *
    generalize hY : H1 ++ g ++ [MO.lst []] = Y at *
    generalize (H1 ++ g).length = n at *
    simp -implicitDefEqProofs [eV, LC, M1, GE, z0, ln, hX, M2]
  obtain ⟨T2, hT2⟩ : ∃ T, (H1 ++ g) ++ [.lst []] ++ [.lst []] = h ++ T := ⟨_, hT2⟩
  clear GE D M1 M2 LC
  generalize (H1 ++ g) ++ [MO.lst []] ++ [.lst []] = H2 at *
  have lp : ∃ y, forG (getSeq (.ref O)) (gN 4) L0__law_is_new ((os.map MV.str).length + 1) 0 [some (.ref a), some (.ref M), some (.ref Lr), some (.ref O), none, none] H2 = .nx [some (.ref a), some (.ref M), some (.ref Lr), some (.ref O), y, none] H2 := by
    refine forS_inv (v := .ref O) (xs := os.map .str) (fun k s h' => (∃ y, s = [some (.ref a), some (.ref M), some (.ref Lr), some (.ref O), y, none]) ∧ h' = H2) (fun r => ∃ y, r = .nx [some (.ref a), some (.ref M), some (.ref Lr), some (.ref O), y, none] H2) ⟨⟨none, rfl⟩, rfl⟩ ?_ ?_ ?_
    · rintro k s h' ⟨_, rfl⟩
      exact seqOf_ref qo2
    · rintro k s h' hk ⟨⟨y, rfl⟩, rfl⟩
      have hk' : k < os.length := by simpa using hk
      have e : (os.map MV.str)[k] = .str os[k] := by simp
      rw [e]
      refine ⟨[some (.ref a), some (.ref M), some (.ref Lr), some (.ref O), some (.str os[k]), none], rfl, ?_⟩
      have T : L0__law_is_new [some (.ref a), some (.ref M), some (.ref Lr), some (.ref O), some (.str os[k]), none] h' = .nx [some (.ref a), some (.ref M), some (.ref Lr), some (.ref O), some (.str os[k]), none] h' := by
        have I1 := fIn_strs (x := os[k]) qL2
        have I2 := led_in (l := os[k]) A2
        have IO := A2.isO
        have fH := A2.fH
        generalize os[k] = y at *
        simp -implicitDefEqProofs [L0__law_is_new, eV, -fInA_ev, fH, IO, I1, I2]
      rw [T, turn_nx]
      exact ⟨⟨_, rfl⟩, rfl⟩
    · rintro s h' ⟨⟨y, rfl⟩, rfl⟩
      exact ⟨y, rfl⟩
  obtain ⟨y, lp⟩ := lp
  have s2 : (sFor (eV 3) (gN 4) (L0__law_is_new)) [some (.ref a), some (.ref M), some (.ref Lr), some (.ref O), none, none] H2 = .nx [some (.ref a), some (.ref M), some (.ref Lr), some (.ref O), y, none] H2 := by
    have ev : (eV 3) [some (.ref a), some (.ref M), some (.ref Lr), some (.ref O), none, none] H2 = .ok (.ref O) H2 := eV_at rfl
    rw [sFor_ev, ev, KFo_ref qo2, lp]
  have lp2 : ∃ z g, forG (getSeq (.ref Lr)) (gN 4) L1__law_is_new ((C.ls.map MV.str).length + 1) 0 [some (.ref a), some (.ref M), some (.ref Lr), some (.ref O), y, none] H2 = .nx [some (.ref a), some (.ref M), some (.ref Lr), some (.ref O), z, none] (H2 ++ g) := by
    refine forS_inv (v := .ref Lr) (xs := C.ls.map .str) (fun k s h' => (∃ z, s = [some (.ref a), some (.ref M), some (.ref Lr), some (.ref O), z, none]) ∧ ∃ g, h' = H2 ++ g) (fun r => ∃ z g, r = .nx [some (.ref a), some (.ref M), some (.ref Lr), some (.ref O), z, none] (H2 ++ g)) ⟨⟨y, rfl⟩, [], by simp⟩ ?_ ?_ ?_
    · rintro k s h' ⟨_, g, rfl⟩
      exact seqOf_ref (app_at qL2)
    · rintro k s h' hk ⟨⟨z, rfl⟩, g, rfl⟩
      have hk' : k < C.ls.length := by simpa using hk
      have e : (C.ls.map MV.str)[k] = .str C.ls[k] := by simp
      rw [e]
      refine ⟨[some (.ref a), some (.ref M), some (.ref Lr), some (.ref O), some (.str C.ls[k]), none], rfl, ?_⟩
      obtain ⟨g2, E⟩ := lane19 (Lr := Lr) (O := O) (A2.app g) (List.getElem_mem hk') hml (app_at qM2)
      rw [E, turn_nx]
      exact ⟨⟨_, rfl⟩, g ++ g2, by rw [List.append_assoc]⟩
    · rintro s h' ⟨⟨z, rfl⟩, g, rfl⟩
      exact ⟨z, g, rfl⟩
  obtain ⟨z, g3, lp2⟩ := lp2
  have s3 : (sFor (eV 2) (gN 4) (L1__law_is_new)) [some (.ref a), some (.ref M), some (.ref Lr), some (.ref O), y, none] H2 = .nx [some (.ref a), some (.ref M), some (.ref Lr), some (.ref O), z, none] (H2 ++ g3) := by
    have ev : (eV 2) [some (.ref a), some (.ref M), some (.ref Lr), some (.ref O), y, none] H2 = .ok (.ref Lr) H2 := eV_at rfl
    rw [sFor_ev, ev, KFo_ref qL2, lp2]
  obtain ⟨g4, LC4⟩ := sent19 (Lr := Lr) (O := O) (x5 := z) (A2.app g3) hml (app_at qM2)
  have s4 : (sRet (e2 fEq (eLc (eV 1) (gN 5) (ZT3__law_is_new) Z3__law_is_new [5]) (eA fLst (aNil)))) [some (.ref a), some (.ref M), some (.ref Lr), some (.ref O), z, none] (H2 ++ g3) = .rt (.bl true) (H2 ++ g3 ++ .lst [] :: g4 ++ [.lst []]) := by
    have M1 : mRc (H2 ++ g3 ++ .lst [] :: g4 ++ [.lst []]) (.ref (H2 ++ g3).length) (.ref (H2 ++ g3 ++ .lst [] :: g4).length) = some true := mRc_nil (app_at at_app0) at_app0
    generalize hX : H2 ++ g3 ++ .lst [] :: g4 ++ [.lst []] = X at *
    generalize hY : H2 ++ g3 ++ .lst [] :: g4 = Y at *
    generalize hZ : H2 ++ g3 = Z at *
    simp -implicitDefEqProofs [eV, eLc_ev, KCo_ok, wipeM, LC4, z0, hX, M1]
  refine ⟨T2 ++ (g3 ++ .lst [] :: g4 ++ [.lst []]), ?_⟩
  rw [ex]
  unfold b__law_is_new
  rw [seqN s0, seqN s1, seqN s2, seqN s3, s4, hT2]
  simp only [List.append_assoc]
  rfl
end
end Lw
namespace Lw
open PySem L2 Mo
def edQ (N : Nat) (ms : List Str) (m : Str) : Nat := N + 2 + 3 * ix ms m
def bk19 (ws : Nat → Wd) (N : Nat) (k : Nat) : MH := (List.range k).flatMap fun i => [MO.lst (wdL (ws i)), .ins "Book" (bkf (ws i) (N + 3 + 3 * i)), .lst (prW (ws i))]
theorem bk19_len {ws : Nat → Wd} {N : Nat} : ∀ k, (bk19 ws N k).length = 3 * k
  | 0 => rfl
  | k + 1 => by
    unfold bk19
    rw [List.range_succ, List.flatMap_append, List.length_append]
    have := bk19_len (ws := ws) (N := N) k
    unfold bk19 at this
    rw [this]
    rfl
theorem bk19_snoc {ws : Nat → Wd} {N k : Nat} : bk19 ws N (k + 1) = bk19 ws N k ++ [MO.lst (wdL (ws k)), .ins "Book" (bkf (ws k) (N + 3 + 3 * k)), .lst (prW (ws k))] := by
  unfold bk19
  rw [List.range_succ, List.flatMap_append]
  rfl
theorem bk19_at {ws : Nat → Wd} {N : Nat} : ∀ {k i : Nat}, i < k → (bk19 ws N k)[3 * i + 1]? = some (MO.ins "Book" (bkf (ws i) (N + 3 + 3 * i)))
  | k + 1, i, hi => by
    rw [bk19_snoc]
    by_cases c : i < k
    · rw [List.getElem?_append_left (by rw [bk19_len]; omega)]
      exact bk19_at c
    · have : i = k := by omega
      subst this
      rw [List.getElem?_append_right (by rw [bk19_len]; omega), bk19_len, show 3 * i + 1 - 3 * i = 1 from by omega]
      rfl
theorem ix_at {ms : List Str} (nd : ms.Nodup) {k : Nat} (hk : k < ms.length) : ix ms ms[k] = k := by
  have e := ix_get (List.getElem_mem hk)
  have l := ix_lt (List.getElem_mem hk)
  exact (List.getElem?_inj l nd).mp (e.trans (List.getElem?_eq_getElem hk).symm)
theorem rng1_i {j : Nat} (hj : j < 4611686018427387904) : rng1 [.int j] = some (0, j) := by
  have c : -(2 ^ 62) ≤ (j : Int) ∧ (j : Int) < 2 ^ 62 := by constructor <;> omega
  have : rng1 [.int j] = if -(2 ^ 62) ≤ (j : Int) ∧ (j : Int) < 2 ^ 62 then some (0, (j : Int).toNat) else none := by
    delta rng1
    rfl
  rw [this, if_pos c]
  rfl
section
variable {h : MH} {d : List Int} {ms ls : List Str} {Z : MV} {x2 x3 : Option MV}
theorem books19 (q0 : h[0]? = some (.lst (d.map .int))) (qM : h[3]? = some (.lst (ms.map .str))) (nd : ms.Nodup) (ml : ms.length < 64) (ld : ms.length ≤ d.length) :
    ∃ y7, forG (getR 0 ms.length) (gN 7) L0_law (ms.length + 1) 0 [some (Z), some (.ref 0), x2, x3, some (.ref 3), some (.ref 4), some (.ref h.length), none, none, none, none] (h ++ [.dk []]) = .nx [some (Z), some (.ref 0), x2, x3, some (.ref 3), some (.ref 4), some (.ref h.length), y7, none, none, none] (h ++ .dk (dkm ms fun m => .ref (edQ h.length ms m)) :: bk19 (fun i => wdP (dI d i)) h.length ms.length) := by
  have zz : SZ = 16777216 := rfl
  refine forR_inv (lo := 0) (n := ms.length) (fun k s h' => (∃ y7, s = [some (Z), some (.ref 0), x2, x3, some (.ref 3), some (.ref 4), some (.ref h.length), y7, none, none, none]) ∧ h' = h ++ .dk (dkm (ms.take k) fun m => .ref (edQ h.length ms m)) :: bk19 (fun i => wdP (dI d i)) h.length k)
    (fun r => ∃ y7, r = .nx [some (Z), some (.ref 0), x2, x3, some (.ref 3), some (.ref 4), some (.ref h.length), y7, none, none, none] (h ++ .dk (dkm ms fun m => .ref (edQ h.length ms m)) :: bk19 (fun i => wdP (dI d i)) h.length ms.length)) ⟨⟨none, rfl⟩, rfl⟩ ?_ ?_
  · rintro k s h' hk ⟨⟨y7, rfl⟩, rfl⟩
    refine ⟨[some (Z), some (.ref 0), x2, x3, some (.ref 3), some (.ref 4), some (.ref h.length), some (.int (k : Nat)), none, none, none], by rw [Int.zero_add]; rfl, ?_⟩
    have lh : (h ++ MO.dk (dkm (ms.take k) fun m => .ref (edQ h.length ms m)) :: bk19 (fun i => wdP (dI d i)) h.length k).length = h.length + 1 + 3 * k := by
      rw [List.length_append, List.length_cons, bk19_len]; omega
    have WW := words_eq (dI d k) (h ++ MO.dk (dkm (ms.take k) fun m => .ref (edQ h.length ms m)) :: bk19 (fun i => wdP (dI d i)) h.length k)
    have B := book_new (h := h ++ MO.dk (dkm (ms.take k) fun m => .ref (edQ h.length ms m)) :: bk19 (fun i => wdP (dI d i)) h.length k ++ [.lst (wdL (wdP (dI d k)))]) (wdP_ok (dI d k)) at_app0
    have lh2 : (h ++ MO.dk (dkm (ms.take k) fun m => .ref (edQ h.length ms m)) :: bk19 (fun i => wdP (dI d i)) h.length k ++ [MO.lst (wdL (wdP (dI d k)))]).length = h.length + 2 + 3 * k := by
      rw [List.length_append, lh]; simp; omega
    have j1 : fIxA (.ref 0) (.int (k : Nat)) (h ++ MO.dk (dkm (ms.take k) fun m => .ref (edQ h.length ms m)) :: bk19 (fun i => wdP (dI d i)) h.length k) = some (.int (dI d k), h ++ MO.dk (dkm (ms.take k) fun m => .ref (edQ h.length ms m)) :: bk19 (fun i => wdP (dI d i)) h.length k) := ixA_row (d := d) (R := 0) (app_at q0) k (by omega)
    have j4 : fIxA (.ref 3) (.int (k : Nat)) (h ++ MO.dk (dkm (ms.take k) fun m => .ref (edQ h.length ms m)) :: bk19 (fun i => wdP (dI d i)) h.length k ++ [MO.lst (wdL (wdP (dI d k)))] ++ [MO.ins "Book" (bkf (wdP (dI d k)) (h.length + 2 + 3 * k + 1)), .lst (prW (wdP (dI d k)))]) = some (.str ms[k], h ++ MO.dk (dkm (ms.take k) fun m => .ref (edQ h.length ms m)) :: bk19 (fun i => wdP (dI d i)) h.length k ++ [MO.lst (wdL (wdP (dI d k)))] ++ [MO.ins "Book" (bkf (wdP (dI d k)) (h.length + 2 + 3 * k + 1)), .lst (prW (wdP (dI d k)))]) :=
      ixA_at (app_at (app_at (app_at qM))) (atN (by rw [List.getElem?_map, List.getElem?_eq_getElem hk]; rfl))
    rw [lh2] at B
    rw [lh] at WW B
    have q0' : (h ++ MO.dk (dkm (ms.take k) fun m => .ref (edQ h.length ms m)) :: bk19 (fun i => wdP (dI d i)) h.length k ++ [MO.lst (wdL (wdP (dI d k)))] ++ [MO.ins "Book" (bkf (wdP (dI d k)) (h.length + 2 + 3 * k + 1)), .lst (prW (wdP (dI d k)))])[h.length]? = some (.dk (dkm (ms.take k) fun m => .ref (edQ h.length ms m))) := app_at (app_at at_mid)
    have P : putA (.ref h.length) (.str ms[k]) (.ref (h.length + 2 + 3 * k)) (h ++ MO.dk (dkm (ms.take k) fun m => .ref (edQ h.length ms m)) :: bk19 (fun i => wdP (dI d i)) h.length k ++ [MO.lst (wdL (wdP (dI d k)))] ++ [MO.ins "Book" (bkf (wdP (dI d k)) (h.length + 2 + 3 * k + 1)), .lst (prW (wdP (dI d k)))]) = some (h ++ MO.dk (dkm (ms.take (k + 1)) fun m => .ref (edQ h.length ms m)) :: bk19 (fun i => wdP (dI d i)) h.length (k + 1)) := by
      have tk := take_dkm (f := fun m => MV.ref (edQ h.length ms m)) hk nd
      have ee : edQ h.length ms ms[k] = h.length + 2 + 3 * k := by unfold edQ; rw [ix_at nd hk]
      rw [ee] at tk
      rw [putA_dk q0' rfl, if_pos (by rw [dkm_len, List.length_take]; omega), tk, app_many, app_many, set_mid, bk19_snoc, show h.length + 2 + 3 * k + 1 = h.length + 3 + 3 * k from by omega]
      rfl
    have T : L0_law [some (Z), some (.ref 0), x2, x3, some (.ref 3), some (.ref 4), some (.ref h.length), some (.int (k : Nat)), none, none, none] (h ++ MO.dk (dkm (ms.take k) fun m => .ref (edQ h.length ms m)) :: bk19 (fun i => wdP (dI d i)) h.length k) = .nx [some (Z), some (.ref 0), x2, x3, some (.ref 3), some (.ref 4), some (.ref h.length), some (.int (k : Nat)), none, none, none] (h ++ MO.dk (dkm (ms.take (k + 1)) fun m => .ref (edQ h.length ms m)) :: bk19 (fun i => wdP (dI d i)) h.length (k + 1)) := by
      generalize h ++ MO.dk (dkm (ms.take (k + 1)) fun m => .ref (edQ h.length ms m)) :: bk19 (fun i => wdP (dI d i)) h.length (k + 1) = X2 at *
      generalize h ++ MO.dk (dkm (ms.take k) fun m => .ref (edQ h.length ms m)) :: bk19 (fun i => wdP (dI d i)) h.length k ++ [MO.lst (wdL (wdP (dI d k)))] ++ [MO.ins "Book" (bkf (wdP (dI d k)) (h.length + 2 + 3 * k + 1)), .lst (prW (wdP (dI d k)))] = X3 at *
      generalize h ++ MO.dk (dkm (ms.take k) fun m => .ref (edQ h.length ms m)) :: bk19 (fun i => wdP (dI d i)) h.length k ++ [MO.lst (wdL (wdP (dI d k)))] = X4 at *
      generalize h ++ MO.dk (dkm (ms.take k) fun m => .ref (edQ h.length ms m)) :: bk19 (fun i => wdP (dI d i)) h.length k = X1 at *
      generalize ms[k] = mk at *
      simp -implicitDefEqProofs [L0_law, eV, -fIxA_ev, j1, WW, B, j4, P]
    rw [T, turn_nx]
    exact ⟨⟨_, rfl⟩, rfl⟩
  · rintro s h' ⟨⟨y7, rfl⟩, rfl⟩
    rw [List.take_length]
    exact ⟨y7, rfl⟩
end
end Lw
namespace Lw
open PySem L2 Mo
section
variable {h : MH} {d : List Int} {ms ls : List Str} {Z : MV} {x2 x3 : Option MV}
def Wn (win x : Int) : Prop := win = if x < 8 then 5 else 1 + x % 9
theorem L0_ge {C : HC} {N bk : Nat} {ed : Str → Nat} : ∀ t, mtb t = true → live C S0 t → N ≤ L0 C N bk ed t := fun t mt lt => by
  cases t <;> first | (exact absurd lt (Nat.not_lt_zero _)) | (exact absurd lt.1 (Nat.not_lt_zero _)) | (cases mt; done) | skip
  all_goals simp only [L0]
  all_goals omega
theorem L0_ne {C : HC} {N bk i : Nat} {ed : Str → Nat} (hb : bk ≠ i) (he : ∀ m ∈ C.ms, ed m ≠ i) (hi : i < N) : ∀ t, live C S0 t → L0 C N bk ed t ≠ i := fun t lt => by
  by_cases m : mtb t = true
  · have := L0_ge (bk := bk) (ed := ed) (N := N) t m lt
    omega
  · cases t <;> first | (exact absurd rfl m) | (exact absurd lt (Nat.not_lt_zero _)) | (exact absurd lt.1 (Nat.not_lt_zero _)) | skip
    · exact hb
    · exact he _ lt
theorem house19 (q0 : h[0]? = some (.lst (d.map .int))) (qM : h[3]? = some (.lst (ms.map .str))) (qL : h[4]? = some (.lst (ls.map .str))) (ld : d.length = 10) (b0 : 0 ≤ dI d 9)
    (nd : ms.Nodup) (ml : ms.length ≤ 6) (ndl : ls.Nodup) (ll : ls.length < 64) :
    ∃ y7 h' Li a C L, (∀ rest, (sSeq (sForR rng1 (aCons (eA fLen (aCons (eV 4) (aNil))) (aNil)) (gN 7) (L0_law)) (sSeq (sAsg (eA fList (aCons (eV 5) (aNil))) (gN 8)) (sSeq (sIf (bB (e2 fLt (e2 fIxA (eV 1) (eC (.int 9))) (eC (.int 8)))) (sAsg (eMk "House" 3 0 5 m_House___init__ (gPat [(0, 0), (0, 1), (0, 2), (0, 3), (1, 0)] [(.int 5)]) (aCons (call 1 m__law_book (aCons (call 1 m__law_words (aCons (e2 fIxA (eV 1) (eC (.int 6))) (aNil))) (aNil))) (aCons (eV 6) (aCons (eV 8) (aNil)))) aNil) (gN 9)) (sAsg (eMk "House" 3 1 5 m_House___init__ (gPat [(0, 0), (0, 1), (0, 2), (0, 3), (2, 0)] []) (aCons (call 1 m__law_book (aCons (call 1 m__law_words (aCons (e2 fIxA (eV 1) (eC (.int 6))) (aNil))) (aNil))) (aCons (eV 6) (aCons (eV 8) (aNil)))) (aCons (e2 fAdd (eC (.int 1)) (e2 fMod (eA fInt (aCons (e2 fIxA (eV 1) (eC (.int 9))) (aNil))) (eC (.int 9)))) (aNil))) (gN 9))) rest))) [some (Z), some (.ref 0), x2, x3, some (.ref 3), some (.ref 4), some (.ref h.length), none, none, none, none] (h ++ [.dk []]) = rest [some (Z), some (.ref 0), x2, x3, some (.ref 3), some (.ref 4), some (.ref h.length), y7, some (.ref Li), some (.ref a), none] h') ∧ C.ms = ms ∧ C.ls = ls ∧ COk C ∧ HAt C a h' S0 L ∧ (∀ i, i < h.length → h'[i]? = h[i]? ∧ Out C S0 L h' i) ∧
      (∃ f, h'[h.length]? = some (.dk (dkm ms f))) ∧ Out C S0 L h' h.length ∧ h'[Li]? = some (.lst (ls.map .str)) ∧ Out C S0 L h' Li ∧ Li ≠ h.length ∧ h.length < Li := by
  have zz : SZ = 16777216 := rfl
  obtain ⟨y7, lp⟩ := books19 (Z := Z) (x2 := x2) (x3 := x3) q0 qM nd (by omega) (by omega)
  have s6 : (sForR rng1 (aCons (eA fLen (aCons (eV 4) (aNil))) (aNil)) (gN 7) (L0_law)) [some (Z), some (.ref 0), x2, x3, some (.ref 3), some (.ref 4), some (.ref h.length), none, none, none, none] (h ++ [.dk []]) = .nx [some (Z), some (.ref 0), x2, x3, some (.ref 3), some (.ref 4), some (.ref h.length), y7, none, none, none] (h ++ .dk (dkm ms fun m => .ref (edQ h.length ms m)) :: bk19 (fun i => wdP (dI d i)) h.length ms.length) := by
    have LN : fLen [.ref 3] (h ++ [.dk []]) = some (.int ms.length, h ++ [.dk []]) := by rw [fLen_ref (app_at qM), List.length_map]
    have ev : (aCons (eA fLen (aCons (eV 4) (aNil))) (aNil)) [some (Z), some (.ref 0), x2, x3, some (.ref 3), some (.ref 4), some (.ref h.length), none, none, none, none] (h ++ [.dk []]) = .ok [.int ms.length] (h ++ [.dk []]) := by
      simp -implicitDefEqProofs [eV, LN]
    rw [sForR_ev, ev, KFR_ok (rng1_i (by omega)), lp]
  have l1 : (h ++ MO.dk (dkm ms fun m => .ref (edQ h.length ms m)) :: bk19 (fun i => wdP (dI d i)) h.length ms.length).length = h.length + 1 + 3 * ms.length := by
    rw [List.length_append, List.length_cons, bk19_len]; omega
  have qD1 : (h ++ MO.dk (dkm ms fun m => .ref (edQ h.length ms m)) :: bk19 (fun i => wdP (dI d i)) h.length ms.length)[h.length]? = some (.dk (dkm ms fun m => .ref (edQ h.length ms m))) := at_mid
  have qE1 : ∀ m ∈ ms, (h ++ MO.dk (dkm ms fun m => .ref (edQ h.length ms m)) :: bk19 (fun i => wdP (dI d i)) h.length ms.length)[edQ h.length ms m]? = some (.ins "Book" (bkf (wdP (dI d (ix ms m))) (h.length + 3 + 3 * ix ms m))) := fun m hm => by
    unfold edQ
    rw [List.getElem?_append_right (by omega), show h.length + 2 + 3 * ix ms m - h.length = 3 * ix ms m + 1 + 1 from by omega, List.getElem?_cons_succ]
    exact bk19_at (ws := fun i => wdP (dI d i)) (ix_lt hm)
  have eL : ∀ m ∈ ms, edQ h.length ms m < h.length + 1 + 3 * ms.length := fun m hm => by have := ix_lt hm; unfold edQ; omega
  have old1 : ∀ i, i < h.length → (h ++ MO.dk (dkm ms fun m => .ref (edQ h.length ms m)) :: bk19 (fun i => wdP (dI d i)) h.length ms.length)[i]? = h[i]? := fun i hi => List.getElem?_append_left hi
  have q01 : (h ++ MO.dk (dkm ms fun m => .ref (edQ h.length ms m)) :: bk19 (fun i => wdP (dI d i)) h.length ms.length)[0]? = some (.lst (d.map .int)) := app_at q0
  have qL1 : (h ++ MO.dk (dkm ms fun m => .ref (edQ h.length ms m)) :: bk19 (fun i => wdP (dI d i)) h.length ms.length)[4]? = some (.lst (ls.map .str)) := app_at qL
  clear lp
  generalize (h ++ MO.dk (dkm ms fun m => .ref (edQ h.length ms m)) :: bk19 (fun i => wdP (dI d i)) h.length ms.length) = H1 at *
  have s7 : (sAsg (eA fList (aCons (eV 5) (aNil))) (gN 8)) [some (Z), some (.ref 0), x2, x3, some (.ref 3), some (.ref 4), some (.ref h.length), y7, none, none, none] H1 = .nx [some (Z), some (.ref 0), x2, x3, some (.ref 3), some (.ref 4), some (.ref h.length), y7, some (.ref H1.length), none, none] (H1 ++ [.lst (ls.map .str)]) := by
    have := fList_ref qL1
    simp -implicitDefEqProofs [eV, this]
  let w := wdP (dI d 6)
  have wk : wdOk w := wdP_ok _
  have WW : m__law_words [.int (dI d 6)] (H1 ++ [.lst (ls.map .str)]) = .ok (.ref (H1 ++ [MO.lst (ls.map .str)]).length) ((H1 ++ [.lst (ls.map .str)]) ++ [.lst (wdL w)]) := words_eq (dI d 6) (H1 ++ [.lst (ls.map .str)])
  have bnH := book_new (h := (H1 ++ [MO.lst (ls.map .str)]) ++ [.lst (wdL w)]) wk at_app0
  have j6 : fIxA (.ref 0) (.int 6) (H1 ++ [.lst (ls.map .str)]) = some (.int (dI d 6), H1 ++ [.lst (ls.map .str)]) := ixA_row (d := d) (R := 0) (app_at q01) 6 (by omega)
  have j9 : ∀ T, fIxA (.ref 0) (.int 9) (H1 ++ T) = some (.int (dI d 9), H1 ++ T) := fun T => ixA_row (d := d) (R := 0) (app_at q01) 9 (by omega)
  have lX : ((H1 ++ [MO.lst (ls.map .str)]) ++ [MO.lst (wdL w)]).length = H1.length + 2 := by simp
  have lY : (H1 ++ [MO.lst (ls.map .str)]).length = H1.length + 1 := by simp
  rw [lX, lY] at bnH
  rw [lY] at WW
  -- the house
  obtain ⟨win, hwin⟩ : ∃ win : Int, Wn win (dI d 9) := ⟨_, rfl⟩
  let C : HC := ⟨ms, ls, w, fun m => wdP (dI d (ix ms m)), H1.length + 2 + 1, fun m => h.length + 3 + 3 * ix ms m, win⟩
  have hC : COk C := ⟨by show ms.length < 64; omega, ll, nd, ndl⟩
  obtain ⟨Q, hQ⟩ : ∃ Q : MH, Q = H1 ++ [MO.lst (ls.map .str)] ++ [.lst (wdL w)] ++ [MO.ins "Book" (bkf w (H1.length + 2 + 1)), .lst (prW w)] := ⟨_, rfl⟩
  have lQ : Q.length = H1.length + 4 := by rw [hQ]; simp
  have qBk : Q[H1.length + 2]? = some (.ins "Book" (bkf C.hb C.hp)) := by
    have e0 : (H1 ++ [MO.lst (ls.map .str)] ++ [MO.lst (wdL w)] ++ [MO.ins "Book" (bkf w (H1.length + 2 + 1)), .lst (prW w)])[((H1 ++ [MO.lst (ls.map .str)]) ++ [MO.lst (wdL w)]).length]? = some (MO.ins "Book" (bkf w (H1.length + 2 + 1))) := at_app0
    rw [lX] at e0
    rw [hQ]; exact e0
  have qEd : Q[h.length]? = some (.dk (dkm C.ms fun m => .ref (edQ h.length ms m))) := by rw [hQ]; exact app_at (app_at (app_at qD1))
  have qLr : Q[H1.length]? = some (.lst (C.ls.map .str)) := by rw [hQ]; exact app_at (app_at at_app0)
  have RUN := house0_run (C := C) hC qBk qEd qLr
  have AT := house0_at (C := C) hC qBk (ed := fun m => edQ h.length ms m) fun m hm => by rw [hQ]; exact app_at (app_at (app_at (qE1 m hm)))
  have outs : ∀ i, i < h.length + 1 ∨ i = H1.length → Out C S0 (L0 C Q.length (H1.length + 2) fun m => edQ h.length ms m) (Q ++ house0 C Q.length (H1.length + 2) fun m => edQ h.length ms m) i := fun i hi => by
    refine ⟨by rw [List.length_append]; omega, fun t lt => ?_⟩
    refine L0_ne (by omega) (fun m hm e => ?_) (by omega) t lt
    have := eL m hm
    unfold edQ at this e
    omega
  have s8 : (sIf (bB (e2 fLt (e2 fIxA (eV 1) (eC (.int 9))) (eC (.int 8)))) (sAsg (eMk "House" 3 0 5 m_House___init__ (gPat [(0, 0), (0, 1), (0, 2), (0, 3), (1, 0)] [(.int 5)]) (aCons (call 1 m__law_book (aCons (call 1 m__law_words (aCons (e2 fIxA (eV 1) (eC (.int 6))) (aNil))) (aNil))) (aCons (eV 6) (aCons (eV 8) (aNil)))) aNil) (gN 9)) (sAsg (eMk "House" 3 1 5 m_House___init__ (gPat [(0, 0), (0, 1), (0, 2), (0, 3), (2, 0)] []) (aCons (call 1 m__law_book (aCons (call 1 m__law_words (aCons (e2 fIxA (eV 1) (eC (.int 6))) (aNil))) (aNil))) (aCons (eV 6) (aCons (eV 8) (aNil)))) (aCons (e2 fAdd (eC (.int 1)) (e2 fMod (eA fInt (aCons (e2 fIxA (eV 1) (eC (.int 9))) (aNil))) (eC (.int 9)))) (aNil))) (gN 9))) [some (Z), some (.ref 0), x2, x3, some (.ref 3), some (.ref 4), some (.ref h.length), y7, some (.ref H1.length), none, none] (H1 ++ [.lst (ls.map .str)]) = .nx [some (Z), some (.ref 0), x2, x3, some (.ref 3), some (.ref 4), some (.ref h.length), y7, some (.ref H1.length), some (.ref Q.length), none] (Q ++ house0 C Q.length (H1.length + 2) fun m => edQ h.length ms m) := by
    have pk1 : ∀ a b c d : MV, pickL [(0, 0), (0, 1), (0, 2), (0, 3), (1, 0)] [a, b, c, d] [.int 5] [] = [a, b, c, d, .int 5] := fun _ _ _ _ => rfl
    have pk2 : ∀ a b c d e : MV, pickL [(0, 0), (0, 1), (0, 2), (0, 3), (2, 0)] [a, b, c, d] [] [e] = [a, b, c, d, e] := fun _ _ _ _ _ => rfl
    have j9a := j9 [MO.lst (ls.map .str)]
    have j9b : fIxA (.ref 0) (.int 9) Q = some (.int (dI d 9), Q) := by rw [hQ, List.append_assoc, List.append_assoc]; exact j9 _
    rw [← hQ] at bnH
    have RUN' : m_House___init__ [.ref Q.length, .ref (H1.length + 2), .ref h.length, .ref H1.length, .int win] (Q ++ [.ins "House" []]) = .ok .non (Q ++ house0 C Q.length (H1.length + 2) fun m => edQ h.length ms m) := RUN
    generalize (Q ++ house0 C Q.length (H1.length + 2) fun m => edQ h.length ms m) = X at *
    clear hQ qE1 qEd qLr qBk outs AT RUN
    generalize H1 ++ [MO.lst (ls.map .str)] ++ [MO.lst (wdL w)] = X2 at *
    generalize H1 ++ [MO.lst (ls.map .str)] = X3 at *
    by_cases c : dI d 9 < 8
    · have ew : win = 5 := Eq.trans (show win = if dI d 9 < 8 then 5 else 1 + dI d 9 % 9 from hwin) (if_pos c)
      rw [ew] at RUN'
      simp -implicitDefEqProofs [eV, -fIxA_ev, pk1, j9a, c, j6, WW, bnH, RUN']
    · have ew : win = 1 + dI d 9 % 9 := Eq.trans (show win = if dI d 9 < 8 then 5 else 1 + dI d 9 % 9 from hwin) (if_neg c)
      rw [ew] at RUN'
      simp -implicitDefEqProofs [eV, -fIxA_ev, pk2, j9a, c, j6, WW, bnH, j9b, RUN']
  have old2 : ∀ i, i < h.length → (Q ++ house0 C Q.length (H1.length + 2) fun m => edQ h.length ms m)[i]? = h[i]? := fun i hi => by
    have i1 : i < H1.length := by omega
    rw [List.getElem?_append_left (by omega), hQ, List.append_assoc, List.append_assoc, List.getElem?_append_left i1]; exact old1 i hi
  exact ⟨y7, _, H1.length, Q.length, C, _, fun rest => (seqN s6).trans <| (seqN s7).trans <| seqN s8, rfl, rfl, hC, AT, fun i hi => ⟨old2 i hi, outs i (.inl (by omega))⟩, ⟨_, app_at qEd⟩, outs _ (.inl (by omega)), app_at qLr, outs _ (.inr rfl), by omega, by omega⟩
end
end Lw
namespace Lw
open PySem L2 Mo
section
variable {h : MH} {d : List Int} {ms ls : List Str} {Z : MV} {x2 x3 : Option MV}
def wd0 : Wd := ⟨Str.ofString "asked", Str.ofString "once", Str.ofString "once", Str.ofString "any"⟩
theorem wd0_ok : wdOk wd0 := ⟨.inl rfl, .inl rfl, .inl rfl, .inl rfl⟩
theorem enter_pl {C : HC} {m l : Str} : (S0.enter m).place m l = Str.ofString "idle" := by
  have e : S0.enter m = S0.enter0 m := if_neg (by decide)
  rw [e]
  have e1 : (S0.enter0 m).status m = Str.ofString "in" := by show fset S0.status m _ m = _; rw [fset_same] <;> rfl
  unfold HS.place
  rw [if_pos e1]
  show fset S0.own m _ m l = _
  rw [fset_same] <;> rfl
theorem other19 {n0 o0 : Str} {nm os : List Str} {x7 x8 x9 : Option MV} (q1 : h[1]? = some (.lst (nm.map .str))) (q2 : h[2]? = some (.lst (os.map .str))) (en : nm[0]? = some n0) (eo : os[0]? = some o0) :
    ∃ h2 a2 C2 L2, (∀ rest, (sSeq (sAsg (eMk "House" 3 0 5 m_House___init__ (gPat [(0, 0), (0, 1), (0, 2), (0, 3), (1, 0)] [(.int 5)]) (aCons (eMk "Book" 0 0 5 m_Book___init__ (gPat [(0, 0), (1, 0), (1, 1), (1, 2), (1, 3)] [(.str "asked"), (.str "once"), (.str "once"), (.str "any")]) aNil aNil) (aCons (eDisp (dCons (e2 fIxA (eV 2) (eC (.int 0))) (eMk "Book" 0 0 5 m_Book___init__ (gPat [(0, 0), (1, 0), (1, 1), (1, 2), (1, 3)] [(.str "asked"), (.str "once"), (.str "once"), (.str "any")]) aNil aNil) (dNil))) (aCons (eA fLst (aCons (e2 fIxA (eV 3) (eC (.int 0))) (aNil))) (aNil)))) aNil) (gN 10)) (sSeq (sExp (eMeth "House" "enter" 2 m_House_enter (eV 10) (aCons (e2 fIxA (eV 2) (eC (.int 0))) (aNil)))) rest)) [some (Z), some (.ref 0), some (.ref 1), some (.ref 2), some (.ref 3), some (.ref 4), some (.ref 5), x7, x8, x9, none] h = rest [some (Z), some (.ref 0), some (.ref 1), some (.ref 2), some (.ref 3), some (.ref 4), some (.ref 5), x7, x8, x9, some (.ref a2)] h2) ∧ n0 ∈ C2.ms ∧ o0 ∈ C2.ls ∧ HAt C2 a2 h2 (S0.enter n0) L2 ∧ ∀ i, i < h.length → h2[i]? = h[i]? := by
  have zz : SZ = 16777216 := rfl
  have z1 : 1 ≤ SZ := by decide
  obtain ⟨B0, hB0⟩ : ∃ B0 : MO, B0 = .ins "Book" (bkf wd0 (h.length + 1)) := ⟨_, rfl⟩
  obtain ⟨B1, hB1⟩ : ∃ B1 : MO, B1 = .ins "Book" (bkf wd0 (h.length + 4)) := ⟨_, rfl⟩
  obtain ⟨PW, hPW⟩ : ∃ PW : MO, PW = .lst (prW wd0) := ⟨_, rfl⟩
  obtain ⟨DK, hDK⟩ : ∃ DK : MO, DK = .dk [(.inr n0, .ref (h.length + 3))] := ⟨_, rfl⟩
  obtain ⟨LO, hLO⟩ : ∃ LO : MO, LO = .lst [.str o0] := ⟨_, rfl⟩
  have I0 : m_Book___init__ [.ref h.length, .str "asked", .str "once", .str "once", .str "any"] (h ++ [.ins "Book" []]) = .ok .non (h ++ [B0, PW]) := by
    rw [hB0, hPW]; exact book_init (h := h) wd0_ok
  have I1 : m_Book___init__ [.ref (h.length + 3), .str "asked", .str "once", .str "once", .str "any"] (h ++ [B0, PW, .dk [], .ins "Book" []]) = .ok .non (h ++ [B0, PW, .dk [], B1, PW]) := by
    have := book_init (h := h ++ [B0, PW, MO.dk []]) wd0_ok
    rw [show (h ++ [B0, PW, MO.dk []]).length = h.length + 3 from by simp, List.append_assoc, List.append_assoc] at this
    rw [hB1]
    conv => rhs; rw [hPW]
    rw [hPW] at this ⊢
    exact this
  let C : HC := ⟨[n0], [o0], wd0, fun _ => wd0, h.length + 1, fun _ => h.length + 4, 5⟩
  have hC : COk C := ⟨by show 1 < 64; decide, by show 1 < 64; decide, by show [n0].Nodup; simp, by show [o0].Nodup; simp⟩
  obtain ⟨Q, hQ⟩ : ∃ Q : MH, Q = h ++ [B0, PW, DK, B1, PW, LO] := ⟨_, rfl⟩
  have lQ : Q.length = h.length + 6 := by rw [hQ]; simp
  have qBk : Q[h.length]? = some (.ins "Book" (bkf C.hb C.hp)) := by rw [hQ, hB0]; exact at_app0
  have qEd : Q[h.length + 2]? = some (.dk (dkm C.ms fun m => .ref (h.length + 3))) := by rw [hQ, hDK]; simp [at_app]; rfl
  have qLr : Q[h.length + 5]? = some (.lst (C.ls.map .str)) := by rw [hQ, hLO]; simp [at_app]; rfl
  have qE : Q[h.length + 3]? = some (.ins "Book" (bkf wd0 (h.length + 4))) := by rw [hQ, hB1]; simp [at_app]
  have RUN := house0_run (C := C) (ed := fun _ => h.length + 3) hC qBk qEd qLr
  have AT := house0_at (C := C) hC qBk (ed := fun _ => h.length + 3) fun m hm => qE
  have mn : n0 ∈ C.ms := List.mem_singleton.mpr rfl
  obtain ⟨h2, L2, E, A2, F2⟩ := enter_ok AT hC mn rfl (by show 0 < SZ; decide) (fun x hx k hk => by cases hk)
  have iN : ∀ T, fIxA (.ref 1) (.int 0) (h ++ T) = some (.str n0, h ++ T) := fun T => ixA_at (app_at q1) (atN (k := 0) (by rw [List.getElem?_map, en]; rfl))
  have iO : ∀ T, fIxA (.ref 2) (.int 0) (h ++ T) = some (.str o0, h ++ T) := fun T => ixA_at (app_at q2) (atN (k := 0) (by rw [List.getElem?_map, eo]; rfl))
  have s13 : (sAsg (eMk "House" 3 0 5 m_House___init__ (gPat [(0, 0), (0, 1), (0, 2), (0, 3), (1, 0)] [(.int 5)]) (aCons (eMk "Book" 0 0 5 m_Book___init__ (gPat [(0, 0), (1, 0), (1, 1), (1, 2), (1, 3)] [(.str "asked"), (.str "once"), (.str "once"), (.str "any")]) aNil aNil) (aCons (eDisp (dCons (e2 fIxA (eV 2) (eC (.int 0))) (eMk "Book" 0 0 5 m_Book___init__ (gPat [(0, 0), (1, 0), (1, 1), (1, 2), (1, 3)] [(.str "asked"), (.str "once"), (.str "once"), (.str "any")]) aNil aNil) (dNil))) (aCons (eA fLst (aCons (e2 fIxA (eV 3) (eC (.int 0))) (aNil))) (aNil)))) aNil) (gN 10)) [some (Z), some (.ref 0), some (.ref 1), some (.ref 2), some (.ref 3), some (.ref 4), some (.ref 5), x7, x8, x9, none] h = .nx [some (Z), some (.ref 0), some (.ref 1), some (.ref 2), some (.ref 3), some (.ref 4), some (.ref 5), x7, x8, x9, some (.ref (h.length + 6))] (Q ++ house0 C Q.length h.length fun _ => h.length + 3) := by
    have pk1 : ∀ a b c d : MV, pickL [(0, 0), (0, 1), (0, 2), (0, 3), (1, 0)] [a, b, c, d] [.int 5] [] = [a, b, c, d, .int 5] := fun _ _ _ _ => rfl
    have pk2 : ∀ a x y z u : MV, pickL [(0, 0), (1, 0), (1, 1), (1, 2), (1, 3)] [a] [x, y, z, u] [] = [a, x, y, z, u] := fun _ _ _ _ _ => rfl
    have RUN' : m_House___init__ [.ref (h.length + 6), .ref h.length, .ref (h.length + 2), .ref (h.length + 5), .int 5] (h ++ [B0, PW, DK, B1, PW, LO, .ins "House" []]) = .ok .non (Q ++ house0 C Q.length h.length fun _ => h.length + 3) := by
      have := RUN
      rw [lQ] at this ⊢
      conv at this => lhs; rw [hQ, List.append_assoc]
      exact this
    have J1 := iN [B0, PW, .dk []]
    have J2 := iO [B0, PW, DK, B1, PW]
    clear RUN AT A2 F2 E
    generalize (Q ++ house0 C Q.length h.length fun _ => h.length + 3) = X at *
    have pu : KDs (.ok [(.str n0, .ref (h.length + 3))] (h ++ [B0, PW, .dk [], B1, PW])) (h.length + 2) = .ok (.ref (h.length + 2)) (h ++ [B0, PW, DK, B1, PW]) := by
      have q : (h ++ [B0, PW, .dk [], B1, PW])[h.length + 2]? = some (.dk []) := by simp [at_app]
      rw [KDs_ok (kvs := [(.inr n0, .ref (h.length + 3))]) rfl q, if_pos (by show 1 ≤ 15; decide), hDK]
      have mm : mergeM [] [(Sum.inr n0, MV.ref (h.length + 3))] = [(.inr n0, .ref (h.length + 3))] := by simp [mergeM, putM]
      rw [mm]
      simp [List.set_append_right]
    simp -implicitDefEqProofs [eV, -fIxA_ev, pk1, pk2, I0, I1, J1, J2, pu, z1, ← hLO, RUN']
  have s14 : (sExp (eMeth "House" "enter" 2 m_House_enter (eV 10) (aCons (e2 fIxA (eV 2) (eC (.int 0))) (aNil)))) [some (Z), some (.ref 0), some (.ref 1), some (.ref 2), some (.ref 3), some (.ref 4), some (.ref 5), x7, x8, x9, some (.ref (h.length + 6))] (Q ++ house0 C Q.length h.length fun _ => h.length + 3) = .nx [some (Z), some (.ref 0), some (.ref 1), some (.ref 2), some (.ref 3), some (.ref 4), some (.ref 5), x7, x8, x9, some (.ref (h.length + 6))] h2 := by
    rw [lQ] at AT E
    have J1 : fIxA (.ref 1) (.int 0) (Q ++ house0 C Q.length h.length fun _ => h.length + 3) = some (.str n0, Q ++ house0 C Q.length h.length fun _ => h.length + 3) := by
      rw [hQ, List.append_assoc]; exact iN _
    rw [lQ] at J1 ⊢
    refine ex_m1 AT rfl rfl ?_ E
    generalize (Q ++ house0 C (h.length + 6) h.length fun _ => h.length + 3) = X at *
    simp -implicitDefEqProofs [eV, -fIxA_ev, J1]
  refine ⟨h2, h.length + 6, C, L2, fun rest => (seqN s13).trans (seqN s14), mn, List.mem_singleton.mpr rfl, by rw [lQ] at A2; exact A2, fun i hi => ?_⟩
  have k := F2.keep i (by rw [List.length_append]; omega) fun t mt lt => by
    have := L0_ge (C := C) (N := Q.length) (bk := h.length) (ed := fun _ => h.length + 3) t mt lt
    omega
  rw [k, hQ, List.append_assoc, List.getElem?_append_left hi]
end
end Lw
namespace Lw
open PySem L2 Mo
theorem cut_take29 {vs : List MV} {k : Nat} (hk : k ≤ vs.length) : cutM vs none (some (k : Int)) = vs.take k := by
  have e : HT.sIx vs.length vs.length (some (k : Int)) = k := by
    have n0 : ¬ (k : Int) < 0 := by omega
    simp only [HT.sIx, if_neg n0]
    omega
  have e0 : HT.sIx vs.length 0 none = 0 := by simp [HT.sIx]
  simp only [cutM, e, e0]
  simp
theorem cut_drop29 {vs : List MV} {k : Nat} (hk : k ≤ vs.length) : cutM vs (some (k : Int)) none = vs.drop k := by
  have e : HT.sIx vs.length 0 (some (k : Int)) = k := by
    have n0 : ¬ (k : Int) < 0 := by omega
    simp only [HT.sIx, if_neg n0]
    omega
  have e0 : HT.sIx vs.length vs.length none = vs.length := by simp [HT.sIx]
  simp only [cutM, e, e0]
  rw [List.take_of_length_le (by simp)]
theorem pure_law (ns : List Int) (hns : ns.length ≤ 63) : ∃ h1, m_law [.frl (ns.map MV.int)] [] = .ok (.bl true) h1 := by
  have zz : SZ = 16777216 := rfl
  have C0 : ∀ h, m__law_cell [.frl (ns.map .int), .int 0] h = .ok (.int (ns.getD 0 0)) h := fun h => cell_eq ns 0 h
  have C1 : ∀ h, m__law_cell [.frl (ns.map .int), .int 1] h = .ok (.int (ns.getD 1 0)) h := fun h => cell_eq ns 1 h
  have C2 : ∀ h, m__law_cell [.frl (ns.map .int), .int 2] h = .ok (.int (ns.getD 2 0)) h := fun h => cell_eq ns 2 h
  generalize ns.getD 0 0 = c0 at *
  generalize ns.getD 1 0 = c1 at *
  generalize ns.getD 2 0 = c2 at *
  have RR : ∀ h, m__law_row [.int c0, .int 10, .int 24] h = .ok (.ref h.length) (h ++ [.lst ((rowP c0 10 24).map .int)]) := fun h => row_eq c0 10 24 h (by decide) (by decide) (by decide)
  have l0 : (rowP c0 10 24).length = 10 := rowGo_length _ _ _ _ _
  have b0 : ∀ x ∈ rowP c0 10 24, 0 ≤ x ∧ x < 24 := fun x hx => rowGo_lt c0 24 (by decide) _ _ _ x hx
  generalize rowP c0 10 24 = d0 at *
  have b9 : 0 ≤ dI d0 9 := by
    have : dI d0 9 = d0[9] := by unfold dI; simp [List.getD, List.getElem?_eq_getElem (show 9 < d0.length by omega)]
    rw [this]
    exact (b0 _ (List.getElem_mem _)).1
  -- members and lanes
  have NMq : ∀ h, m__law_names [.int c1, .int 6] h = .ok (.ref h.length) (h ++ [.lst ((namesP c1 6).map .str)]) := fun h => names_eq c1 6 (by omega) h
  have ndm : (namesP c1 6).Nodup := names_nodup7 _ (by decide)
  have lmm : (namesP c1 6).length = 6 := names_len _ _
  have OTq : ∀ h, m__law_names [.int c2, .int 6] h = .ok (.ref h.length) (h ++ [.lst ((namesP c2 6).map .str)]) := fun h => names_eq c2 6 (by omega) h
  have ndl : (namesP c2 6).Nodup := names_nodup7 _ (by decide)
  have lll : (namesP c2 6).length = 6 := names_len _ _
  generalize namesP c1 6 = nm at *
  generalize namesP c2 6 = os at *
  have m0 : 0 ≤ dI d0 7 % 6 := Int.emod_nonneg _ (by decide)
  have m6 : dI d0 7 % 6 < 6 := Int.emod_lt_of_pos _ (by decide)
  obtain ⟨km, hkm⟩ := Int.eq_ofNat_of_zero_le (show 0 ≤ 1 + dI d0 7 % 6 by omega)
  have a0 : 0 ≤ dI d0 8 % 6 := Int.emod_nonneg _ (by decide)
  have a6 : dI d0 8 % 6 < 6 := Int.emod_lt_of_pos _ (by decide)
  obtain ⟨kl, hkl⟩ := Int.eq_ofNat_of_zero_le a0
  have cm3 : cutM (nm.map .str) none (some (1 + dI d0 7 % 6)) = (nm.take km).map MV.str := by rw [hkm, cut_take29 (by rw [List.length_map]; omega), List.map_take]
  have cl4 : cutM (os.map .str) (some (dI d0 8 % 6)) none = (os.drop kl).map MV.str := by rw [hkl, cut_drop29 (by rw [List.length_map]; omega), List.map_drop]
  have lms : (nm.take km).length = km := by rw [List.length_take]; omega
  have lls : (os.drop kl).length = 6 - kl := by rw [List.length_drop]; omega
  have ndms : (nm.take km).Nodup := ndm.sublist (List.take_sublist _ _)
  have ndls : (os.drop kl).Nodup := ndl.sublist (List.drop_sublist _ _)
  generalize nm.take km = ms at *
  generalize os.drop kl = ls at *
  obtain ⟨n0, en⟩ : ∃ n0, nm[0]? = some n0 := ⟨_, List.getElem?_eq_getElem (by omega)⟩
  obtain ⟨o0, eo⟩ : ∃ o0, os[0]? = some o0 := ⟨_, List.getElem?_eq_getElem (by omega)⟩
  generalize hr : MV.frl (ns.map .int) = Z at *
  let D0 : MO := .lst (d0.map .int)
  let NM : MO := .lst (nm.map .str)
  let OT : MO := .lst (os.map .str)
  let MS : MO := .lst (ms.map .str)
  let LS : MO := .lst (ls.map .str)
  have s0 : (sAsg (call 3 m__law_row (aCons (call 2 m__law_cell (aCons (eV 0) (aCons (eC (.int 0)) (aNil)))) (aCons (eC (.int 10)) (aCons (eC (.int 24)) (aNil))))) (gN 1)) [some (Z), none, none, none, none, none, none, none, none, none, none] [] = .nx [some (Z), some (.ref 0), none, none, none, none, none, none, none, none, none] [D0] := by
    have := RR []
    simp -implicitDefEqProofs [eV, C0, this, D0]
  have s1 : (sAsg (call 2 m__law_names (aCons (call 2 m__law_cell (aCons (eV 0) (aCons (eC (.int 1)) (aNil)))) (aCons (eC (.int 6)) (aNil)))) (gN 2)) [some (Z), some (.ref 0), none, none, none, none, none, none, none, none, none] [D0] = .nx [some (Z), some (.ref 0), some (.ref 1), none, none, none, none, none, none, none, none] [D0, NM] := by
    have := NMq [D0]
    simp -implicitDefEqProofs [eV, C1, this, NM]
  have s2 : (sAsg (call 2 m__law_names (aCons (call 2 m__law_cell (aCons (eV 0) (aCons (eC (.int 2)) (aNil)))) (aCons (eC (.int 6)) (aNil)))) (gN 3)) [some (Z), some (.ref 0), some (.ref 1), none, none, none, none, none, none, none, none] [D0, NM] = .nx [some (Z), some (.ref 0), some (.ref 1), some (.ref 2), none, none, none, none, none, none, none] [D0, NM, OT] := by
    have := OTq [D0, NM]
    simp -implicitDefEqProofs [eV, C2, this, OT]
  have s3 : (sAsg (eSl (eV 2) (pNo) (pIs (e2 fAdd (eC (.int 1)) (e2 fMod (eA fInt (aCons (e2 fIxA (eV 1) (eC (.int 7))) (aNil))) (eC (.int 6)))))) (gN 4)) [some (Z), some (.ref 0), some (.ref 1), some (.ref 2), none, none, none, none, none, none, none] [D0, NM, OT] = .nx [some (Z), some (.ref 0), some (.ref 1), some (.ref 2), some (.ref 3), none, none, none, none, none, none] [D0, NM, OT, MS] := by
    have j : fIxA (.ref 0) (.int 7) [D0, NM, OT] = some (.int (dI d0 7), [D0, NM, OT]) := ixA_row (d := d0) (R := 0) rfl 7 (by omega)
    have S := fSl_ref (h := [D0, NM, OT]) (lo := none) (hi := some (1 + dI d0 7 % 6)) (i := 1) (xs := nm.map .str) rfl
    rw [cm3] at S
    simp -implicitDefEqProofs [eV, -fIxA_ev, j, S, MS]
  have s4 : (sAsg (eSl (eV 3) (pIs (e2 fMod (eA fInt (aCons (e2 fIxA (eV 1) (eC (.int 8))) (aNil))) (eC (.int 6)))) (pNo)) (gN 5)) [some (Z), some (.ref 0), some (.ref 1), some (.ref 2), some (.ref 3), none, none, none, none, none, none] [D0, NM, OT, MS] = .nx [some (Z), some (.ref 0), some (.ref 1), some (.ref 2), some (.ref 3), some (.ref 4), none, none, none, none, none] [D0, NM, OT, MS, LS] := by
    have j : fIxA (.ref 0) (.int 8) [D0, NM, OT, MS] = some (.int (dI d0 8), [D0, NM, OT, MS]) := ixA_row (d := d0) (R := 0) rfl 8 (by omega)
    have S := fSl_ref (h := [D0, NM, OT, MS]) (lo := some (dI d0 8 % 6)) (hi := none) (i := 2) (xs := os.map .str) rfl
    rw [cl4] at S
    simp -implicitDefEqProofs [eV, -fIxA_ev, j, S, LS]
  obtain ⟨h0, hh0⟩ : ∃ h0 : MH, h0 = [D0, NM, OT, MS, LS] := ⟨_, rfl⟩
  have lh0 : h0.length = 5 := by rw [hh0]; rfl
  have q0 : h0[0]? = some (.lst (d0.map .int)) := by rw [hh0]; rfl
  have q1 : h0[1]? = some (.lst (nm.map .str)) := by rw [hh0]; rfl
  have q2 : h0[2]? = some (.lst (os.map .str)) := by rw [hh0]; rfl
  have q3 : h0[3]? = some (.lst (ms.map .str)) := by rw [hh0]; rfl
  have q4 : h0[4]? = some (.lst (ls.map .str)) := by rw [hh0]; rfl
  rw [← hh0] at s4
  clear_value D0 NM OT MS LS
  have s5 : (sAsg (eDk) (gN 6)) [some (Z), some (.ref 0), some (.ref 1), some (.ref 2), some (.ref 3), some (.ref 4), none, none, none, none, none] h0 = .nx [some (Z), some (.ref 0), some (.ref 1), some (.ref 2), some (.ref 3), some (.ref 4), some (.ref h0.length), none, none, none, none] (h0 ++ [.dk []]) := by
    simp -implicitDefEqProofs []
  obtain ⟨y7, H5, Li, a, C, L, RUN, cm, cl, hC, A5, old5, ⟨fd, qd5⟩, od5, qi5, oi5, nLi, lLi⟩ := house19 (Z := Z) (x2 := some (.ref 1)) (x3 := some (.ref 2)) q0 q3 q4 l0 b9 ndms (by omega) ndls (by omega)
  rw [lh0] at RUN qd5 od5 nLi lLi
  subst cm cl
  have hml := hC.ml
  have hll := hC.ll
  have at5 : ∀ {i : Nat} {o : MO}, h0[i]? = some o → H5[i]? = some o := fun q => ((old5 _ (List.getElem?_eq_some_iff.mp q).1).1.trans q)
  have k1 := at5 q1
  have k2 := at5 q2
  have k3 := at5 q3
  have k4 := at5 q4
  -- a new house
  have FA5 : fAdd (.ref 2) (.ref 1) H5 = some (.ref H5.length, H5 ++ [.lst ((os ++ nm).map .str)]) := by
    rw [fAdd_ref k2 k1, if_pos (by simp; omega), List.map_append]
  have A6 := A5.app [.lst ((os ++ nm).map .str)]
  have N6 := new19 A6 hC (app_at k3) (app_at k4) at_app0
  have s9 : (sIf (bNot (bT (call 4 m__law_is_new (aCons (eV 9) (aCons (eV 4) (aCons (eV 5) (aCons (e2 fAdd (eV 3) (eV 2)) (aNil)))))))) (sRet (eC (.bl false))) (sNx)) [some (Z), some (.ref 0), some (.ref 1), some (.ref 2), some (.ref 3), some (.ref 4), some (.ref 5), y7, some (.ref Li), some (.ref a), none] H5 = .nx [some (Z), some (.ref 0), some (.ref 1), some (.ref 2), some (.ref 3), some (.ref 4), some (.ref 5), y7, some (.ref Li), some (.ref a), none] (H5 ++ [.lst ((os ++ nm).map .str)]) := by
    generalize H5 ++ [MO.lst ((os ++ nm).map .str)] = X at *
    simp -implicitDefEqProofs [eV, FA5, N6]
  have m1 := app_at (t := [MO.lst ((os ++ nm).map .str)]) k1
  have m2 := app_at (t := [MO.lst ((os ++ nm).map .str)]) k2
  have m3 := app_at (t := [MO.lst ((os ++ nm).map .str)]) k3
  have m4 := app_at (t := [MO.lst ((os ++ nm).map .str)]) k4
  have md := app_at (t := [MO.lst ((os ++ nm).map .str)]) qd5
  have mi := app_at (t := [MO.lst ((os ++ nm).map .str)]) qi5
  have nd := od5.app (g := [MO.lst ((os ++ nm).map .str)])
  have ni := oi5.app (g := [MO.lst ((os ++ nm).map .str)])
  clear N6
  generalize H5 ++ [MO.lst ((os ++ nm).map .str)] = H6 at *
  -- the dict and the list as they were
  have KK : KLK (.ok (.ref 5) H6) = .ok (.ref H6.length) (H6 ++ [.lst (C.ms.map .str)]) := by
    rw [KLK_ok md]
    congr 3
    unfold dkm
    rw [List.map_map]
    rfl
  have s10 : (sIf (bOr (bB (e2 fNe (eLK (eV 6)) (eV 4))) (bB (e2 fNe (eV 8) (eV 5)))) (sRet (eC (.bl false))) (sNx)) [some (Z), some (.ref 0), some (.ref 1), some (.ref 2), some (.ref 3), some (.ref 4), some (.ref 5), y7, some (.ref Li), some (.ref a), none] H6 = .nx [some (Z), some (.ref 0), some (.ref 1), some (.ref 2), some (.ref 3), some (.ref 4), some (.ref 5), y7, some (.ref Li), some (.ref a), none] (H6 ++ [.lst (C.ms.map .str)]) := by
    have M1 : mRc (H6 ++ [.lst (C.ms.map .str)]) (.ref H6.length) (.ref 3) = some true := by rw [mRc_strs at_app0 (app_at m3), decide_eq_true rfl]
    have M2 : mRc (H6 ++ [.lst (C.ms.map .str)]) (.ref Li) (.ref 4) = some true := by rw [mRc_strs (app_at mi) (app_at m4), decide_eq_true rfl]
    generalize H6 ++ [MO.lst (C.ms.map .str)] = X at *
    simp -implicitDefEqProofs [eV, KK, M1, M2]
  have A7 := A6.app [.lst (C.ms.map .str)]
  have p1 := app_at (t := [MO.lst (C.ms.map .str)]) m1
  have p2 := app_at (t := [MO.lst (C.ms.map .str)]) m2
  have p3 := app_at (t := [MO.lst (C.ms.map .str)]) m3
  have p4 := app_at (t := [MO.lst (C.ms.map .str)]) m4
  have pd := app_at (t := [MO.lst (C.ms.map .str)]) md
  have pi := app_at (t := [MO.lst (C.ms.map .str)]) mi
  have rd := nd.app (g := [MO.lst (C.ms.map .str)])
  have ri := ni.app (g := [MO.lst (C.ms.map .str)])
  generalize H6 ++ [MO.lst (C.ms.map .str)] = H7 at *
  have s11 : (sExp (eMt isK fClear (eV 6) aNil)) [some (Z), some (.ref 0), some (.ref 1), some (.ref 2), some (.ref 3), some (.ref 4), some (.ref 5), y7, some (.ref Li), some (.ref a), none] H7 = .nx [some (Z), some (.ref 0), some (.ref 1), some (.ref 2), some (.ref 3), some (.ref 4), some (.ref 5), y7, some (.ref Li), some (.ref a), none] (H7.set 5 (.dk [])) := by
    have := fClear_ref pd
    have ik : isK (.ref 5) H7 = true := by simp [isK, pd]
    simp -implicitDefEqProofs [eV, ik, this]
  have A8 := A7.out (o := .dk []) rd.2
  have e5 : ∀ {i : Nat} {o : MO}, i ≠ 5 → H7[i]? = some o → (H7.set 5 (.dk []))[i]? = some o := fun hi q => by rw [List.getElem?_set_ne (Ne.symm hi)]; exact q
  have p1 := e5 (by decide) p1
  have p2 := e5 (by decide) p2
  have p3 := e5 (by decide) p3
  have p4 := e5 (by decide) p4
  have pi := e5 nLi pi
  generalize H7.set 5 (MO.dk []) = H8 at *
  have s12 : (sExp (eMt isL fClearL (eV 8) aNil)) [some (Z), some (.ref 0), some (.ref 1), some (.ref 2), some (.ref 3), some (.ref 4), some (.ref 5), y7, some (.ref Li), some (.ref a), none] H8 = .nx [some (Z), some (.ref 0), some (.ref 1), some (.ref 2), some (.ref 3), some (.ref 4), some (.ref 5), y7, some (.ref Li), some (.ref a), none] (H8.set Li (.lst [])) := by
    have := fClearL_ref pi
    have il := isL_ref pi
    simp -implicitDefEqProofs [eV, il, this]
  have A9 := A8.out (o := .lst []) ri.2
  have e6 : ∀ {i : Nat} {o : MO}, i < 5 → H8[i]? = some o → (H8.set Li (.lst []))[i]? = some o := fun hi q => by rw [List.getElem?_set_ne (by omega)]; exact q
  have p1 := e6 (by decide) p1
  have p2 := e6 (by decide) p2
  have p3 := e6 (by decide) p3
  have p4 := e6 (by decide) p4
  generalize H8.set Li (MO.lst []) = H9 at *
  -- the second house
  obtain ⟨H10, a2, C2, L2, RUN2, mn, mo, A10, old10⟩ := other19 (Z := Z) (x7 := y7) (x8 := some (.ref Li)) (x9 := some (.ref a)) p1 p2 en eo
  have AF : HAt C a H10 S0 L := ⟨A9.ha, fun t lv => (old10 _ (A9.lt lv)).trans (A9.obj t lv), A9.inj⟩
  have e7 : ∀ {i : Nat} {o : MO}, H9[i]? = some o → H10[i]? = some o := fun q => (old10 _ (List.getElem?_eq_some_iff.mp q).1).trans q
  have p1 := e7 p1
  have p2 := e7 p2
  have p3 := e7 p3
  have p4 := e7 p4
  have FA10 : fAdd (.ref 2) (.ref 1) H10 = some (.ref H10.length, H10 ++ [.lst ((os ++ nm).map .str)]) := by
    rw [fAdd_ref p2 p1, if_pos (by simp; omega), List.map_append]
  have AG := AF.app [.lst ((os ++ nm).map .str)]
  have A11 := A10.app [.lst ((os ++ nm).map .str)]
  have N11 := new19 AG hC (app_at p3) (app_at p4) at_app0
  have PL := place_ok A11 mn mo
  rw [enter_pl (C := C2)] at PL
  have iN : fIxA (.ref 1) (.int 0) (H10 ++ [.lst ((os ++ nm).map .str)]) = some (.str n0, H10 ++ [.lst ((os ++ nm).map .str)]) := ixA_at (app_at p1) (atN (k := 0) (by rw [List.getElem?_map, en]; rfl))
  have iO : fIxA (.ref 2) (.int 0) (H10 ++ [.lst ((os ++ nm).map .str)]) = some (.str o0, H10 ++ [.lst ((os ++ nm).map .str)]) := ixA_at (app_at p2) (atN (k := 0) (by rw [List.getElem?_map, eo]; rfl))
  have kp : ∀ n f as s, KMt (.ok (.ref a2) (H10 ++ [.lst ((os ++ nm).map .str)])) "House" "place" n f as s = KMt2 (as s (H10 ++ [.lst ((os ++ nm).map .str)])) n f (.ref a2) := fun n f as s => A11.cl rfl
  clear AG A11
  have s15 : ∃ h', (sRet (eAnd (call 4 m__law_is_new (aCons (eV 9) (aCons (eV 4) (aCons (eV 5) (aCons (e2 fAdd (eV 3) (eV 2)) (aNil)))))) (e2 fEq (eMeth "House" "place" 3 m_House_place (eV 10) (aCons (e2 fIxA (eV 2) (eC (.int 0))) (aCons (e2 fIxA (eV 3) (eC (.int 0))) (aNil)))) (eC (.str "idle"))))) [some (Z), some (.ref 0), some (.ref 1), some (.ref 2), some (.ref 3), some (.ref 4), some (.ref 5), y7, some (.ref Li), some (.ref a), some (.ref a2)] H10 = .rt (.bl true) h' := by
    refine ⟨H10 ++ [.lst ((os ++ nm).map .str)], ?_⟩
    generalize H10 ++ [MO.lst ((os ++ nm).map .str)] = X at *
    simp -implicitDefEqProofs [eV, -fIxA_ev, FA10, N11, iN, iO, kp, PL]
  obtain ⟨h', s15⟩ := s15
  refine ⟨h', ?_⟩
  have E : b_law [some (Z), none, none, none, none, none, none, none, none, none, none] [] = .rt (.bl true) h' := by
    unfold b_law
    rw [seqN s0, seqN s1, seqN s2, seqN s3, seqN s4, seqN s5]
    rw [lh0]
    rw [RUN, seqN s9, seqN s10, seqN s11, seqN s12, RUN2, s15]
  have : m_law [Z] [] = KD (b_law [some (Z), none, none, none, none, none, none, none, none, none, none] []) := by
    simp -implicitDefEqProofs [m_law, mDef_ev]
  rw [this, E]
  rfl
end Lw
namespace Lw
open PySem L2 Mo
theorem sc__law_mixed : FnScope ["_law_number", "_law_k", "_law_early"] ["_law_number", "_law_k"] (defScope s__law_mixed) := ⟨rfl, rfl, rfl, by decide +kernel, rfl, by decide +kernel, by decide +kernel⟩
theorem sc__law_row : FnScope ["_law_cell_here", "_law_count", "_law_base", "_law_found", "_law_rest", "_law_k"] ["_law_cell_here", "_law_count", "_law_base"] (defScope s__law_row) := ⟨rfl, rfl, rfl, by decide +kernel, rfl, by decide +kernel, by decide +kernel⟩
theorem sc__law_names : FnScope ["_law_cell_here", "_law_count", "_law_letters", "_law_draws", "_law_body", "_law_found", "_law_k", "_law_size", "_law_at", "_law_told", "_law_draw"] ["_law_cell_here", "_law_count"] (defScope s__law_names) := ⟨rfl, rfl, rfl, by decide +kernel, rfl, by decide +kernel, by decide +kernel⟩
theorem sc_Ledger___init__ : FnScope ["self", "lanes", "names", "lane"] ["self", "lanes", "names"] (defScope s_Ledger___init__) := ⟨rfl, rfl, rfl, by decide +kernel, rfl, by decide +kernel, by decide +kernel⟩
theorem sc_Slot___init__ : FnScope ["self", "lane", "rule", "owner"] ["self", "lane", "rule", "owner"] (defScope s_Slot___init__) := ⟨rfl, rfl, rfl, by decide +kernel, rfl, by decide +kernel, by decide +kernel⟩
theorem sc_ascending : FnScope ["lanes", "found", "lane", "name"] ["lanes"] (defScope s_ascending) := ⟨rfl, rfl, rfl, by decide +kernel, rfl, by decide +kernel, by decide +kernel⟩
theorem sc_Share___init__ : FnScope ["self", "lanes"] ["self", "lanes"] (defScope s_Share___init__) := ⟨rfl, rfl, rfl, by decide +kernel, rfl, by decide +kernel, by decide +kernel⟩
theorem sc_House___init__ : FnScope ["self", "book", "members", "lanes", "window", "name", "lane"] ["self", "book", "members", "lanes", "window"] (defScope s_House___init__) := ⟨rfl, rfl, rfl, by decide +kernel, rfl, by decide +kernel, by decide +kernel⟩
theorem sc_House_check_member : FnScope ["self", "member"] ["self", "member"] (defScope s_House_check_member) := ⟨rfl, rfl, rfl, by decide +kernel, rfl, by decide +kernel, by decide +kernel⟩
theorem sc_House_enter : FnScope ["self", "member", "lane"] ["self", "member"] (defScope s_House_enter) := ⟨rfl, rfl, rfl, by decide +kernel, rfl, by decide +kernel, by decide +kernel⟩
theorem sc__law_cell : FnScope ["_law_script", "_law_k"] ["_law_script", "_law_k"] (defScope s__law_cell) := ⟨rfl, rfl, rfl, by decide +kernel, rfl, by decide +kernel, by decide +kernel⟩
theorem sc_Book___init__ : FnScope ["self", "stop", "move", "out", "marks", "option", "options"] ["self", "stop", "move", "out", "marks"] (defScope s_Book___init__) := ⟨rfl, rfl, rfl, by decide +kernel, rfl, by decide +kernel, by decide +kernel⟩
theorem sc__law_book : FnScope ["_law_words_here"] ["_law_words_here"] (defScope s__law_book) := ⟨rfl, rfl, rfl, by decide +kernel, rfl, by decide +kernel, by decide +kernel⟩
theorem sc_Share___contains__ : FnScope ["self", "lane"] ["self", "lane"] (defScope s_Share___contains__) := ⟨rfl, rfl, rfl, by decide +kernel, rfl, by decide +kernel, by decide +kernel⟩
theorem sc_Ledger___contains__ : FnScope ["self", "lane"] ["self", "lane"] (defScope s_Ledger___contains__) := ⟨rfl, rfl, rfl, by decide +kernel, rfl, by decide +kernel, by decide +kernel⟩
theorem sc_Ledger___iter__ : FnScope ["self"] ["self"] (defScope s_Ledger___iter__) := ⟨rfl, rfl, rfl, by decide +kernel, rfl, by decide +kernel, by decide +kernel⟩
theorem sc_House_members_in : FnScope ["self", "name"] ["self"] (defScope s_House_members_in) := ⟨rfl, rfl, rfl, by decide +kernel, rfl, by decide +kernel, by decide +kernel⟩
theorem sc_Ledger___getitem__ : FnScope ["self", "lane"] ["self", "lane"] (defScope s_Ledger___getitem__) := ⟨rfl, rfl, rfl, by decide +kernel, rfl, by decide +kernel, by decide +kernel⟩
theorem sc_House_is_waited_for : FnScope ["self", "lane", "name"] ["self", "lane"] (defScope s_House_is_waited_for) := ⟨rfl, rfl, rfl, by decide +kernel, rfl, by decide +kernel, by decide +kernel⟩
theorem sc_House_call_is_due : FnScope ["self", "lane"] ["self"] (defScope s_House_call_is_due) := ⟨rfl, rfl, rfl, by decide +kernel, rfl, by decide +kernel, by decide +kernel⟩
theorem sc_Share___len__ : FnScope ["self"] ["self"] (defScope s_Share___len__) := ⟨rfl, rfl, rfl, by decide +kernel, rfl, by decide +kernel, by decide +kernel⟩
theorem sc_House_is_still_lost : FnScope ["self", "member"] ["self", "member"] (defScope s_House_is_still_lost) := ⟨rfl, rfl, rfl, by decide +kernel, rfl, by decide +kernel, by decide +kernel⟩
theorem sc_House_due_dealing : FnScope ["self", "dealing", "members", "lane"] ["self"] (defScope s_House_due_dealing) := ⟨rfl, rfl, rfl, by decide +kernel, rfl, by decide +kernel, by decide +kernel⟩
theorem sc_House_due : GScope ["self", "name", "waiting"] ["self"] (defScope s_House_due) := ⟨rfl, rfl, rfl, by decide +kernel, rfl, by decide +kernel, by decide +kernel⟩
theorem sc_House_check_lane : FnScope ["self", "lane"] ["self", "lane"] (defScope s_House_check_lane) := ⟨rfl, rfl, rfl, by decide +kernel, rfl, by decide +kernel, by decide +kernel⟩
theorem sc_House_done : FnScope ["self", "lane"] ["self", "lane"] (defScope s_House_done) := ⟨rfl, rfl, rfl, by decide +kernel, rfl, by decide +kernel, by decide +kernel⟩
theorem sc_Slot_mark : FnScope ["self"] ["self"] (defScope s_Slot_mark) := ⟨rfl, rfl, rfl, by decide +kernel, rfl, by decide +kernel, by decide +kernel⟩
theorem sc_House_slot : FnScope ["self", "lane"] ["self", "lane"] (defScope s_House_slot) := ⟨rfl, rfl, rfl, by decide +kernel, rfl, by decide +kernel, by decide +kernel⟩
theorem sc_House_sent : FnScope ["self", "member", "data", "stint"] ["self", "member"] (defScope s_House_sent) := ⟨rfl, rfl, rfl, by decide +kernel, rfl, by decide +kernel, by decide +kernel⟩
theorem sc_at_work : FnScope ["place"] ["place"] (defScope s_at_work) := ⟨rfl, rfl, rfl, by decide +kernel, rfl, by decide +kernel, by decide +kernel⟩
theorem sc_House_place : FnScope ["self", "member", "lane", "own", "place"] ["self", "member", "lane"] (defScope s_House_place) := ⟨rfl, rfl, rfl, by decide +kernel, rfl, by decide +kernel, by decide +kernel⟩
theorem sc__law_is_new : FnScope ["_law_house", "_law_members", "_law_lanes", "_law_others", "_law_lane", "_law_name"] ["_law_house", "_law_members", "_law_lanes", "_law_others"] (defScope s__law_is_new) := ⟨rfl, rfl, rfl, by decide +kernel, rfl, by decide +kernel, by decide +kernel⟩
theorem sc__law_words : FnScope ["_law_number", "_law_found"] ["_law_number"] (defScope s__law_words) := ⟨rfl, rfl, rfl, by decide +kernel, rfl, by decide +kernel, by decide +kernel⟩
theorem sc_law : FnScope ["_law_script", "_law_draws", "_law_names_here", "_law_others", "_law_members", "_law_lanes", "_law_books", "_law_k", "_law_listed", "_law_house", "_law_other"] ["_law_script"] (defScope s_law) := ⟨rfl, rfl, rfl, by decide +kernel, rfl, by decide +kernel, by decide +kernel⟩
def exP (K : PySem.W.Frag) : Prop := He5.fnA K (dA_Slot_mark.at_ K) = dA_Slot_mark.val ∧ fnC K (He.fAd K ("BadBook", some "__init__")) "BadBook.__init__" (defArgs s_BadBook___init__) (defBody s_BadBook___init__) (defScope s_BadBook___init__) ∧ fnC K (He.fAd K ("NotNow", some "__init__")) "NotNow.__init__" (defArgs s_NotNow___init__) (defBody s_NotNow___init__) (defScope s_NotNow___init__) ∧ fnC K (He.fAd K ("UnknownName", some "__init__")) "UnknownName.__init__" (defArgs s_UnknownName___init__) (defBody s_UnknownName___init__) (defScope s_UnknownName___init__)
structure Ad where
  d__law_mixed : FuncData
  d__law_row : FuncData
  d__law_names : FuncData
  d_Ledger___init__ : FuncData
  d_Slot___init__ : FuncData
  d_ascending : FuncData
  d_Share___init__ : FuncData
  d_House___init__ : FuncData
  d_House_check_member : FuncData
  d_House_enter : FuncData
  d__law_cell : FuncData
  d_Book___init__ : FuncData
  d__law_book : FuncData
  d_Share___contains__ : FuncData
  d_Ledger___contains__ : FuncData
  d_Ledger___iter__ : FuncData
  d_House_members_in : FuncData
  d_Ledger___getitem__ : FuncData
  d_House_is_waited_for : FuncData
  d_House_call_is_due : FuncData
  d_Share___len__ : FuncData
  d_House_is_still_lost : FuncData
  d_House_due_dealing : FuncData
  d_House_due : FuncData
  d_House_check_lane : FuncData
  d_House_done : FuncData
  d_Slot_mark : FuncData
  d_House_slot : FuncData
  d_House_sent : FuncData
  d_at_work : FuncData
  d_House_place : FuncData
  d__law_is_new : FuncData
  d__law_words : FuncData
  d_law : FuncData
structure Txt (P : Program) (w : World) (K : PySem.W.Frag) (mg : Str → Option Value) (A : Ad) : Prop where
  d__law_mixed : FunD K "_law_mixed" "_law_mixed" (defArgs s__law_mixed) (defBody s__law_mixed) (defScope s__law_mixed) [] [] (He.fAd K ("_law_mixed", none)) A.d__law_mixed
  B__law_mixed : Binds K A.d__law_mixed ["_law_number", "_law_k"] []
  d__law_row : FunD K "_law_row" "_law_row" (defArgs s__law_row) (defBody s__law_row) (defScope s__law_row) [] [] (He.fAd K ("_law_row", none)) A.d__law_row
  B__law_row : Binds K A.d__law_row ["_law_cell_here", "_law_count", "_law_base"] []
  d__law_names : FunD K "_law_names" "_law_names" (defArgs s__law_names) (defBody s__law_names) (defScope s__law_names) [] [] (He.fAd K ("_law_names", none)) A.d__law_names
  B__law_names : Binds K A.d__law_names ["_law_cell_here", "_law_count"] []
  d_Ledger___init__ : FunD K "__init__" "Ledger.__init__" (defArgs s_Ledger___init__) (defBody s_Ledger___init__) (defScope s_Ledger___init__) [] [] (He.fAd K ("Ledger", some "__init__")) A.d_Ledger___init__
  B_Ledger___init__ : Binds K A.d_Ledger___init__ ["self", "lanes", "names"] []
  d_Slot___init__ : FunD K "__init__" "Slot.__init__" (defArgs s_Slot___init__) (defBody s_Slot___init__) (defScope s_Slot___init__) [] [] (He.fAd K ("Slot", some "__init__")) A.d_Slot___init__
  B_Slot___init__ : Binds K A.d_Slot___init__ ["self", "lane", "rule", "owner"] []
  d_ascending : FunD K "ascending" "ascending" (defArgs s_ascending) (defBody s_ascending) (defScope s_ascending) [] [] (He.fAd K ("ascending", none)) A.d_ascending
  B_ascending : Binds K A.d_ascending ["lanes"] []
  d_Share___init__ : FunD K "__init__" "Share.__init__" (defArgs s_Share___init__) (defBody s_Share___init__) (defScope s_Share___init__) [] [] (He.fAd K ("Share", some "__init__")) A.d_Share___init__
  B_Share___init__ : Binds K A.d_Share___init__ ["self", "lanes"] []
  d_House___init__ : FunD K "__init__" "House.__init__" (defArgs s_House___init__) (defBody s_House___init__) (defScope s_House___init__) [] [("window", (.int 5))] (He.fAd K ("House", some "__init__")) A.d_House___init__
  d_House_check_member : FunD K "check_member" "House.check_member" (defArgs s_House_check_member) (defBody s_House_check_member) (defScope s_House_check_member) [] [] (He.fAd K ("House", some "check_member")) A.d_House_check_member
  B_House_check_member : Binds K A.d_House_check_member ["self", "member"] []
  d_House_enter : FunD K "enter" "House.enter" (defArgs s_House_enter) (defBody s_House_enter) (defScope s_House_enter) [] [] (He.fAd K ("House", some "enter")) A.d_House_enter
  B_House_enter : Binds K A.d_House_enter ["self", "member"] []
  d__law_cell : FunD K "_law_cell" "_law_cell" (defArgs s__law_cell) (defBody s__law_cell) (defScope s__law_cell) [] [] (He.fAd K ("_law_cell", none)) A.d__law_cell
  B__law_cell : Binds K A.d__law_cell ["_law_script", "_law_k"] []
  d_Book___init__ : FunD K "__init__" "Book.__init__" (defArgs s_Book___init__) (defBody s_Book___init__) (defScope s_Book___init__) [] [("stop", (.str "asked")), ("move", (.str "once")), ("out", (.str "once")), ("marks", (.str "any"))] (He.fAd K ("Book", some "__init__")) A.d_Book___init__
  d__law_book : FunD K "_law_book" "_law_book" (defArgs s__law_book) (defBody s__law_book) (defScope s__law_book) [] [] (He.fAd K ("_law_book", none)) A.d__law_book
  B__law_book : Binds K A.d__law_book ["_law_words_here"] []
  d_Share___contains__ : FunD K "__contains__" "Share.__contains__" (defArgs s_Share___contains__) (defBody s_Share___contains__) (defScope s_Share___contains__) [] [] (He.fAd K ("Share", some "__contains__")) A.d_Share___contains__
  B_Share___contains__ : Binds K A.d_Share___contains__ ["self", "lane"] []
  d_Ledger___contains__ : FunD K "__contains__" "Ledger.__contains__" (defArgs s_Ledger___contains__) (defBody s_Ledger___contains__) (defScope s_Ledger___contains__) [] [] (He.fAd K ("Ledger", some "__contains__")) A.d_Ledger___contains__
  B_Ledger___contains__ : Binds K A.d_Ledger___contains__ ["self", "lane"] []
  d_Ledger___iter__ : FunD K "__iter__" "Ledger.__iter__" (defArgs s_Ledger___iter__) (defBody s_Ledger___iter__) (defScope s_Ledger___iter__) [] [] (He.fAd K ("Ledger", some "__iter__")) A.d_Ledger___iter__
  B_Ledger___iter__ : Binds K A.d_Ledger___iter__ ["self"] []
  d_House_members_in : FunD K "members_in" "House.members_in" (defArgs s_House_members_in) (defBody s_House_members_in) (defScope s_House_members_in) [] [] (He.fAd K ("House", some "members_in")) A.d_House_members_in
  B_House_members_in : Binds K A.d_House_members_in ["self"] []
  d_Ledger___getitem__ : FunD K "__getitem__" "Ledger.__getitem__" (defArgs s_Ledger___getitem__) (defBody s_Ledger___getitem__) (defScope s_Ledger___getitem__) [] [] (He.fAd K ("Ledger", some "__getitem__")) A.d_Ledger___getitem__
  B_Ledger___getitem__ : Binds K A.d_Ledger___getitem__ ["self", "lane"] []
  d_House_is_waited_for : FunD K "is_waited_for" "House.is_waited_for" (defArgs s_House_is_waited_for) (defBody s_House_is_waited_for) (defScope s_House_is_waited_for) [] [] (He.fAd K ("House", some "is_waited_for")) A.d_House_is_waited_for
  B_House_is_waited_for : Binds K A.d_House_is_waited_for ["self", "lane"] []
  d_House_call_is_due : FunD K "call_is_due" "House.call_is_due" (defArgs s_House_call_is_due) (defBody s_House_call_is_due) (defScope s_House_call_is_due) [] [] (He.fAd K ("House", some "call_is_due")) A.d_House_call_is_due
  B_House_call_is_due : Binds K A.d_House_call_is_due ["self"] []
  d_Share___len__ : FunD K "__len__" "Share.__len__" (defArgs s_Share___len__) (defBody s_Share___len__) (defScope s_Share___len__) [] [] (He.fAd K ("Share", some "__len__")) A.d_Share___len__
  B_Share___len__ : Binds K A.d_Share___len__ ["self"] []
  d_House_is_still_lost : FunD K "is_still_lost" "House.is_still_lost" (defArgs s_House_is_still_lost) (defBody s_House_is_still_lost) (defScope s_House_is_still_lost) [] [] (He.fAd K ("House", some "is_still_lost")) A.d_House_is_still_lost
  B_House_is_still_lost : Binds K A.d_House_is_still_lost ["self", "member"] []
  d_House_due_dealing : FunD K "due_dealing" "House.due_dealing" (defArgs s_House_due_dealing) (defBody s_House_due_dealing) (defScope s_House_due_dealing) [] [] (He.fAd K ("House", some "due_dealing")) A.d_House_due_dealing
  B_House_due_dealing : Binds K A.d_House_due_dealing ["self"] []
  d_House_due : FunD K "due" "House.due" (defArgs s_House_due) (defBody s_House_due) (defScope s_House_due) [] [] (He.fAd K ("House", some "due")) A.d_House_due
  B_House_due : Binds K A.d_House_due ["self"] []
  d_House_check_lane : FunD K "check_lane" "House.check_lane" (defArgs s_House_check_lane) (defBody s_House_check_lane) (defScope s_House_check_lane) [] [] (He.fAd K ("House", some "check_lane")) A.d_House_check_lane
  B_House_check_lane : Binds K A.d_House_check_lane ["self", "lane"] []
  d_House_done : FunD K "done" "House.done" (defArgs s_House_done) (defBody s_House_done) (defScope s_House_done) [] [] (He.fAd K ("House", some "done")) A.d_House_done
  B_House_done : Binds K A.d_House_done ["self", "lane"] []
  d_Slot_mark : FunD K "mark" "Slot.mark" (defArgs s_Slot_mark) (defBody s_Slot_mark) (defScope s_Slot_mark) [] [] (prG K (He.ga K "Slot") "mark") A.d_Slot_mark
  B_Slot_mark : Binds K A.d_Slot_mark ["self"] []
  d_House_slot : FunD K "slot" "House.slot" (defArgs s_House_slot) (defBody s_House_slot) (defScope s_House_slot) [] [] (He.fAd K ("House", some "slot")) A.d_House_slot
  B_House_slot : Binds K A.d_House_slot ["self", "lane"] []
  d_House_sent : FunD K "sent" "House.sent" (defArgs s_House_sent) (defBody s_House_sent) (defScope s_House_sent) [] [] (He.fAd K ("House", some "sent")) A.d_House_sent
  B_House_sent : Binds K A.d_House_sent ["self", "member"] []
  d_at_work : FunD K "at_work" "at_work" (defArgs s_at_work) (defBody s_at_work) (defScope s_at_work) [] [] (He.fAd K ("at_work", none)) A.d_at_work
  B_at_work : Binds K A.d_at_work ["place"] []
  d_House_place : FunD K "place" "House.place" (defArgs s_House_place) (defBody s_House_place) (defScope s_House_place) [] [] (He.fAd K ("House", some "place")) A.d_House_place
  B_House_place : Binds K A.d_House_place ["self", "member", "lane"] []
  d__law_is_new : FunD K "_law_is_new" "_law_is_new" (defArgs s__law_is_new) (defBody s__law_is_new) (defScope s__law_is_new) [] [] (He.fAd K ("_law_is_new", none)) A.d__law_is_new
  B__law_is_new : Binds K A.d__law_is_new ["_law_house", "_law_members", "_law_lanes", "_law_others"] []
  d__law_words : FunD K "_law_words" "_law_words" (defArgs s__law_words) (defBody s__law_words) (defScope s__law_words) [] [] (He.fAd K ("_law_words", none)) A.d__law_words
  B__law_words : Binds K A.d__law_words ["_law_number"] []
  d_law : FunD K "law" "law" (defArgs s_law) (defBody s_law) (defScope s_law) [] [] (He.fAd K ("law", none)) A.d_law
  B_law : Binds K A.d_law ["_law_script"] []
  g_AT_WORK : mg "AT_WORK" = some (.ref (He.ga K "AT_WORK"))
  g_BadBook : mg "BadBook" = some (.ref (He.ga K "BadBook"))
  g_Book : mg "Book" = some (.ref (He.ga K "Book"))
  g_Call : mg "Call" = some (.ref (He.ga K "Call"))
  g_Hold : mg "Hold" = some (.ref (He.ga K "Hold"))
  g_House : mg "House" = some (.ref (He.ga K "House"))
  g_Ledger : mg "Ledger" = some (.ref (He.ga K "Ledger"))
  g_MARKS : mg "MARKS" = some (.ref (He.ga K "MARKS"))
  g_MOVES : mg "MOVES" = some (.ref (He.ga K "MOVES"))
  g_Mark : mg "Mark" = some (.ref (He.ga K "Mark"))
  g_NotNow : mg "NotNow" = some (.ref (He.ga K "NotNow"))
  g_Numbered : mg "Numbered" = some (.ref (He.ga K "Numbered"))
  g_OUTS : mg "OUTS" = some (.ref (He.ga K "OUTS"))
  g_STOPS : mg "STOPS" = some (.ref (He.ga K "STOPS"))
  g_Share : mg "Share" = some (.ref (He.ga K "Share"))
  g_Slot : mg "Slot" = some (.ref (He.ga K "Slot"))
  g_Stint : mg "Stint" = some (.ref (He.ga K "Stint"))
  g_UnknownName : mg "UnknownName" = some (.ref (He.ga K "UnknownName"))
  g__law_book : mg "_law_book" = some (.ref (He.ga K "_law_book"))
  g__law_cell : mg "_law_cell" = some (.ref (He.ga K "_law_cell"))
  g__law_is_new : mg "_law_is_new" = some (.ref (He.ga K "_law_is_new"))
  g__law_mixed : mg "_law_mixed" = some (.ref (He.ga K "_law_mixed"))
  g__law_names : mg "_law_names" = some (.ref (He.ga K "_law_names"))
  g__law_row : mg "_law_row" = some (.ref (He.ga K "_law_row"))
  g__law_words : mg "_law_words" = some (.ref (He.ga K "_law_words"))
  g_ascending : mg "ascending" = some (.ref (He.ga K "ascending"))
  g_at_work : mg "at_work" = some (.ref (He.ga K "at_work"))
  g_law : mg "law" = some (.ref (He.ga K "law"))
  b_abs : mg "abs" = none
  b_bool : mg "bool" = none
  b_dict : mg "dict" = none
  b_int : mg "int" = none
  b_isinstance : mg "isinstance" = none
  b_iter : mg "iter" = none
  b_len : mg "len" = none
  b_list : mg "list" = none
  b_range : mg "range" = none
  b_sorted : mg "sorted" = none
  b_str : mg "str" = none
  b_super : mg "super" = none
  c_Book : Cls K (He.ga K "Book")
  c_Hold : Cls K (He.ga K "Hold")
  c_House : Cls K (He.ga K "House")
  c_Ledger : Cls K (He.ga K "Ledger")
  c_Mark : Cls K (He.ga K "Mark")
  c_Numbered : Cls K (He.ga K "Numbered")
  c_Share : Cls K (He.ga K "Share")
  c_Slot : Cls K (He.ga K "Slot")
  c_Stint : Cls K (He.ga K "Stint")
  na_Book_marks : NoAttr K (He.ga K "Book") "marks"
  na_Book_move : NoAttr K (He.ga K "Book") "move"
  na_Book_out : NoAttr K (He.ga K "Book") "out"
  na_Book_pairs : NoAttr K (He.ga K "Book") "pairs"
  na_Book_stop : NoAttr K (He.ga K "Book") "stop"
  na_Hold_lane : NoAttr K (He.ga K "Hold") "lane"
  na_House_answered : NoAttr K (He.ga K "House") "answered"
  na_House_awaits : NoAttr K (He.ga K "House") "awaits"
  na_House_book : NoAttr K (He.ga K "House") "book"
  na_House_called : NoAttr K (He.ga K "House") "called"
  na_House_editions : NoAttr K (He.ga K "House") "editions"
  na_House_held : NoAttr K (He.ga K "House") "held"
  na_House_lanes : NoAttr K (He.ga K "House") "lanes"
  na_House_letters : NoAttr K (He.ga K "House") "letters"
  na_House_own : NoAttr K (He.ga K "House") "own"
  na_House_owner : NoAttr K (He.ga K "House") "owner"
  na_House_post : NoAttr K (He.ga K "House") "post"
  na_House_round : NoAttr K (He.ga K "House") "round"
  na_House_rows : NoAttr K (He.ga K "House") "rows"
  na_House_slots : NoAttr K (He.ga K "House") "slots"
  na_House_status : NoAttr K (He.ga K "House") "status"
  na_House_stints : NoAttr K (He.ga K "House") "stints"
  na_House_window : NoAttr K (He.ga K "House") "window"
  na_Ledger_names : NoAttr K (He.ga K "Ledger") "names"
  na_Ledger_table : NoAttr K (He.ga K "Ledger") "table"
  na_Mark_giving : NoAttr K (He.ga K "Mark") "giving"
  na_Mark_lane : NoAttr K (He.ga K "Mark") "lane"
  na_Mark_row : NoAttr K (He.ga K "Mark") "row"
  na_Numbered_giving : NoAttr K (He.ga K "Numbered") "giving"
  na_Share_lanes : NoAttr K (He.ga K "Share") "lanes"
  na_Slot_giving : NoAttr K (He.ga K "Slot") "giving"
  na_Slot_lane : NoAttr K (He.ga K "Slot") "lane"
  na_Slot_owner : NoAttr K (He.ga K "Slot") "owner"
  na_Slot_row : NoAttr K (He.ga K "Slot") "row"
  na_Slot_rule : NoAttr K (He.ga K "Slot") "rule"
  na_Stint_giving : NoAttr K (He.ga K "Stint") "giving"
  na_Stint_row : NoAttr K (He.ga K "Stint") "row"
  me_House_call_is_due : Meth K (He.ga K "House") "call_is_due" (He.fAd K ("House", some "call_is_due"))
  me_House_check_lane : Meth K (He.ga K "House") "check_lane" (He.fAd K ("House", some "check_lane"))
  me_House_check_member : Meth K (He.ga K "House") "check_member" (He.fAd K ("House", some "check_member"))
  me_House_done : Meth K (He.ga K "House") "done" (He.fAd K ("House", some "done"))
  me_House_due : Meth K (He.ga K "House") "due" (He.fAd K ("House", some "due"))
  me_House_due_dealing : Meth K (He.ga K "House") "due_dealing" (He.fAd K ("House", some "due_dealing"))
  me_House_enter : Meth K (He.ga K "House") "enter" (He.fAd K ("House", some "enter"))
  me_House_is_still_lost : Meth K (He.ga K "House") "is_still_lost" (He.fAd K ("House", some "is_still_lost"))
  me_House_is_waited_for : Meth K (He.ga K "House") "is_waited_for" (He.fAd K ("House", some "is_waited_for"))
  me_House_members_in : Meth K (He.ga K "House") "members_in" (He.fAd K ("House", some "members_in"))
  me_House_place : Meth K (He.ga K "House") "place" (He.fAd K ("House", some "place"))
  me_House_sent : Meth K (He.ga K "House") "sent" (He.fAd K ("House", some "sent"))
  me_House_slot : Meth K (He.ga K "House") "slot" (He.fAd K ("House", some "slot"))
  me_Ledger___contains__ : Meth K (He.ga K "Ledger") "__contains__" (He.fAd K ("Ledger", some "__contains__"))
  me_Ledger___getitem__ : Meth K (He.ga K "Ledger") "__getitem__" (He.fAd K ("Ledger", some "__getitem__"))
  me_Share___contains__ : Meth K (He.ga K "Share") "__contains__" (He.fAd K ("Share", some "__contains__"))
  me_Share___len__ : Meth K (He.ga K "Share") "__len__" (He.fAd K ("Share", some "__len__"))
  mk_Book : Mk K (He.ga K "Book") (He.fAd K ("Book", some "__init__"))
  mk_House : Mk K (He.ga K "House") (He.fAd K ("House", some "__init__"))
  mk_Ledger : Mk K (He.ga K "Ledger") (He.fAd K ("Ledger", some "__init__"))
  mk_Share : Mk K (He.ga K "Share") (He.fAd K ("Share", some "__init__"))
  mk_Slot : Mk K (He.ga K "Slot") (He.fAd K ("Slot", some "__init__"))
  q_AT_WORK : KtT K (He.ga K "AT_WORK") [.str "works", .str "late", .str "ghost", .str "ghost+"]
  q_MARKS : KtT K (He.ga K "MARKS") [.str "any", .str "owner", .str "given"]
  q_MOVES : KtT K (He.ga K "MOVES") [.str "once", .str "back"]
  q_OUTS : KtT K (He.ga K "OUTS") [.str "once", .str "wait"]
  q_STOPS : KtT K (He.ga K "STOPS") [.str "asked", .str "all"]
  isi : IsiOk K (gOf K) ownT
  pr_Slot_mark : PropOf K (He.ga K "Slot") "mark" (prA K (He.ga K "Slot") "mark") (prG K (He.ga K "Slot") "mark")
  ox_BadBook : OexC K (He.ga K "BadBook")
  ei_BadBook : ExcI K FILE (He.ga K "BadBook") (He.fAd K ("BadBook", some "__init__")) "BadBook.__init__" (defArgs s_BadBook___init__) (defBody s_BadBook___init__) (defScope s_BadBook___init__)
  nf_BadBook_option : PySem.W.findIn K (.ref (He.ga K "BadBook")) "option" = some none
  ox_NotNow : OexC K (He.ga K "NotNow")
  ei_NotNow : ExcI K FILE (He.ga K "NotNow") (He.fAd K ("NotNow", some "__init__")) "NotNow.__init__" (defArgs s_NotNow___init__) (defBody s_NotNow___init__) (defScope s_NotNow___init__)
  nf_NotNow_why : PySem.W.findIn K (.ref (He.ga K "NotNow")) "why" = some none
  nf_NotNow_name : PySem.W.findIn K (.ref (He.ga K "NotNow")) "name" = some none
  ox_UnknownName : OexC K (He.ga K "UnknownName")
  ei_UnknownName : ExcI K FILE (He.ga K "UnknownName") (He.fAd K ("UnknownName", some "__init__")) "UnknownName.__init__" (defArgs s_UnknownName___init__) (defBody s_UnknownName___init__) (defScope s_UnknownName___init__)
  nf_UnknownName_name : PySem.W.findIn K (.ref (He.ga K "UnknownName")) "name" = some none
  it_Ledger : ItrC K (He.ga K "Ledger") (He.fAd K ("Ledger", some "__iter__"))
  mz_Call : Mk00 K (He.ga K "Call")
  fi_Ledger___getitem__ : PySem.W.fnIn K (He.fAd K ("Ledger", some "__getitem__")) = true
  ns_Ledger : PySem.W.noSeq K (He.ga K "Ledger") = true
section
variable {P : Program} {w : World} {K : PySem.W.Frag} {mg : Str → Option Value} {base : Heap} {A : Ad}
theorem tc_AT_WORK {X : Cx} {W : WX} {pos : Pos} (T : Txt X.prog X.w X.K X.mg A) (hg : Gl X "AT_WORK") : PE X (.Name "AT_WORK" pos) (RE X.K (gOf X.K) W (eC k_AT_WORK)) :=
  m_const (pe_glob (v := .ref (He.ga X.K "AT_WORK")) hg T.g_AT_WORK rfl) fun ρ H => by simp only [k_AT_WORK, VR]; exact ⟨_, _, rfl, T.q_AT_WORK, by simp [VRs, VR]⟩
theorem tc_MARKS {X : Cx} {W : WX} {pos : Pos} (T : Txt X.prog X.w X.K X.mg A) (hg : Gl X "MARKS") : PE X (.Name "MARKS" pos) (RE X.K (gOf X.K) W (eC k_MARKS)) :=
  m_const (pe_glob (v := .ref (He.ga X.K "MARKS")) hg T.g_MARKS rfl) fun ρ H => by simp only [k_MARKS, VR]; exact ⟨_, _, rfl, T.q_MARKS, by simp [VRs, VR]⟩
theorem tc_MOVES {X : Cx} {W : WX} {pos : Pos} (T : Txt X.prog X.w X.K X.mg A) (hg : Gl X "MOVES") : PE X (.Name "MOVES" pos) (RE X.K (gOf X.K) W (eC k_MOVES)) :=
  m_const (pe_glob (v := .ref (He.ga X.K "MOVES")) hg T.g_MOVES rfl) fun ρ H => by simp only [k_MOVES, VR]; exact ⟨_, _, rfl, T.q_MOVES, by simp [VRs, VR]⟩
theorem tc_OUTS {X : Cx} {W : WX} {pos : Pos} (T : Txt X.prog X.w X.K X.mg A) (hg : Gl X "OUTS") : PE X (.Name "OUTS" pos) (RE X.K (gOf X.K) W (eC k_OUTS)) :=
  m_const (pe_glob (v := .ref (He.ga X.K "OUTS")) hg T.g_OUTS rfl) fun ρ H => by simp only [k_OUTS, VR]; exact ⟨_, _, rfl, T.q_OUTS, by simp [VRs, VR]⟩
theorem tc_STOPS {X : Cx} {W : WX} {pos : Pos} (T : Txt X.prog X.w X.K X.mg A) (hg : Gl X "STOPS") : PE X (.Name "STOPS" pos) (RE X.K (gOf X.K) W (eC k_STOPS)) :=
  m_const (pe_glob (v := .ref (He.ga X.K "STOPS")) hg T.g_STOPS rfl) fun ρ H => by simp only [k_STOPS, VR]; exact ⟨_, _, rfl, T.q_STOPS, by simp [VRs, VR]⟩
theorem fo_answered (T : Txt P w K mg A) : FldOk K (gOf K) "answered" ["House"] := fun c hc C hG => by
  simp only [List.mem_cons, List.not_mem_nil, or_false] at hc
  rcases hc with rfl <;> (simp only [gOf, Option.some.injEq, V.ref.injEq] at hG; subst hG)
  · exact ⟨T.c_House, T.na_House_answered⟩
theorem fo_awaits (T : Txt P w K mg A) : FldOk K (gOf K) "awaits" ["House"] := fun c hc C hG => by
  simp only [List.mem_cons, List.not_mem_nil, or_false] at hc
  rcases hc with rfl <;> (simp only [gOf, Option.some.injEq, V.ref.injEq] at hG; subst hG)
  · exact ⟨T.c_House, T.na_House_awaits⟩
theorem fo_book (T : Txt P w K mg A) : FldOk K (gOf K) "book" ["House"] := fun c hc C hG => by
  simp only [List.mem_cons, List.not_mem_nil, or_false] at hc
  rcases hc with rfl <;> (simp only [gOf, Option.some.injEq, V.ref.injEq] at hG; subst hG)
  · exact ⟨T.c_House, T.na_House_book⟩
theorem fo_called (T : Txt P w K mg A) : FldOk K (gOf K) "called" ["House"] := fun c hc C hG => by
  simp only [List.mem_cons, List.not_mem_nil, or_false] at hc
  rcases hc with rfl <;> (simp only [gOf, Option.some.injEq, V.ref.injEq] at hG; subst hG)
  · exact ⟨T.c_House, T.na_House_called⟩
theorem fo_editions (T : Txt P w K mg A) : FldOk K (gOf K) "editions" ["House"] := fun c hc C hG => by
  simp only [List.mem_cons, List.not_mem_nil, or_false] at hc
  rcases hc with rfl <;> (simp only [gOf, Option.some.injEq, V.ref.injEq] at hG; subst hG)
  · exact ⟨T.c_House, T.na_House_editions⟩
theorem fo_giving (T : Txt P w K mg A) : FldOk K (gOf K) "giving" ["Numbered", "Slot", "Stint", "Mark"] := fun c hc C hG => by
  simp only [List.mem_cons, List.not_mem_nil, or_false] at hc
  rcases hc with rfl | rfl | rfl | rfl <;> (simp only [gOf, Option.some.injEq, V.ref.injEq] at hG; subst hG)
  · exact ⟨T.c_Numbered, T.na_Numbered_giving⟩
  · exact ⟨T.c_Slot, T.na_Slot_giving⟩
  · exact ⟨T.c_Stint, T.na_Stint_giving⟩
  · exact ⟨T.c_Mark, T.na_Mark_giving⟩
theorem fo_held (T : Txt P w K mg A) : FldOk K (gOf K) "held" ["House"] := fun c hc C hG => by
  simp only [List.mem_cons, List.not_mem_nil, or_false] at hc
  rcases hc with rfl <;> (simp only [gOf, Option.some.injEq, V.ref.injEq] at hG; subst hG)
  · exact ⟨T.c_House, T.na_House_held⟩
theorem fo_lane (T : Txt P w K mg A) : FldOk K (gOf K) "lane" ["Mark", "Slot", "Hold"] := fun c hc C hG => by
  simp only [List.mem_cons, List.not_mem_nil, or_false] at hc
  rcases hc with rfl | rfl | rfl <;> (simp only [gOf, Option.some.injEq, V.ref.injEq] at hG; subst hG)
  · exact ⟨T.c_Mark, T.na_Mark_lane⟩
  · exact ⟨T.c_Slot, T.na_Slot_lane⟩
  · exact ⟨T.c_Hold, T.na_Hold_lane⟩
theorem fo_lanes (T : Txt P w K mg A) : FldOk K (gOf K) "lanes" ["Share", "House"] := fun c hc C hG => by
  simp only [List.mem_cons, List.not_mem_nil, or_false] at hc
  rcases hc with rfl | rfl <;> (simp only [gOf, Option.some.injEq, V.ref.injEq] at hG; subst hG)
  · exact ⟨T.c_Share, T.na_Share_lanes⟩
  · exact ⟨T.c_House, T.na_House_lanes⟩
theorem fo_letters (T : Txt P w K mg A) : FldOk K (gOf K) "letters" ["House"] := fun c hc C hG => by
  simp only [List.mem_cons, List.not_mem_nil, or_false] at hc
  rcases hc with rfl <;> (simp only [gOf, Option.some.injEq, V.ref.injEq] at hG; subst hG)
  · exact ⟨T.c_House, T.na_House_letters⟩
theorem fo_marks (T : Txt P w K mg A) : FldOk K (gOf K) "marks" ["Book"] := fun c hc C hG => by
  simp only [List.mem_cons, List.not_mem_nil, or_false] at hc
  rcases hc with rfl <;> (simp only [gOf, Option.some.injEq, V.ref.injEq] at hG; subst hG)
  · exact ⟨T.c_Book, T.na_Book_marks⟩
theorem fo_move (T : Txt P w K mg A) : FldOk K (gOf K) "move" ["Book"] := fun c hc C hG => by
  simp only [List.mem_cons, List.not_mem_nil, or_false] at hc
  rcases hc with rfl <;> (simp only [gOf, Option.some.injEq, V.ref.injEq] at hG; subst hG)
  · exact ⟨T.c_Book, T.na_Book_move⟩
theorem fo_names (T : Txt P w K mg A) : FldOk K (gOf K) "names" ["Ledger"] := fun c hc C hG => by
  simp only [List.mem_cons, List.not_mem_nil, or_false] at hc
  rcases hc with rfl <;> (simp only [gOf, Option.some.injEq, V.ref.injEq] at hG; subst hG)
  · exact ⟨T.c_Ledger, T.na_Ledger_names⟩
theorem fo_out (T : Txt P w K mg A) : FldOk K (gOf K) "out" ["Book"] := fun c hc C hG => by
  simp only [List.mem_cons, List.not_mem_nil, or_false] at hc
  rcases hc with rfl <;> (simp only [gOf, Option.some.injEq, V.ref.injEq] at hG; subst hG)
  · exact ⟨T.c_Book, T.na_Book_out⟩
theorem fo_own (T : Txt P w K mg A) : FldOk K (gOf K) "own" ["House"] := fun c hc C hG => by
  simp only [List.mem_cons, List.not_mem_nil, or_false] at hc
  rcases hc with rfl <;> (simp only [gOf, Option.some.injEq, V.ref.injEq] at hG; subst hG)
  · exact ⟨T.c_House, T.na_House_own⟩
theorem fo_owner (T : Txt P w K mg A) : FldOk K (gOf K) "owner" ["Slot", "House"] := fun c hc C hG => by
  simp only [List.mem_cons, List.not_mem_nil, or_false] at hc
  rcases hc with rfl | rfl <;> (simp only [gOf, Option.some.injEq, V.ref.injEq] at hG; subst hG)
  · exact ⟨T.c_Slot, T.na_Slot_owner⟩
  · exact ⟨T.c_House, T.na_House_owner⟩
theorem fo_pairs (T : Txt P w K mg A) : FldOk K (gOf K) "pairs" ["Book"] := fun c hc C hG => by
  simp only [List.mem_cons, List.not_mem_nil, or_false] at hc
  rcases hc with rfl <;> (simp only [gOf, Option.some.injEq, V.ref.injEq] at hG; subst hG)
  · exact ⟨T.c_Book, T.na_Book_pairs⟩
theorem fo_post (T : Txt P w K mg A) : FldOk K (gOf K) "post" ["House"] := fun c hc C hG => by
  simp only [List.mem_cons, List.not_mem_nil, or_false] at hc
  rcases hc with rfl <;> (simp only [gOf, Option.some.injEq, V.ref.injEq] at hG; subst hG)
  · exact ⟨T.c_House, T.na_House_post⟩
theorem fo_round (T : Txt P w K mg A) : FldOk K (gOf K) "round" ["House"] := fun c hc C hG => by
  simp only [List.mem_cons, List.not_mem_nil, or_false] at hc
  rcases hc with rfl <;> (simp only [gOf, Option.some.injEq, V.ref.injEq] at hG; subst hG)
  · exact ⟨T.c_House, T.na_House_round⟩
theorem fo_row (T : Txt P w K mg A) : FldOk K (gOf K) "row" ["Mark", "Slot", "Stint"] := fun c hc C hG => by
  simp only [List.mem_cons, List.not_mem_nil, or_false] at hc
  rcases hc with rfl | rfl | rfl <;> (simp only [gOf, Option.some.injEq, V.ref.injEq] at hG; subst hG)
  · exact ⟨T.c_Mark, T.na_Mark_row⟩
  · exact ⟨T.c_Slot, T.na_Slot_row⟩
  · exact ⟨T.c_Stint, T.na_Stint_row⟩
theorem fo_rows (T : Txt P w K mg A) : FldOk K (gOf K) "rows" ["House"] := fun c hc C hG => by
  simp only [List.mem_cons, List.not_mem_nil, or_false] at hc
  rcases hc with rfl <;> (simp only [gOf, Option.some.injEq, V.ref.injEq] at hG; subst hG)
  · exact ⟨T.c_House, T.na_House_rows⟩
theorem fo_rule (T : Txt P w K mg A) : FldOk K (gOf K) "rule" ["Slot"] := fun c hc C hG => by
  simp only [List.mem_cons, List.not_mem_nil, or_false] at hc
  rcases hc with rfl <;> (simp only [gOf, Option.some.injEq, V.ref.injEq] at hG; subst hG)
  · exact ⟨T.c_Slot, T.na_Slot_rule⟩
theorem fo_slots (T : Txt P w K mg A) : FldOk K (gOf K) "slots" ["House"] := fun c hc C hG => by
  simp only [List.mem_cons, List.not_mem_nil, or_false] at hc
  rcases hc with rfl <;> (simp only [gOf, Option.some.injEq, V.ref.injEq] at hG; subst hG)
  · exact ⟨T.c_House, T.na_House_slots⟩
theorem fo_status (T : Txt P w K mg A) : FldOk K (gOf K) "status" ["House"] := fun c hc C hG => by
  simp only [List.mem_cons, List.not_mem_nil, or_false] at hc
  rcases hc with rfl <;> (simp only [gOf, Option.some.injEq, V.ref.injEq] at hG; subst hG)
  · exact ⟨T.c_House, T.na_House_status⟩
theorem fo_stints (T : Txt P w K mg A) : FldOk K (gOf K) "stints" ["House"] := fun c hc C hG => by
  simp only [List.mem_cons, List.not_mem_nil, or_false] at hc
  rcases hc with rfl <;> (simp only [gOf, Option.some.injEq, V.ref.injEq] at hG; subst hG)
  · exact ⟨T.c_House, T.na_House_stints⟩
theorem fo_stop (T : Txt P w K mg A) : FldOk K (gOf K) "stop" ["Book"] := fun c hc C hG => by
  simp only [List.mem_cons, List.not_mem_nil, or_false] at hc
  rcases hc with rfl <;> (simp only [gOf, Option.some.injEq, V.ref.injEq] at hG; subst hG)
  · exact ⟨T.c_Book, T.na_Book_stop⟩
theorem fo_table (T : Txt P w K mg A) : FldOk K (gOf K) "table" ["Ledger"] := fun c hc C hG => by
  simp only [List.mem_cons, List.not_mem_nil, or_false] at hc
  rcases hc with rfl <;> (simp only [gOf, Option.some.injEq, V.ref.injEq] at hG; subst hG)
  · exact ⟨T.c_Ledger, T.na_Ledger_table⟩
theorem fo_window (T : Txt P w K mg A) : FldOk K (gOf K) "window" ["House"] := fun c hc C hG => by
  simp only [List.mem_cons, List.not_mem_nil, or_false] at hc
  rcases hc with rfl <;> (simp only [gOf, Option.some.injEq, V.ref.injEq] at hG; subst hG)
  · exact ⟨T.c_House, T.na_House_window⟩
theorem kb_Book___init___1_stop_move_out_marks (T : Txt P w K mg A) : ∃ mv : List Value, KBn K A.d_Book___init__ ["self", "stop", "move", "out", "marks"] 1 ["stop", "move", "out", "marks"] (fun us ws => pickL [(0, 0), (2, 0), (2, 1), (2, 2), (2, 3)] us mv ws) (fun us ws => pickL [(0, 0), (2, 0), (2, 1), (2, 2), (2, 3)] us [] ws) :=
  FunD.kbinds0 T.d_Book___init__ 1 ["stop", "move", "out", "marks"] [] (pickL [(0, 0), (2, 0), (2, 1), (2, 2), (2, 3)]) (by simp) (by simp) (fun a b c => Vals.pick a b c _) fun D doc pm an cdv ct us mv ws h1 h2 h3 => match us, mv, ws, h1, h2, h3 with
    | [_], [], [_, _, _, _], _, _, _ => rfl
theorem kb_House___init___4_ (T : Txt P w K mg A) : ∃ mv : List Value, KBn K A.d_House___init__ ["self", "book", "members", "lanes", "window"] 4 [] (fun us ws => pickL [(0, 0), (0, 1), (0, 2), (0, 3), (1, 0)] us mv ws) (fun us ws => pickL [(0, 0), (0, 1), (0, 2), (0, 3), (1, 0)] us [(.int 5)] ws) :=
  FunD.kbinds0 T.d_House___init__ 4 [] [("window", (.int 5))] (pickL [(0, 0), (0, 1), (0, 2), (0, 3), (1, 0)]) (by simp) (by simp) (fun a b c => Vals.pick a b c _) fun D doc pm an cdv ct us mv ws h1 h2 h3 => match us, mv, ws, h1, h2, h3 with
    | [_, _, _, _], [_], [], _, _, _ => ⟨_, _, _, _, _, _, rfl, rfl, rfl⟩
theorem kb_House___init___4_window (T : Txt P w K mg A) : ∃ mv : List Value, KBn K A.d_House___init__ ["self", "book", "members", "lanes", "window"] 4 ["window"] (fun us ws => pickL [(0, 0), (0, 1), (0, 2), (0, 3), (2, 0)] us mv ws) (fun us ws => pickL [(0, 0), (0, 1), (0, 2), (0, 3), (2, 0)] us [] ws) :=
  FunD.kbinds0 T.d_House___init__ 4 ["window"] [] (pickL [(0, 0), (0, 1), (0, 2), (0, 3), (2, 0)]) (by simp) (by simp) (fun a b c => Vals.pick a b c _) fun D doc pm an cdv ct us mv ws h1 h2 h3 => match us, mv, ws, h1, h2, h3 with
    | [_, _, _, _], [], [_], _, _, _ => rfl
theorem kb_Book___init___1_ (T : Txt P w K mg A) : ∃ mv : List Value, KBn K A.d_Book___init__ ["self", "stop", "move", "out", "marks"] 1 [] (fun us ws => pickL [(0, 0), (1, 0), (1, 1), (1, 2), (1, 3)] us mv ws) (fun us ws => pickL [(0, 0), (1, 0), (1, 1), (1, 2), (1, 3)] us [(.str "asked"), (.str "once"), (.str "once"), (.str "any")] ws) :=
  FunD.kbinds0 T.d_Book___init__ 1 [] [("stop", (.str "asked")), ("move", (.str "once")), ("out", (.str "once")), ("marks", (.str "any"))] (pickL [(0, 0), (1, 0), (1, 1), (1, 2), (1, 3)]) (by simp) (by simp) (fun a b c => Vals.pick a b c _) fun D doc pm an cdv ct us mv ws h1 h2 h3 => match us, mv, ws, h1, h2, h3 with
    | [_], [_, _, _, _], [], _, _, _ => ⟨_, _, _, _, _, _, rfl, rfl, ⟨_, _, _, _, _, _, rfl, rfl, ⟨_, _, _, _, _, _, rfl, rfl, ⟨_, _, _, _, _, _, rfl, rfl, rfl⟩⟩⟩⟩
theorem rm_BadBook (hP : PFa P FILE) (T : Txt P w K mg A) : RaiM P w K mg base (gOf K) "BadBook" ["option"] (He.ga K "BadBook") :=
  rai1 hP T.ei_BadBook T.ox_BadBook rfl T.b_super T.nf_BadBook_option (fun env => ⟨_, rfl⟩) ⟨rfl, rfl, rfl, by decide +kernel, rfl, by decide +kernel, by decide +kernel, by decide +kernel⟩ ⟨_, rfl, rfl⟩ rfl rfl (fun _ _ _ _ _ _ _ us hl => match us, hl with | [_, _], _ => rfl)
theorem rm_NotNow (hP : PFa P FILE) (T : Txt P w K mg A) : RaiM P w K mg base (gOf K) "NotNow" ["why", "name"] (He.ga K "NotNow") :=
  rai2 hP T.ei_NotNow T.ox_NotNow rfl T.b_super T.nf_NotNow_why T.nf_NotNow_name (fun env => ⟨_, rfl⟩) ⟨rfl, rfl, rfl, by decide +kernel, rfl, by decide +kernel, by decide +kernel, by decide +kernel⟩ ⟨_, rfl, rfl⟩ rfl rfl (fun _ _ _ _ _ _ _ us hl => match us, hl with | [_, _, _], _ => rfl)
theorem rm_UnknownName (hP : PFa P FILE) (T : Txt P w K mg A) : RaiM P w K mg base (gOf K) "UnknownName" ["name"] (He.ga K "UnknownName") :=
  rai1 hP T.ei_UnknownName T.ox_UnknownName rfl T.b_super T.nf_UnknownName_name (fun env => ⟨_, rfl⟩) ⟨rfl, rfl, rfl, by decide +kernel, rfl, by decide +kernel, by decide +kernel, by decide +kernel⟩ ⟨_, rfl, rfl⟩ rfl rfl (fun _ _ _ _ _ _ _ us hl => match us, hl with | [_, _], _ => rfl)
end
end Lw
namespace Lw
open PySem L2 Mo
section
variable {P : Program} {w : World} {K : PySem.W.Frag} {mg : Str → Option Value} {base : Heap} {A : Ad}
theorem ok__law_mixed (hP : PFa P FILE) (T : Txt P w K mg A) : FnOk P w K mg base (L2.CX P w) 1 (He.fAd K ("_law_mixed", none)) A.d__law_mixed ["_law_number", "_law_k"] (SpM K (gOf K) 2 m__law_mixed) :=
  fn_gc (fn_mD (N := ["_law_number", "_law_k", "_law_early"]) T.d__law_mixed sc__law_mixed fun cdv Ar outer s H E hr => by
    have tk := takes_of (X := cxOf (L2.CX P w) P w K mg base ["_law_number", "_law_k", "_law_early"] "_law_mixed" (defScope s__law_mixed) (He.fAd K ("_law_mixed", none)) cdv Ar outer s H E) rfl rfl rfl rfl
    exact (m_scons (m_set (i := 2) sc__law_mixed.nd rfl (Or.inl rfl) (m_op op_mod s_mod (m_callTy call_int1 s_int (by rfl) T.b_int (by decide +kernel) (m_acons (m_op o_add s_add (m_op o_add s_add (m_op op_mul s_mul (m_var (pv 0)) m_int) (m_op op_mul s_mul (m_var (pv 1)) m_int)) m_int) m_anil)) m_int))
      (m_sone (m_ret (m_op op_fdiv s_div (m_op op_mod s_mod (m_callTy call_int1 s_int (by rfl) T.b_int (by decide +kernel) (m_acons (m_op op_mul s_mul (m_var (pv 2)) (m_op o_add s_add (m_op o_add s_add (m_op op_fdiv s_div (m_var (pv 2)) m_int) (m_op op_mul s_mul m_int (m_var (pv 1)))) m_int)) m_anil)) m_int) m_int)))))
theorem ok__law_row (hP : PFa P FILE) (T : Txt P w K mg A) : FnOk P w K mg base (L2.CX P w) 2 (He.fAd K ("_law_row", none)) A.d__law_row ["_law_cell_here", "_law_count", "_law_base"] (SpM K (gOf K) 3 m__law_row) :=
  fn_gc (fn_mD (N := ["_law_cell_here", "_law_count", "_law_base", "_law_found", "_law_rest", "_law_k"]) T.d__law_row sc__law_row fun cdv Ar outer s H E hr => by
    have tk := takes_of (X := cxOf (L2.CX P w) P w K mg base ["_law_cell_here", "_law_count", "_law_base", "_law_found", "_law_rest", "_law_k"] "_law_row" (defScope s__law_row) (He.fAd K ("_law_row", none)) cdv Ar outer s H E) rfl rfl rfl rfl
    exact (m_scons (m_set (i := 3) sc__law_row.nd rfl (Or.inl rfl) (m_lst m_anil))
      (m_scons (m_set (i := 4) sc__law_row.nd rfl (Or.inl rfl) (m_callB call_abs s_abs (by rfl) T.b_abs (by decide +kernel) (m_acons (m_var (pv 0)) m_anil)))
      (m_scons (m_if (m_cmpT op_lt s_cmp (m_var (pv 4)) (m_op op_pow s_pow m_int m_int) (nomark _)) (m_sone (m_set (i := 4) sc__law_row.nd rfl (Or.inl rfl) m_int)) m_snil)
      (m_scons (m_forR1 (passes_of rfl) rfl (by rfl) T.b_range (m_acons (m_var (pv 1)) m_anil) (pg_name (i := 5) sc__law_row.nd rfl (Or.inl rfl)) gs_name (m_sone (m_if (m_cmpT op_gt s_cmp (m_var (pv 4)) m_int (nomark _)) (m_scons (m_expr (m_bm PySem.F.plainAttrs_list PySem.F.slot_list_append PySem.F.type_list_append mt_append t_lst s_append (m_var (pv 3)) (m_acons (m_op op_mod s_mod (m_callTy call_int1 s_int (by rfl) T.b_int (by decide +kernel) (m_acons (m_var (pv 4)) m_anil)) (m_var (pv 2))) m_anil)))
      (m_sone (m_set (i := 4) sc__law_row.nd rfl (Or.inl rfl) (m_op op_fdiv s_div (m_var (pv 4)) (m_var (pv 2)))))) (m_sone (m_expr (m_bm PySem.F.plainAttrs_list PySem.F.slot_list_append PySem.F.type_list_append mt_append t_lst s_append (m_var (pv 3)) (m_acons (m_op op_mod s_mod (m_callTy call_int1 s_int (by rfl) T.b_int (by decide +kernel) (m_acons (m_call (ok__law_mixed hP T) (hr.mono (by decide)) rfl T.g__law_mixed T.d__law_mixed.kp T.B__law_mixed tk (m_acons (m_var (pv 0)) (m_acons (m_var (pv 5)) m_anil))) m_anil)) (m_var (pv 2))) m_anil)))))))
      (m_sone (m_ret (m_var (pv 3)))))))))
theorem ok__law_names (hP : PFa P FILE) (T : Txt P w K mg A) : FnOk P w K mg base (L2.CX P w) 3 (He.fAd K ("_law_names", none)) A.d__law_names ["_law_cell_here", "_law_count"] (SpM K (gOf K) 2 m__law_names) :=
  fn_gc (fn_mD (N := ["_law_cell_here", "_law_count", "_law_letters", "_law_draws", "_law_body", "_law_found", "_law_k", "_law_size", "_law_at", "_law_told", "_law_draw"]) T.d__law_names sc__law_names fun cdv Ar outer s H E hr => by
    have tk := takes_of (X := cxOf (L2.CX P w) P w K mg base ["_law_cell_here", "_law_count", "_law_letters", "_law_draws", "_law_body", "_law_found", "_law_k", "_law_size", "_law_at", "_law_told", "_law_draw"] "_law_names" (defScope s__law_names) (He.fAd K ("_law_names", none)) cdv Ar outer s H E) rfl rfl rfl rfl
    exact (m_scons (m_set (i := 2) sc__law_names.nd rfl (Or.inr rfl) m_str)
      (m_scons (m_set (i := 3) sc__law_names.nd rfl (Or.inl rfl) (m_call (ok__law_row hP T) (hr.mono (by decide)) rfl T.g__law_row T.d__law_row.kp T.B__law_row tk (m_acons (m_var (pv 0)) (m_acons m_int (m_acons m_int m_anil)))))
      (m_scons (m_set (i := 4) sc__law_names.nd rfl (Or.inl rfl) (m_bm PySem.F.plainAttrs_str PySem.F.slot_str_join PySem.F.type_str_join mt_join t_str s_join m_str (m_acons (m_lc rfl sc__law_names.nd (blkOk_by (own := [("_law_draw", 10)]) (by rfl)) (m_slice (m_var (pv 3)) m_pno (m_pis m_int)) (gw_name (by decide)) (fun _ _ _ _ _ => (pg_name (i := 10) sc__law_names.nd rfl (Or.inl rfl))) (fun _ _ _ _ _ => m_tests0) (fun _ _ _ _ _ => (m_ixA hr (m_var (pv 2)) (m_var (pv 10))))) m_anil)))
      (m_scons (m_set (i := 5) sc__law_names.nd rfl (Or.inl rfl) (m_lst m_anil))
      (m_scons (m_forR1 (passes_of rfl) rfl (by rfl) T.b_range (m_acons (m_var (pv 1)) m_anil) (pg_name (i := 6) sc__law_names.nd rfl (Or.inl rfl)) gs_name (m_scons (m_set (i := 7) sc__law_names.nd rfl (Or.inl rfl) (m_op op_mod s_mod (m_callTy call_int1 s_int (by rfl) T.b_int (by decide +kernel) (m_acons (m_ixA hr (m_var (pv 3)) m_int) m_anil)) m_int))
      (m_scons (m_set (i := 8) sc__law_names.nd rfl (Or.inl rfl) (m_op op_mod s_mod (m_callTy call_int1 s_int (by rfl) T.b_int (by decide +kernel) (m_acons (m_ixA hr (m_var (pv 3)) m_int) m_anil)) (m_op o_add s_add (m_var (pv 7)) m_int)))
      (m_scons (m_set (i := 9) sc__law_names.nd rfl (Or.inl rfl) (m_ixA hr (m_var (pv 2)) (m_op op_mod s_mod (m_callTy call_int1 s_int (by rfl) T.b_int (by decide +kernel) (m_acons (m_op o_add s_add (m_ixA hr (m_var (pv 3)) m_int) (m_op op_mul s_mul (m_var (pv 6)) (m_op o_add s_add m_int (m_op op_mod s_mod (m_callTy call_int1 s_int (by rfl) T.b_int (by decide +kernel) (m_acons (m_ixA hr (m_var (pv 3)) m_int) m_anil)) m_int)))) m_anil)) m_int)))
      (m_sone (m_if (m_cmpT (op_eqM hr.units) s_eq (m_op op_mod s_mod (m_callTy call_int1 s_int (by rfl) T.b_int (by decide +kernel) (m_acons (m_ixA hr (m_var (pv 3)) m_int) m_anil)) m_int) m_int (nomark _)) (m_sone (m_expr (m_bm PySem.F.plainAttrs_list PySem.F.slot_list_append PySem.F.type_list_append mt_append t_lst s_append (m_var (pv 5)) (m_acons (m_op o_add s_add (m_op o_add s_add (m_slice (m_var (pv 4)) m_pno (m_pis (m_var (pv 8)))) (m_var (pv 9))) (m_slice (m_var (pv 4)) (m_pis (m_var (pv 8))) (m_pis (m_var (pv 7))))) m_anil)))) (m_sone (m_expr (m_bm PySem.F.plainAttrs_list PySem.F.slot_list_append PySem.F.type_list_append mt_append t_lst s_append (m_var (pv 5)) (m_acons (m_slice (m_op o_add s_add (m_var (pv 4)) (m_ixA hr (m_var (pv 2)) (m_ixA hr (m_var (pv 3)) m_int))) m_pno (m_pis (m_op o_add s_add m_int (m_op op_mod s_mod (m_callTy call_int1 s_int (by rfl) T.b_int (by decide +kernel) (m_acons (m_op o_add s_add (m_ixA hr (m_var (pv 3)) m_int) (m_var (pv 6))) m_anil)) m_int)))) m_anil))))))))))
      (m_sone (m_ret (m_var (pv 5))))))))))
theorem ok_Ledger___init__ (hP : PFa P FILE) (T : Txt P w K mg A) : FnOk P w K mg base (L2.CX P w) 1 (He.fAd K ("Ledger", some "__init__")) A.d_Ledger___init__ ["self", "lanes", "names"] (SpM K (gOf K) 3 m_Ledger___init__) :=
  fn_mD (N := ["self", "lanes", "names", "lane"]) T.d_Ledger___init__ sc_Ledger___init__ fun cdv Ar outer s H E hr => by
    have tk := takes_of (X := cxOf (L2.CX P w) P w K mg base ["self", "lanes", "names", "lane"] "Ledger.__init__" (defScope s_Ledger___init__) (He.fAd K ("Ledger", some "__init__")) cdv Ar outer s H E) rfl rfl rfl rfl
    exact (m_scons (m_sfld (fo_names T) (m_var (pv 0)) (m_var (pv 2)))
      (m_sone (m_sfld (fo_table T) (m_var (pv 0)) (m_dc rfl sc_Ledger___init__.nd (blkOk_by (own := [("lane", 3)]) (by rfl)) (m_var (pv 1)) (gw_name (by decide)) (fun _ _ _ _ _ => (pg_name (i := 3) sc_Ledger___init__.nd rfl (Or.inl rfl))) (fun _ _ _ _ _ => m_tests0) (fun _ _ _ _ _ => (m_var (pv 3))) (fun _ _ _ _ _ => m_non)))))
theorem ok_Slot___init__ (hP : PFa P FILE) (T : Txt P w K mg A) : FnOk P w K mg base (L2.CX P w) 1 (He.fAd K ("Slot", some "__init__")) A.d_Slot___init__ ["self", "lane", "rule", "owner"] (SpM K (gOf K) 4 m_Slot___init__) :=
  fn_mD (N := ["self", "lane", "rule", "owner"]) T.d_Slot___init__ sc_Slot___init__ fun cdv Ar outer s H E hr => by
    have tk := takes_of (X := cxOf (L2.CX P w) P w K mg base ["self", "lane", "rule", "owner"] "Slot.__init__" (defScope s_Slot___init__) (He.fAd K ("Slot", some "__init__")) cdv Ar outer s H E) rfl rfl rfl rfl
    exact (m_scons (m_sfld (fo_lane T) (m_var (pv 0)) (m_var (pv 1)))
      (m_scons (m_sfld (fo_rule T) (m_var (pv 0)) (m_var (pv 2)))
      (m_scons (m_sfld (fo_owner T) (m_var (pv 0)) (m_var (pv 3)))
      (m_scons (m_sfld (fo_giving T) (m_var (pv 0)) m_int)
      (m_sone (m_sfld (fo_row T) (m_var (pv 0)) m_int))))))
theorem ok_ascending (hP : PFa P FILE) (T : Txt P w K mg A) : FnOk P w K mg base (L2.CX P w) 1 (He.fAd K ("ascending", none)) A.d_ascending ["lanes"] (SpM K (gOf K) 1 m_ascending) :=
  fn_gc (fn_mD (N := ["lanes", "found", "lane", "name"]) T.d_ascending sc_ascending fun cdv Ar outer s H E hr => by
    have tk := takes_of (X := cxOf (L2.CX P w) P w K mg base ["lanes", "found", "lane", "name"] "ascending" (defScope s_ascending) (He.fAd K ("ascending", none)) cdv Ar outer s H E) rfl rfl rfl rfl
    exact (m_scons (m_set (i := 1) sc_ascending.nd rfl (Or.inl rfl) (m_lst m_anil))
      (m_scons (m_for (passes_of rfl) rfl (m_callB cr_sortedS s_sortS (by rfl) T.b_sorted (by decide +kernel) (m_acons (m_lc rfl sc_ascending.nd (blkOk_by (own := [("name", 3)]) (by rfl)) (m_var (pv 0)) (gw_name (by decide)) (fun _ _ _ _ _ => (pg_name (i := 3) sc_ascending.nd rfl (Or.inl rfl))) (fun _ _ _ _ _ => m_tests0) (fun _ _ _ _ _ => (m_callTy SkE.call_str_str s_strS (by rfl) T.b_str (by decide +kernel) (m_acons (m_var (pv 3)) m_anil)))) m_anil)) (pg_name (i := 2) sc_ascending.nd rfl (Or.inl rfl)) gs_name (m_sone (m_if (m_cmpT (o_notInA hr.units) (s_notInA s_notIn) (m_var (pv 2)) (m_var (pv 1)) rfl) (m_sone (m_expr (m_bm PySem.F.plainAttrs_list PySem.F.slot_list_append PySem.F.type_list_append mt_append t_lst s_append (m_var (pv 1)) (m_acons (m_var (pv 2)) m_anil)))) m_snil)))
      (m_sone (m_ret (m_var (pv 1)))))))
theorem ok_Share___init__ (hP : PFa P FILE) (T : Txt P w K mg A) : FnOk P w K mg base (L2.CX P w) 2 (He.fAd K ("Share", some "__init__")) A.d_Share___init__ ["self", "lanes"] (SpM K (gOf K) 2 m_Share___init__) :=
  fn_mD (N := ["self", "lanes"]) T.d_Share___init__ sc_Share___init__ fun cdv Ar outer s H E hr => by
    have tk := takes_of (X := cxOf (L2.CX P w) P w K mg base ["self", "lanes"] "Share.__init__" (defScope s_Share___init__) (He.fAd K ("Share", some "__init__")) cdv Ar outer s H E) rfl rfl rfl rfl
    exact (m_sone (m_sfld (fo_lanes T) (m_var (pv 0)) (m_call (ok_ascending hP T) (hr.mono (by decide)) rfl T.g_ascending T.d_ascending.kp T.B_ascending tk (m_acons (m_callTy call_list_of s_list (by rfl) T.b_list (by decide +kernel) (m_acons (m_var (pv 1)) m_anil)) m_anil))))
theorem os0_House___init__ (hP : PFa P FILE) (T : Txt P w K mg A) (cdv : Value) (Ar : Around) (outer : List Env) (s : Shared) (H : Hp) (E : XK) (hr : Room 3 (Ar.deeper (PyProof.Rows.envOfC "House.__init__" (defScope s_House___init__) s.heap.objs.size (He.fAd K ("House", some "__init__")) cdv))) :
    PS (cxOf (L2.CX P w) P w K mg base ["self", "book", "members", "lanes", "window", "name", "lane"] "House.__init__" (defScope s_House___init__) (He.fAd K ("House", some "__init__")) cdv Ar outer s H E) ((defBody s_House___init__).getD 0 (.Pass ⟨0, 0, 0, 0⟩)) (RS K (gOf K) (fun cls d _ H => E cls d H) (sFldM (eV 0) (eV 1) "book" ["House"])) := by
  have tk := takes_of (X := cxOf (L2.CX P w) P w K mg base ["self", "book", "members", "lanes", "window", "name", "lane"] "House.__init__" (defScope s_House___init__) (He.fAd K ("House", some "__init__")) cdv Ar outer s H E) rfl rfl rfl rfl
  exact (m_sfld (fo_book T) (m_var (pv 0)) (m_var (pv 1)))
theorem os1_House___init__ (hP : PFa P FILE) (T : Txt P w K mg A) (cdv : Value) (Ar : Around) (outer : List Env) (s : Shared) (H : Hp) (E : XK) (hr : Room 3 (Ar.deeper (PyProof.Rows.envOfC "House.__init__" (defScope s_House___init__) s.heap.objs.size (He.fAd K ("House", some "__init__")) cdv))) :
    PS (cxOf (L2.CX P w) P w K mg base ["self", "book", "members", "lanes", "window", "name", "lane"] "House.__init__" (defScope s_House___init__) (He.fAd K ("House", some "__init__")) cdv Ar outer s H E) ((defBody s_House___init__).getD 1 (.Pass ⟨0, 0, 0, 0⟩)) (RS K (gOf K) (fun cls d _ H => E cls d H) (sFldM (eV 0) (eA fDictC (aCons (eV 2) (aNil))) "editions" ["House"])) := by
  have tk := takes_of (X := cxOf (L2.CX P w) P w K mg base ["self", "book", "members", "lanes", "window", "name", "lane"] "House.__init__" (defScope s_House___init__) (He.fAd K ("House", some "__init__")) cdv Ar outer s H E) rfl rfl rfl rfl
  exact (m_sfld (fo_editions T) (m_var (pv 0)) (m_callTy call_dictD s_dictC (by rfl) T.b_dict (by decide +kernel) (m_acons (m_var (pv 2)) m_anil)))
theorem os2_House___init__ (hP : PFa P FILE) (T : Txt P w K mg A) (cdv : Value) (Ar : Around) (outer : List Env) (s : Shared) (H : Hp) (E : XK) (hr : Room 3 (Ar.deeper (PyProof.Rows.envOfC "House.__init__" (defScope s_House___init__) s.heap.objs.size (He.fAd K ("House", some "__init__")) cdv))) :
    PS (cxOf (L2.CX P w) P w K mg base ["self", "book", "members", "lanes", "window", "name", "lane"] "House.__init__" (defScope s_House___init__) (He.fAd K ("House", some "__init__")) cdv Ar outer s H E) ((defBody s_House___init__).getD 2 (.Pass ⟨0, 0, 0, 0⟩)) (RS K (gOf K) (fun cls d _ H => E cls d H) (sFldM (eV 0) (eA fList (aCons (eV 3) (aNil))) "lanes" ["Share", "House"])) := by
  have tk := takes_of (X := cxOf (L2.CX P w) P w K mg base ["self", "book", "members", "lanes", "window", "name", "lane"] "House.__init__" (defScope s_House___init__) (He.fAd K ("House", some "__init__")) cdv Ar outer s H E) rfl rfl rfl rfl
  exact (m_sfld (fo_lanes T) (m_var (pv 0)) (m_callTy call_list_of s_list (by rfl) T.b_list (by decide +kernel) (m_acons (m_var (pv 3)) m_anil)))
theorem os3_House___init__ (hP : PFa P FILE) (T : Txt P w K mg A) (cdv : Value) (Ar : Around) (outer : List Env) (s : Shared) (H : Hp) (E : XK) (hr : Room 3 (Ar.deeper (PyProof.Rows.envOfC "House.__init__" (defScope s_House___init__) s.heap.objs.size (He.fAd K ("House", some "__init__")) cdv))) :
    PS (cxOf (L2.CX P w) P w K mg base ["self", "book", "members", "lanes", "window", "name", "lane"] "House.__init__" (defScope s_House___init__) (He.fAd K ("House", some "__init__")) cdv Ar outer s H E) ((defBody s_House___init__).getD 3 (.Pass ⟨0, 0, 0, 0⟩)) (RS K (gOf K) (fun cls d _ H => E cls d H) (sFldM (eV 0) (eV 4) "window" ["House"])) := by
  have tk := takes_of (X := cxOf (L2.CX P w) P w K mg base ["self", "book", "members", "lanes", "window", "name", "lane"] "House.__init__" (defScope s_House___init__) (He.fAd K ("House", some "__init__")) cdv Ar outer s H E) rfl rfl rfl rfl
  exact (m_sfld (fo_window T) (m_var (pv 0)) (m_var (pv 4)))
theorem os4_House___init__ (hP : PFa P FILE) (T : Txt P w K mg A) (cdv : Value) (Ar : Around) (outer : List Env) (s : Shared) (H : Hp) (E : XK) (hr : Room 3 (Ar.deeper (PyProof.Rows.envOfC "House.__init__" (defScope s_House___init__) s.heap.objs.size (He.fAd K ("House", some "__init__")) cdv))) :
    PS (cxOf (L2.CX P w) P w K mg base ["self", "book", "members", "lanes", "window", "name", "lane"] "House.__init__" (defScope s_House___init__) (He.fAd K ("House", some "__init__")) cdv Ar outer s H E) ((defBody s_House___init__).getD 4 (.Pass ⟨0, 0, 0, 0⟩)) (RS K (gOf K) (fun cls d _ H => E cls d H) (sFldM (eV 0) (eC (.int 0)) "round" ["House"])) := by
  have tk := takes_of (X := cxOf (L2.CX P w) P w K mg base ["self", "book", "members", "lanes", "window", "name", "lane"] "House.__init__" (defScope s_House___init__) (He.fAd K ("House", some "__init__")) cdv Ar outer s H E) rfl rfl rfl rfl
  exact (m_sfld (fo_round T) (m_var (pv 0)) m_int)
theorem os5_House___init__ (hP : PFa P FILE) (T : Txt P w K mg A) (cdv : Value) (Ar : Around) (outer : List Env) (s : Shared) (H : Hp) (E : XK) (hr : Room 3 (Ar.deeper (PyProof.Rows.envOfC "House.__init__" (defScope s_House___init__) s.heap.objs.size (He.fAd K ("House", some "__init__")) cdv))) :
    PS (cxOf (L2.CX P w) P w K mg base ["self", "book", "members", "lanes", "window", "name", "lane"] "House.__init__" (defScope s_House___init__) (He.fAd K ("House", some "__init__")) cdv Ar outer s H E) ((defBody s_House___init__).getD 5 (.Pass ⟨0, 0, 0, 0⟩)) (RS K (gOf K) (fun cls d _ H => E cls d H) (sFldM (eV 0) (eC (.bl false)) "called" ["House"])) := by
  have tk := takes_of (X := cxOf (L2.CX P w) P w K mg base ["self", "book", "members", "lanes", "window", "name", "lane"] "House.__init__" (defScope s_House___init__) (He.fAd K ("House", some "__init__")) cdv Ar outer s H E) rfl rfl rfl rfl
  exact (m_sfld (fo_called T) (m_var (pv 0)) m_bl)
theorem os6_House___init__ (hP : PFa P FILE) (T : Txt P w K mg A) (cdv : Value) (Ar : Around) (outer : List Env) (s : Shared) (H : Hp) (E : XK) (hr : Room 3 (Ar.deeper (PyProof.Rows.envOfC "House.__init__" (defScope s_House___init__) s.heap.objs.size (He.fAd K ("House", some "__init__")) cdv))) :
    PS (cxOf (L2.CX P w) P w K mg base ["self", "book", "members", "lanes", "window", "name", "lane"] "House.__init__" (defScope s_House___init__) (He.fAd K ("House", some "__init__")) cdv Ar outer s H E) ((defBody s_House___init__).getD 6 (.Pass ⟨0, 0, 0, 0⟩)) (RS K (gOf K) (fun cls d _ H => E cls d H) (sFldM (eV 0) (eC .non) "held" ["House"])) := by
  have tk := takes_of (X := cxOf (L2.CX P w) P w K mg base ["self", "book", "members", "lanes", "window", "name", "lane"] "House.__init__" (defScope s_House___init__) (He.fAd K ("House", some "__init__")) cdv Ar outer s H E) rfl rfl rfl rfl
  exact (m_sfld (fo_held T) (m_var (pv 0)) m_non)
theorem os7_House___init__ (hP : PFa P FILE) (T : Txt P w K mg A) (cdv : Value) (Ar : Around) (outer : List Env) (s : Shared) (H : Hp) (E : XK) (hr : Room 3 (Ar.deeper (PyProof.Rows.envOfC "House.__init__" (defScope s_House___init__) s.heap.objs.size (He.fAd K ("House", some "__init__")) cdv))) :
    PS (cxOf (L2.CX P w) P w K mg base ["self", "book", "members", "lanes", "window", "name", "lane"] "House.__init__" (defScope s_House___init__) (He.fAd K ("House", some "__init__")) cdv Ar outer s H E) ((defBody s_House___init__).getD 7 (.Pass ⟨0, 0, 0, 0⟩)) (RS K (gOf K) (fun cls d _ H => E cls d H) (sFldM (eV 0) (eMk "Ledger" 2 0 3 m_Ledger___init__ gPos (aCons (e1 (fFld "lanes" ["Share", "House"]) (eV 0)) (aCons (eA fListD (aCons (e1 (fFld "editions" ["House"]) (eV 0)) (aNil))) (aNil))) aNil) "owner" ["Slot", "House"])) := by
  have tk := takes_of (X := cxOf (L2.CX P w) P w K mg base ["self", "book", "members", "lanes", "window", "name", "lane"] "House.__init__" (defScope s_House___init__) (He.fAd K ("House", some "__init__")) cdv Ar outer s H E) rfl rfl rfl rfl
  exact (m_sfld (fo_owner T) (m_var (pv 0)) (m_make (c := "Ledger") (f := m_Ledger___init__) (ps := ["self", "lanes", "names"]) (C := He.ga K "Ledger") (fd := A.d_Ledger___init__) rfl GR.pos T.mk_Ledger (ok_Ledger___init__ hP T) (hr.mono (by decide)) (by rfl) T.g_Ledger (KBn.pos (T.B_Ledger___init__) rfl) tk (m_acons (m_fld (fo_lanes T) (m_var (pv 0))) (m_acons (m_callTy (call_listD rfl) s_listD (by rfl) T.b_list (by decide +kernel) (m_acons (m_fld (fo_editions T) (m_var (pv 0))) m_anil)) m_anil))))
theorem os8_House___init__ (hP : PFa P FILE) (T : Txt P w K mg A) (cdv : Value) (Ar : Around) (outer : List Env) (s : Shared) (H : Hp) (E : XK) (hr : Room 3 (Ar.deeper (PyProof.Rows.envOfC "House.__init__" (defScope s_House___init__) s.heap.objs.size (He.fAd K ("House", some "__init__")) cdv))) :
    PS (cxOf (L2.CX P w) P w K mg base ["self", "book", "members", "lanes", "window", "name", "lane"] "House.__init__" (defScope s_House___init__) (He.fAd K ("House", some "__init__")) cdv Ar outer s H E) ((defBody s_House___init__).getD 8 (.Pass ⟨0, 0, 0, 0⟩)) (RS K (gOf K) (fun cls d _ H => E cls d H) (sFldM (eV 0) (eDc (e1 (fFld "lanes" ["Share", "House"]) (eV 0)) (gN 6) (bYes) ZK0_House___init__ Z0_House___init__ [6]) "slots" ["House"])) := by
  have tk := takes_of (X := cxOf (L2.CX P w) P w K mg base ["self", "book", "members", "lanes", "window", "name", "lane"] "House.__init__" (defScope s_House___init__) (He.fAd K ("House", some "__init__")) cdv Ar outer s H E) rfl rfl rfl rfl
  exact (m_sfld (fo_slots T) (m_var (pv 0)) (m_dc rfl sc_House___init__.nd (blkOk_by (own := [("lane", 6)]) (by rfl)) (m_fld (fo_lanes T) (m_var (pv 0))) (gw_name (by decide)) (fun _ _ _ _ _ => (pg_name (i := 6) sc_House___init__.nd rfl (Or.inl rfl))) (fun _ _ _ _ _ => m_tests0) (fun _ _ _ _ _ => (m_var (pv 6))) (fun _ _ _ _ _ => (m_make (c := "Slot") (f := m_Slot___init__) (ps := ["self", "lane", "rule", "owner"]) (C := He.ga K "Slot") (fd := A.d_Slot___init__) rfl GR.pos T.mk_Slot (ok_Slot___init__ hP T) (hr.mono (by decide)) (by rfl) T.g_Slot (KBn.pos (T.B_Slot___init__) rfl) takes_no (m_acons (m_var (pv 6)) (m_acons (m_fld (fo_marks T) (m_var (pv 1))) (m_acons (m_fld (fo_owner T) (m_var (pv 0))) m_anil)))))))
theorem os9_House___init__ (hP : PFa P FILE) (T : Txt P w K mg A) (cdv : Value) (Ar : Around) (outer : List Env) (s : Shared) (H : Hp) (E : XK) (hr : Room 3 (Ar.deeper (PyProof.Rows.envOfC "House.__init__" (defScope s_House___init__) s.heap.objs.size (He.fAd K ("House", some "__init__")) cdv))) :
    PS (cxOf (L2.CX P w) P w K mg base ["self", "book", "members", "lanes", "window", "name", "lane"] "House.__init__" (defScope s_House___init__) (He.fAd K ("House", some "__init__")) cdv Ar outer s H E) ((defBody s_House___init__).getD 9 (.Pass ⟨0, 0, 0, 0⟩)) (RS K (gOf K) (fun cls d _ H => E cls d H) (sFldM (eV 0) (eDc (e1 (fFld "lanes" ["Share", "House"]) (eV 0)) (gN 6) (bYes) ZK2_House___init__ Z2_House___init__ [6]) "rows" ["House"])) := by
  have tk := takes_of (X := cxOf (L2.CX P w) P w K mg base ["self", "book", "members", "lanes", "window", "name", "lane"] "House.__init__" (defScope s_House___init__) (He.fAd K ("House", some "__init__")) cdv Ar outer s H E) rfl rfl rfl rfl
  exact (m_sfld (fo_rows T) (m_var (pv 0)) (m_dc rfl sc_House___init__.nd (blkOk_by (own := [("lane", 6)]) (by rfl)) (m_fld (fo_lanes T) (m_var (pv 0))) (gw_name (by decide)) (fun _ _ _ _ _ => (pg_name (i := 6) sc_House___init__.nd rfl (Or.inl rfl))) (fun _ _ _ _ _ => m_tests0) (fun _ _ _ _ _ => (m_var (pv 6))) (fun _ _ _ _ _ => (m_lst m_anil))))
theorem os10_House___init__ (hP : PFa P FILE) (T : Txt P w K mg A) (cdv : Value) (Ar : Around) (outer : List Env) (s : Shared) (H : Hp) (E : XK) (hr : Room 3 (Ar.deeper (PyProof.Rows.envOfC "House.__init__" (defScope s_House___init__) s.heap.objs.size (He.fAd K ("House", some "__init__")) cdv))) :
    PS (cxOf (L2.CX P w) P w K mg base ["self", "book", "members", "lanes", "window", "name", "lane"] "House.__init__" (defScope s_House___init__) (He.fAd K ("House", some "__init__")) cdv Ar outer s H E) ((defBody s_House___init__).getD 10 (.Pass ⟨0, 0, 0, 0⟩)) (RS K (gOf K) (fun cls d _ H => E cls d H) (sFldM (eV 0) (eDcD (e1 (fFld "editions" ["House"]) (eV 0)) (gN 5) (bYes) ZK4_House___init__ Z4_House___init__ [5]) "status" ["House"])) := by
  have tk := takes_of (X := cxOf (L2.CX P w) P w K mg base ["self", "book", "members", "lanes", "window", "name", "lane"] "House.__init__" (defScope s_House___init__) (He.fAd K ("House", some "__init__")) cdv Ar outer s H E) rfl rfl rfl rfl
  exact (m_sfld (fo_status T) (m_var (pv 0)) (m_dcD rfl sc_House___init__.nd (blkOk_by (own := [("name", 5)]) (by rfl)) (m_fld (fo_editions T) (m_var (pv 0))) (gw_name (by decide)) (fun _ _ _ _ _ => (pg_name (i := 5) sc_House___init__.nd rfl (Or.inl rfl))) (fun _ _ _ _ _ => m_tests0) (fun _ _ _ _ _ => (m_var (pv 5))) (fun _ _ _ _ _ => m_str)))
theorem os11_House___init__ (hP : PFa P FILE) (T : Txt P w K mg A) (cdv : Value) (Ar : Around) (outer : List Env) (s : Shared) (H : Hp) (E : XK) (hr : Room 3 (Ar.deeper (PyProof.Rows.envOfC "House.__init__" (defScope s_House___init__) s.heap.objs.size (He.fAd K ("House", some "__init__")) cdv))) :
    PS (cxOf (L2.CX P w) P w K mg base ["self", "book", "members", "lanes", "window", "name", "lane"] "House.__init__" (defScope s_House___init__) (He.fAd K ("House", some "__init__")) cdv Ar outer s H E) ((defBody s_House___init__).getD 11 (.Pass ⟨0, 0, 0, 0⟩)) (RS K (gOf K) (fun cls d _ H => E cls d H) (sFldM (eV 0) (eDcD (e1 (fFld "editions" ["House"]) (eV 0)) (gN 5) (bYes) ZK6_House___init__ Z6_House___init__ [5]) "answered" ["House"])) := by
  have tk := takes_of (X := cxOf (L2.CX P w) P w K mg base ["self", "book", "members", "lanes", "window", "name", "lane"] "House.__init__" (defScope s_House___init__) (He.fAd K ("House", some "__init__")) cdv Ar outer s H E) rfl rfl rfl rfl
  exact (m_sfld (fo_answered T) (m_var (pv 0)) (m_dcD rfl sc_House___init__.nd (blkOk_by (own := [("name", 5)]) (by rfl)) (m_fld (fo_editions T) (m_var (pv 0))) (gw_name (by decide)) (fun _ _ _ _ _ => (pg_name (i := 5) sc_House___init__.nd rfl (Or.inl rfl))) (fun _ _ _ _ _ => m_tests0) (fun _ _ _ _ _ => (m_var (pv 5))) (fun _ _ _ _ _ => m_bl)))
theorem os12_House___init__ (hP : PFa P FILE) (T : Txt P w K mg A) (cdv : Value) (Ar : Around) (outer : List Env) (s : Shared) (H : Hp) (E : XK) (hr : Room 3 (Ar.deeper (PyProof.Rows.envOfC "House.__init__" (defScope s_House___init__) s.heap.objs.size (He.fAd K ("House", some "__init__")) cdv))) :
    PS (cxOf (L2.CX P w) P w K mg base ["self", "book", "members", "lanes", "window", "name", "lane"] "House.__init__" (defScope s_House___init__) (He.fAd K ("House", some "__init__")) cdv Ar outer s H E) ((defBody s_House___init__).getD 12 (.Pass ⟨0, 0, 0, 0⟩)) (RS K (gOf K) (fun cls d _ H => E cls d H) (sFldM (eV 0) (eDcD (e1 (fFld "editions" ["House"]) (eV 0)) (gN 5) (bYes) ZK8_House___init__ Z8_House___init__ [5]) "letters" ["House"])) := by
  have tk := takes_of (X := cxOf (L2.CX P w) P w K mg base ["self", "book", "members", "lanes", "window", "name", "lane"] "House.__init__" (defScope s_House___init__) (He.fAd K ("House", some "__init__")) cdv Ar outer s H E) rfl rfl rfl rfl
  exact (m_sfld (fo_letters T) (m_var (pv 0)) (m_dcD rfl sc_House___init__.nd (blkOk_by (own := [("name", 5)]) (by rfl)) (m_fld (fo_editions T) (m_var (pv 0))) (gw_name (by decide)) (fun _ _ _ _ _ => (pg_name (i := 5) sc_House___init__.nd rfl (Or.inl rfl))) (fun _ _ _ _ _ => m_tests0) (fun _ _ _ _ _ => (m_var (pv 5))) (fun _ _ _ _ _ => (m_lst m_anil))))
theorem os13_House___init__ (hP : PFa P FILE) (T : Txt P w K mg A) (cdv : Value) (Ar : Around) (outer : List Env) (s : Shared) (H : Hp) (E : XK) (hr : Room 3 (Ar.deeper (PyProof.Rows.envOfC "House.__init__" (defScope s_House___init__) s.heap.objs.size (He.fAd K ("House", some "__init__")) cdv))) :
    PS (cxOf (L2.CX P w) P w K mg base ["self", "book", "members", "lanes", "window", "name", "lane"] "House.__init__" (defScope s_House___init__) (He.fAd K ("House", some "__init__")) cdv Ar outer s H E) ((defBody s_House___init__).getD 13 (.Pass ⟨0, 0, 0, 0⟩)) (RS K (gOf K) (fun cls d _ H => E cls d H) (sFldM (eV 0) (eDcD (e1 (fFld "editions" ["House"]) (eV 0)) (gN 5) (bYes) ZK10_House___init__ Z10_House___init__ [5]) "post" ["House"])) := by
  have tk := takes_of (X := cxOf (L2.CX P w) P w K mg base ["self", "book", "members", "lanes", "window", "name", "lane"] "House.__init__" (defScope s_House___init__) (He.fAd K ("House", some "__init__")) cdv Ar outer s H E) rfl rfl rfl rfl
  exact (m_sfld (fo_post T) (m_var (pv 0)) (m_dcD rfl sc_House___init__.nd (blkOk_by (own := [("name", 5)]) (by rfl)) (m_fld (fo_editions T) (m_var (pv 0))) (gw_name (by decide)) (fun _ _ _ _ _ => (pg_name (i := 5) sc_House___init__.nd rfl (Or.inl rfl))) (fun _ _ _ _ _ => m_tests0) (fun _ _ _ _ _ => (m_var (pv 5))) (fun _ _ _ _ _ => (m_lst m_anil))))
theorem os14_House___init__ (hP : PFa P FILE) (T : Txt P w K mg A) (cdv : Value) (Ar : Around) (outer : List Env) (s : Shared) (H : Hp) (E : XK) (hr : Room 3 (Ar.deeper (PyProof.Rows.envOfC "House.__init__" (defScope s_House___init__) s.heap.objs.size (He.fAd K ("House", some "__init__")) cdv))) :
    PS (cxOf (L2.CX P w) P w K mg base ["self", "book", "members", "lanes", "window", "name", "lane"] "House.__init__" (defScope s_House___init__) (He.fAd K ("House", some "__init__")) cdv Ar outer s H E) ((defBody s_House___init__).getD 14 (.Pass ⟨0, 0, 0, 0⟩)) (RS K (gOf K) (fun cls d _ H => E cls d H) (sFldM (eV 0) (eDcD (e1 (fFld "editions" ["House"]) (eV 0)) (gN 5) (bYes) ZK12_House___init__ Z12_House___init__ [5]) "awaits" ["House"])) := by
  have tk := takes_of (X := cxOf (L2.CX P w) P w K mg base ["self", "book", "members", "lanes", "window", "name", "lane"] "House.__init__" (defScope s_House___init__) (He.fAd K ("House", some "__init__")) cdv Ar outer s H E) rfl rfl rfl rfl
  exact (m_sfld (fo_awaits T) (m_var (pv 0)) (m_dcD rfl sc_House___init__.nd (blkOk_by (own := [("name", 5)]) (by rfl)) (m_fld (fo_editions T) (m_var (pv 0))) (gw_name (by decide)) (fun _ _ _ _ _ => (pg_name (i := 5) sc_House___init__.nd rfl (Or.inl rfl))) (fun _ _ _ _ _ => m_tests0) (fun _ _ _ _ _ => (m_var (pv 5))) (fun _ _ _ _ _ => (m_make (c := "Share") (f := m_Share___init__) (ps := ["self", "lanes"]) (C := He.ga K "Share") (fd := A.d_Share___init__) rfl GR.pos T.mk_Share (ok_Share___init__ hP T) (hr.mono (by decide)) (by rfl) T.g_Share (KBn.pos (T.B_Share___init__) rfl) takes_no (m_acons (m_lst m_anil) m_anil)))))
theorem os15_House___init__ (hP : PFa P FILE) (T : Txt P w K mg A) (cdv : Value) (Ar : Around) (outer : List Env) (s : Shared) (H : Hp) (E : XK) (hr : Room 3 (Ar.deeper (PyProof.Rows.envOfC "House.__init__" (defScope s_House___init__) s.heap.objs.size (He.fAd K ("House", some "__init__")) cdv))) :
    PS (cxOf (L2.CX P w) P w K mg base ["self", "book", "members", "lanes", "window", "name", "lane"] "House.__init__" (defScope s_House___init__) (He.fAd K ("House", some "__init__")) cdv Ar outer s H E) ((defBody s_House___init__).getD 15 (.Pass ⟨0, 0, 0, 0⟩)) (RS K (gOf K) (fun cls d _ H => E cls d H) (sFldM (eV 0) (eDk) "own" ["House"])) := by
  have tk := takes_of (X := cxOf (L2.CX P w) P w K mg base ["self", "book", "members", "lanes", "window", "name", "lane"] "House.__init__" (defScope s_House___init__) (He.fAd K ("House", some "__init__")) cdv Ar outer s H E) rfl rfl rfl rfl
  exact (m_sfld (fo_own T) (m_var (pv 0)) m_dk)
theorem os16_House___init__ (hP : PFa P FILE) (T : Txt P w K mg A) (cdv : Value) (Ar : Around) (outer : List Env) (s : Shared) (H : Hp) (E : XK) (hr : Room 3 (Ar.deeper (PyProof.Rows.envOfC "House.__init__" (defScope s_House___init__) s.heap.objs.size (He.fAd K ("House", some "__init__")) cdv))) :
    PS (cxOf (L2.CX P w) P w K mg base ["self", "book", "members", "lanes", "window", "name", "lane"] "House.__init__" (defScope s_House___init__) (He.fAd K ("House", some "__init__")) cdv Ar outer s H E) ((defBody s_House___init__).getD 16 (.Pass ⟨0, 0, 0, 0⟩)) (RS K (gOf K) (fun cls d _ H => E cls d H) (sFldM (eV 0) (eDk) "stints" ["House"])) := by
  have tk := takes_of (X := cxOf (L2.CX P w) P w K mg base ["self", "book", "members", "lanes", "window", "name", "lane"] "House.__init__" (defScope s_House___init__) (He.fAd K ("House", some "__init__")) cdv Ar outer s H E) rfl rfl rfl rfl
  exact (m_sfld (fo_stints T) (m_var (pv 0)) m_dk)
theorem os17_House___init__ (hP : PFa P FILE) (T : Txt P w K mg A) (cdv : Value) (Ar : Around) (outer : List Env) (s : Shared) (H : Hp) (E : XK) (hr : Room 3 (Ar.deeper (PyProof.Rows.envOfC "House.__init__" (defScope s_House___init__) s.heap.objs.size (He.fAd K ("House", some "__init__")) cdv))) :
    PS (cxOf (L2.CX P w) P w K mg base ["self", "book", "members", "lanes", "window", "name", "lane"] "House.__init__" (defScope s_House___init__) (He.fAd K ("House", some "__init__")) cdv Ar outer s H E) ((defBody s_House___init__).getD 17 (.Pass ⟨0, 0, 0, 0⟩)) (RS K (gOf K) (fun cls d _ H => E cls d H) (sForD (e1 (fFld "editions" ["House"]) (eV 0)) (gN 5) (L0_House___init__))) := by
  have tk := takes_of (X := cxOf (L2.CX P w) P w K mg base ["self", "book", "members", "lanes", "window", "name", "lane"] "House.__init__" (defScope s_House___init__) (He.fAd K ("House", some "__init__")) cdv Ar outer s H E) rfl rfl rfl rfl
  exact (m_forD (passes_of rfl) rfl tk (fun W => (m_fld (fo_editions T) (m_var (pv 0)))) (pg_name (i := 5) sc_House___init__.nd rfl (Or.inl rfl)) gs_name (fun W tk => (m_scons (m_iput hr (m_fld (fo_own T) (m_var (pv 0))) (m_var (pv 5)) (m_dc rfl sc_House___init__.nd (blkOk_by (own := [("lane", 6)]) (by rfl)) (m_fld (fo_lanes T) (m_var (pv 0))) (gw_name (by decide)) (fun _ _ _ _ _ => (pg_name (i := 6) sc_House___init__.nd rfl (Or.inl rfl))) (fun _ _ _ _ _ => m_tests0) (fun _ _ _ _ _ => (m_var (pv 6))) (fun _ _ _ _ _ => m_str)))
      (m_sone (m_iput hr (m_fld (fo_stints T) (m_var (pv 0))) (m_var (pv 5)) m_dk)))))
theorem ok_House___init__ (hP : PFa P FILE) (T : Txt P w K mg A) : FnOk P w K mg base (L2.CX P w) 4 (He.fAd K ("House", some "__init__")) A.d_House___init__ ["self", "book", "members", "lanes", "window"] (SpM K (gOf K) 5 m_House___init__) :=
  fn_mD (N := ["self", "book", "members", "lanes", "window", "name", "lane"]) T.d_House___init__ sc_House___init__ fun cdv Ar outer s H E hr => by
    have tk := takes_of (X := cxOf (L2.CX P w) P w K mg base ["self", "book", "members", "lanes", "window", "name", "lane"] "House.__init__" (defScope s_House___init__) (He.fAd K ("House", some "__init__")) cdv Ar outer s H E) rfl rfl rfl rfl
    exact (m_scons (os0_House___init__ hP T cdv Ar outer s H E hr)
      (m_scons (os1_House___init__ hP T cdv Ar outer s H E hr)
      (m_scons (os2_House___init__ hP T cdv Ar outer s H E hr)
      (m_scons (os3_House___init__ hP T cdv Ar outer s H E hr)
      (m_scons (os4_House___init__ hP T cdv Ar outer s H E hr)
      (m_scons (os5_House___init__ hP T cdv Ar outer s H E hr)
      (m_scons (os6_House___init__ hP T cdv Ar outer s H E hr)
      (m_scons (os7_House___init__ hP T cdv Ar outer s H E hr)
      (m_scons (os8_House___init__ hP T cdv Ar outer s H E hr)
      (m_scons (os9_House___init__ hP T cdv Ar outer s H E hr)
      (m_scons (os10_House___init__ hP T cdv Ar outer s H E hr)
      (m_scons (os11_House___init__ hP T cdv Ar outer s H E hr)
      (m_scons (os12_House___init__ hP T cdv Ar outer s H E hr)
      (m_scons (os13_House___init__ hP T cdv Ar outer s H E hr)
      (m_scons (os14_House___init__ hP T cdv Ar outer s H E hr)
      (m_scons (os15_House___init__ hP T cdv Ar outer s H E hr)
      (m_scons (os16_House___init__ hP T cdv Ar outer s H E hr)
      (m_sone (os17_House___init__ hP T cdv Ar outer s H E hr)))))))))))))))))))
end
end Lw
namespace Lw
open PySem L2 Mo
section
variable {P : Program} {w : World} {K : PySem.W.Frag} {mg : Str → Option Value} {base : Heap} {A : Ad}
theorem ok_House_check_member (hP : PFa P FILE) (T : Txt P w K mg A) : FnOk P w K mg base (L2.CX P w) 3 (He.fAd K ("House", some "check_member")) A.d_House_check_member ["self", "member"] (SpM K (gOf K) 2 m_House_check_member) :=
  fn_mD (N := ["self", "member"]) T.d_House_check_member sc_House_check_member fun cdv Ar outer s H E hr => by
    have tk := takes_of (X := cxOf (L2.CX P w) P w K mg base ["self", "member"] "House.check_member" (defScope s_House_check_member) (He.fAd K ("House", some "check_member")) cdv Ar outer s H E) rfl rfl rfl rfl
    exact (m_sone (m_if (m_cmpT (o_notInA hr.units) (s_notInA s_notIn) (m_var (pv 1)) (m_fld (fo_editions T) (m_var (pv 0))) rfl) (m_sone (m_raise (rm_UnknownName hP T) rfl (hr.mono (by decide)) tk (by rfl) T.g_UnknownName (m_acons (m_var (pv 1)) m_anil))) m_snil))
theorem ok_House_enter (hP : PFa P FILE) (T : Txt P w K mg A) : FnOk P w K mg base (L2.CX P w) 4 (He.fAd K ("House", some "enter")) A.d_House_enter ["self", "member"] (SpM K (gOf K) 2 m_House_enter) :=
  fn_mD (N := ["self", "member", "lane"]) T.d_House_enter sc_House_enter fun cdv Ar outer s H E hr => by
    have tk := takes_of (X := cxOf (L2.CX P w) P w K mg base ["self", "member", "lane"] "House.enter" (defScope s_House_enter) (He.fAd K ("House", some "enter")) cdv Ar outer s H E) rfl rfl rfl rfl
    exact (m_scons (m_expr (m_meth rfl (m_var (pv 0)) T.c_House T.me_House_check_member (ok_House_check_member hP T) (hr.mono (by decide)) T.B_House_check_member tk (m_acons (m_var (pv 1)) m_anil)))
      (m_scons (m_if (m_cmpT (op_neM hr.units) s_ne (m_ixA hr (m_fld (fo_status T) (m_var (pv 0))) (m_var (pv 1))) m_str (nomark _)) (m_sone (m_raise (rm_NotNow hP T) rfl (hr.mono (by decide)) tk (by rfl) T.g_NotNow (m_acons m_str (m_acons (m_var (pv 1)) m_anil)))) m_snil)
      (m_scons (m_iput hr (m_fld (fo_status T) (m_var (pv 0))) (m_var (pv 1)) m_str)
      (m_scons (m_iput hr (m_fld (fo_answered T) (m_var (pv 0))) (m_var (pv 1)) m_bl)
      (m_scons (m_iput hr (m_fld (fo_awaits T) (m_var (pv 0))) (m_var (pv 1)) (m_make (c := "Share") (f := m_Share___init__) (ps := ["self", "lanes"]) (C := He.ga K "Share") (fd := A.d_Share___init__) rfl GR.pos T.mk_Share (ok_Share___init__ hP T) (hr.mono (by decide)) (by rfl) T.g_Share (KBn.pos (T.B_Share___init__) rfl) tk (m_acons (m_lst m_anil) m_anil)))
      (m_scons (m_iput hr (m_fld (fo_own T) (m_var (pv 0))) (m_var (pv 1)) (m_dc rfl sc_House_enter.nd (blkOk_by (own := [("lane", 2)]) (by rfl)) (m_fld (fo_lanes T) (m_var (pv 0))) (gw_name (by decide)) (fun _ _ _ _ _ => (pg_name (i := 2) sc_House_enter.nd rfl (Or.inl rfl))) (fun _ _ _ _ _ => m_tests0) (fun _ _ _ _ _ => (m_var (pv 2))) (fun _ _ _ _ _ => m_str)))
      (m_sone (m_if (m_truth (m_fld (fo_called T) (m_var (pv 0))) (by intro _; rfl)) (m_sone (m_expr (m_bm PySem.F.plainAttrs_list PySem.F.slot_list_append PySem.F.type_list_append mt_append t_lst s_append (m_ixA hr (m_fld (fo_letters T) (m_var (pv 0))) (m_var (pv 1))) (m_acons (m_make00 (c := "Call") rfl T.mz_Call (by rfl) T.g_Call) m_anil)))) m_snil))))))))
theorem ok__law_cell (hP : PFa P FILE) (T : Txt P w K mg A) : FnOk P w K mg base (L2.CX P w) 1 (He.fAd K ("_law_cell", none)) A.d__law_cell ["_law_script", "_law_k"] (SpM K (gOf K) 2 m__law_cell) :=
  fn_gc (fn_mD (N := ["_law_script", "_law_k"]) T.d__law_cell sc__law_cell fun cdv Ar outer s H E hr => by
    have tk := takes_of (X := cxOf (L2.CX P w) P w K mg base ["_law_script", "_law_k"] "_law_cell" (defScope s__law_cell) (He.fAd K ("_law_cell", none)) cdv Ar outer s H E) rfl rfl rfl rfl
    exact (m_scons (m_if (m_cmpT op_lt s_cmp (m_var (pv 1)) (m_callB c_len s_len (by rfl) T.b_len PySem.boot_len (m_acons (m_var (pv 0)) m_anil)) (nomark _)) (m_sone (m_ret (m_callTy call_int1 s_int (by rfl) T.b_int (by decide +kernel) (m_acons (m_ixA hr (m_var (pv 0)) (m_var (pv 1))) m_anil)))) m_snil)
      (m_sone (m_ret m_int))))
theorem ok_Book___init__ (hP : PFa P FILE) (T : Txt P w K mg A) : FnOk P w K mg base (L2.CX P w) 3 (He.fAd K ("Book", some "__init__")) A.d_Book___init__ ["self", "stop", "move", "out", "marks"] (SpM K (gOf K) 5 m_Book___init__) :=
  fn_mD (N := ["self", "stop", "move", "out", "marks", "option", "options"]) T.d_Book___init__ sc_Book___init__ fun cdv Ar outer s H E hr => by
    have tk := takes_of (X := cxOf (L2.CX P w) P w K mg base ["self", "stop", "move", "out", "marks", "option", "options"] "Book.__init__" (defScope s_Book___init__) (He.fAd K ("Book", some "__init__")) cdv Ar outer s H E) rfl rfl rfl rfl
    exact (m_scons (m_for (passes_of rfl) rfl (m_tup (m_acons (m_tup (m_acons (m_var (pv 1)) (m_acons (tc_STOPS T (by rfl)) m_anil))) (m_acons (m_tup (m_acons (m_var (pv 2)) (m_acons (tc_MOVES T (by rfl)) m_anil))) (m_acons (m_tup (m_acons (m_var (pv 3)) (m_acons (tc_OUTS T (by rfl)) m_anil))) (m_acons (m_tup (m_acons (m_var (pv 4)) (m_acons (tc_MARKS T (by rfl)) m_anil))) m_anil))))) (pg_tup rfl (pgs_cons (pg_name (i := 5) sc_Book___init__.nd rfl (Or.inl rfl)) (pgs_cons (pg_name (i := 6) sc_Book___init__.nd rfl (Or.inl rfl)) pgs_nil))) (gs_tup (gss_cons (gss_cons gss_nil))) (m_sone (m_if (m_cmpT (o_notInA hr.units) (s_notInA s_notIn) (m_var (pv 5)) (m_var (pv 6)) rfl) (m_sone (m_raise (rm_BadBook hP T) rfl (hr.mono (by decide)) tk (by rfl) T.g_BadBook (m_acons (m_var (pv 5)) m_anil))) m_snil)))
      (m_scons (m_sfld (fo_stop T) (m_var (pv 0)) (m_var (pv 1)))
      (m_scons (m_sfld (fo_move T) (m_var (pv 0)) (m_var (pv 2)))
      (m_scons (m_sfld (fo_out T) (m_var (pv 0)) (m_var (pv 3)))
      (m_scons (m_sfld (fo_marks T) (m_var (pv 0)) (m_var (pv 4)))
      (m_sone (m_sfld (fo_pairs T) (m_var (pv 0)) (m_lst (m_acons (m_tup (m_acons m_str (m_acons (m_var (pv 1)) m_anil))) (m_acons (m_tup (m_acons m_str (m_acons (m_var (pv 2)) m_anil))) (m_acons (m_tup (m_acons m_str (m_acons (m_var (pv 3)) m_anil))) (m_acons (m_tup (m_acons m_str (m_acons (m_var (pv 4)) m_anil))) m_anil))))))))))))
theorem ok__law_book (hP : PFa P FILE) (T : Txt P w K mg A) : FnOk P w K mg base (L2.CX P w) 5 (He.fAd K ("_law_book", none)) A.d__law_book ["_law_words_here"] (SpM K (gOf K) 1 m__law_book) :=
  fn_gc (fn_mD (N := ["_law_words_here"]) T.d__law_book sc__law_book fun cdv Ar outer s H E hr => by
    have tk := takes_of (X := cxOf (L2.CX P w) P w K mg base ["_law_words_here"] "_law_book" (defScope s__law_book) (He.fAd K ("_law_book", none)) cdv Ar outer s H E) rfl rfl rfl rfl
    exact (m_sone (m_ret (m_makeK0 (c := "Book") (f := m_Book___init__) (ps := ["self", "stop", "move", "out", "marks"]) (C := He.ga K "Book") (fd := A.d_Book___init__) rfl (GR.pat (pat := [(0, 0), (2, 0), (2, 1), (2, 2), (2, 3)]) (ds := []) fun _ _ => by simp [VRs, VR]) T.mk_Book (ok_Book___init__ hP T) (hr.mono (by decide)) (by rfl) T.g_Book (kb_Book___init___1_stop_move_out_marks T).choose_spec tk (m_pkcons (m_ixA hr (m_var (pv 0)) m_int) (m_pkcons (m_ixA hr (m_var (pv 0)) m_int) (m_pkcons (m_ixA hr (m_var (pv 0)) m_int) (m_pkcons (m_ixA hr (m_var (pv 0)) m_int) m_pknil)))) (ks := ["stop", "move", "out", "marks"]) (hall := by kernel_rfl) (hks := by kernel_rfl) (hpl := by kernel_rfl)))))
theorem ok_Share___contains__ (hP : PFa P FILE) (T : Txt P w K mg A) : FnOk P w K mg base (L2.CX P w) 1 (He.fAd K ("Share", some "__contains__")) A.d_Share___contains__ ["self", "lane"] (SpM K (gOf K) 2 m_Share___contains__) :=
  fn_mD (N := ["self", "lane"]) T.d_Share___contains__ sc_Share___contains__ fun cdv Ar outer s H E hr => by
    have tk := takes_of (X := cxOf (L2.CX P w) P w K mg base ["self", "lane"] "Share.__contains__" (defScope s_Share___contains__) (He.fAd K ("Share", some "__contains__")) cdv Ar outer s H E) rfl rfl rfl rfl
    exact (m_sone (m_ret (m_cmp (o_inA hr.units) (s_inA s_in) (m_var (pv 1)) (m_fld (fo_lanes T) (m_var (pv 0))) rfl)))
theorem ok_Ledger___contains__ (hP : PFa P FILE) (T : Txt P w K mg A) : FnOk P w K mg base (L2.CX P w) 1 (He.fAd K ("Ledger", some "__contains__")) A.d_Ledger___contains__ ["self", "lane"] (SpM K (gOf K) 2 m_Ledger___contains__) :=
  fn_mD (N := ["self", "lane"]) T.d_Ledger___contains__ sc_Ledger___contains__ fun cdv Ar outer s H E hr => by
    have tk := takes_of (X := cxOf (L2.CX P w) P w K mg base ["self", "lane"] "Ledger.__contains__" (defScope s_Ledger___contains__) (He.fAd K ("Ledger", some "__contains__")) cdv Ar outer s H E) rfl rfl rfl rfl
    exact (m_sone (m_ret (m_cmp (o_inA hr.units) (s_inA s_in) (m_var (pv 1)) (m_fld (fo_table T) (m_var (pv 0))) rfl)))
theorem itr_Ledger___iter__ (T : Txt P w K mg A) : ItrOkD P w K mg base 2 (He.fAd K ("Ledger", some "__iter__")) "table" (He.ga K "Ledger") :=
  itrD_of T.d_Ledger___iter__ sc_Ledger___iter__ T.B_Ledger___iter__ (fun a C1 dx fs H _ e => ⟨T.c_Ledger, T.na_Ledger_table⟩) fun cdv Ar outer s H E hr => pss_one (ps_ret (pe_callB call_iterK (by rfl) T.b_iter (by decide +kernel) (pa_cons (pe_fld (pv 0) rfl) pa_nil)))
theorem ok_House_members_in (hP : PFa P FILE) (T : Txt P w K mg A) : FnOk P w K mg base (L2.CX P w) 1 (He.fAd K ("House", some "members_in")) A.d_House_members_in ["self"] (SpM K (gOf K) 1 m_House_members_in) :=
  fn_mD (N := ["self", "name"]) T.d_House_members_in sc_House_members_in fun cdv Ar outer s H E hr => by
    have tk := takes_of (X := cxOf (L2.CX P w) P w K mg base ["self", "name"] "House.members_in" (defScope s_House_members_in) (He.fAd K ("House", some "members_in")) cdv Ar outer s H E) rfl rfl rfl rfl
    exact (m_sone (m_ret (m_lcD rfl sc_House_members_in.nd (blkOk_by (own := [("name", 1)]) (by rfl)) (m_fld (fo_editions T) (m_var (pv 0))) (gw_name (by decide)) (fun _ _ _ _ _ => (pg_name (i := 1) sc_House_members_in.nd rfl (Or.inl rfl))) (fun _ _ _ _ _ => (m_tests1 (m_cmpT (op_eqM hr.units) s_eq (m_ixA hr (m_fld (fo_status T) (m_var (pv 0))) (m_var (pv 1))) m_str (nomark _)))) (fun _ _ _ _ _ => (m_var (pv 1))))))
theorem ok_Ledger___getitem__ (hP : PFa P FILE) (T : Txt P w K mg A) : FnOk P w K mg base (L2.CX P w) 3 (He.fAd K ("Ledger", some "__getitem__")) A.d_Ledger___getitem__ ["self", "lane"] (SpM K (gOf K) 2 m_Ledger___getitem__) :=
  fn_mD (N := ["self", "lane"]) T.d_Ledger___getitem__ sc_Ledger___getitem__ fun cdv Ar outer s H E hr => by
    have tk := takes_of (X := cxOf (L2.CX P w) P w K mg base ["self", "lane"] "Ledger.__getitem__" (defScope s_Ledger___getitem__) (He.fAd K ("Ledger", some "__getitem__")) cdv Ar outer s H E) rfl rfl rfl rfl
    exact (m_scons (m_if (m_cmpT (o_notInA hr.units) (s_notInA s_notIn) (m_var (pv 1)) (m_fld (fo_table T) (m_var (pv 0))) rfl) (m_sone (m_raise (rm_UnknownName hP T) rfl (hr.mono (by decide)) tk (by rfl) T.g_UnknownName (m_acons (m_var (pv 1)) m_anil))) m_snil)
      (m_sone (m_ret (m_ixA hr (m_fld (fo_table T) (m_var (pv 0))) (m_var (pv 1))))))
theorem ok_House_is_waited_for (hP : PFa P FILE) (T : Txt P w K mg A) : FnOk P w K mg base (L2.CX P w) 2 (He.fAd K ("House", some "is_waited_for")) A.d_House_is_waited_for ["self", "lane"] (SpM K (gOf K) 2 m_House_is_waited_for) :=
  fn_mD (N := ["self", "lane", "name"]) T.d_House_is_waited_for sc_House_is_waited_for fun cdv Ar outer s H E hr => by
    have tk := takes_of (X := cxOf (L2.CX P w) P w K mg base ["self", "lane", "name"] "House.is_waited_for" (defScope s_House_is_waited_for) (He.fAd K ("House", some "is_waited_for")) cdv Ar outer s H E) rfl rfl rfl rfl
    exact (m_scons (m_forD (passes_of rfl) rfl tk (fun W => (m_fld (fo_editions T) (m_var (pv 0)))) (pg_name (i := 2) sc_House_is_waited_for.nd rfl (Or.inl rfl)) gs_name (fun W tk => (m_sone (m_if (m_inOT (k := 1) (List.forall_mem_cons.mpr ⟨⟨⟨_, _, _, _, rfl, T.me_Share___contains__, (ok_Share___contains__ hP T).mono (by decide), T.B_Share___contains__, rfl⟩⟩, (List.forall_mem_cons.mpr ⟨⟨⟨_, _, _, _, rfl, T.me_Ledger___contains__, (ok_Ledger___contains__ hP T).mono (by decide), T.B_Ledger___contains__, rfl⟩⟩, List.forall_mem_nil _⟩)⟩) (hr.mono (by decide)) (m_var (pv 1)) (m_ixA hr (m_fld (fo_awaits T) (m_var (pv 0))) (m_var (pv 2))) rfl) (m_sone (m_ret m_bl)) m_snil))))
      (m_sone (m_ret m_bl)))
theorem ok_House_call_is_due (hP : PFa P FILE) (T : Txt P w K mg A) : FnOk P w K mg base (L2.CX P w) 5 (He.fAd K ("House", some "call_is_due")) A.d_House_call_is_due ["self"] (SpM K (gOf K) 1 m_House_call_is_due) :=
  fn_mD (N := ["self", "lane"]) T.d_House_call_is_due sc_House_call_is_due fun cdv Ar outer s H E hr => by
    have tk := takes_of (X := cxOf (L2.CX P w) P w K mg base ["self", "lane"] "House.call_is_due" (defScope s_House_call_is_due) (He.fAd K ("House", some "call_is_due")) cdv Ar outer s H E) rfl rfl rfl rfl
    exact (m_scons (m_if (PW.pt (m_or (m_truth (m_fld (fo_called T) (m_var (pv 0))) (by intro _; rfl)) (m_or1 (m_cmpT (op_eqM hr.units) s_eq (m_callB c_len s_len (by rfl) T.b_len PySem.boot_len (m_acons (m_meth0 rfl (m_var (pv 0)) T.c_House T.me_House_members_in (ok_House_members_in hP T) (hr.mono (by decide)) T.B_House_members_in tk) m_anil)) m_int (nomark _))))) (m_sone (m_ret m_bl)) m_snil)
      (m_scons (m_for (passes_of rfl) rfl (m_fld (fo_lanes T) (m_var (pv 0))) (pg_name (i := 1) sc_House_call_is_due.nd rfl (Or.inl rfl)) gs_name (m_sone (m_if (PW.pt (m_and (m_cmpT op_isN s_isN (m_ixO (k := 3) (List.forall_mem_cons.mpr ⟨⟨⟨_, _, _, _, rfl, T.me_Ledger___getitem__, (ok_Ledger___getitem__ hP T).mono (by decide), T.B_Ledger___getitem__, rfl, T.fi_Ledger___getitem__, T.ns_Ledger⟩⟩, List.forall_mem_nil _⟩) (hr.mono (by decide)) tk (m_fld (fo_owner T) (m_var (pv 0))) (m_var (pv 1))) m_non (nomark _)) (m_and1 (m_not (m_truth (m_meth rfl (m_var (pv 0)) T.c_House T.me_House_is_waited_for (ok_House_is_waited_for hP T) (hr.mono (by decide)) T.B_House_is_waited_for tk (m_acons (m_var (pv 1)) m_anil)) (by intro _; rfl)))))) (m_sone (m_ret m_bl)) m_snil)))
      (m_sone (m_ret m_bl))))
theorem ok_Share___len__ (hP : PFa P FILE) (T : Txt P w K mg A) : FnOk P w K mg base (L2.CX P w) 1 (He.fAd K ("Share", some "__len__")) A.d_Share___len__ ["self"] (SpM K (gOf K) 1 m_Share___len__) :=
  fn_mD (N := ["self"]) T.d_Share___len__ sc_Share___len__ fun cdv Ar outer s H E hr => by
    have tk := takes_of (X := cxOf (L2.CX P w) P w K mg base ["self"] "Share.__len__" (defScope s_Share___len__) (He.fAd K ("Share", some "__len__")) cdv Ar outer s H E) rfl rfl rfl rfl
    exact (m_sone (m_ret (m_callB c_len s_len (by rfl) T.b_len PySem.boot_len (m_acons (m_fld (fo_lanes T) (m_var (pv 0))) m_anil))))
theorem ok_House_is_still_lost (hP : PFa P FILE) (T : Txt P w K mg A) : FnOk P w K mg base (L2.CX P w) 1 (He.fAd K ("House", some "is_still_lost")) A.d_House_is_still_lost ["self", "member"] (SpM K (gOf K) 2 m_House_is_still_lost) :=
  fn_mD (N := ["self", "member"]) T.d_House_is_still_lost sc_House_is_still_lost fun cdv Ar outer s H E hr => by
    have tk := takes_of (X := cxOf (L2.CX P w) P w K mg base ["self", "member"] "House.is_still_lost" (defScope s_House_is_still_lost) (He.fAd K ("House", some "is_still_lost")) cdv Ar outer s H E) rfl rfl rfl rfl
    exact (m_sone (m_ret (m_eand (m_cmp (op_eqM hr.units) s_eq (m_ixA hr (m_fld (fo_status T) (m_var (pv 0))) (m_var (pv 1))) m_str (nomark _)) (m_eone (m_cmp (op_eqM hr.units) s_eq (m_fld (fo_out T) (m_ixA hr (m_fld (fo_editions T) (m_var (pv 0))) (m_var (pv 1)))) m_str (nomark _))))))
theorem ok_House_due_dealing (hP : PFa P FILE) (T : Txt P w K mg A) : FnOk P w K mg base (L2.CX P w) 5 (He.fAd K ("House", some "due_dealing")) A.d_House_due_dealing ["self"] (SpM K (gOf K) 1 m_House_due_dealing) :=
  fn_mD (N := ["self", "dealing", "members", "lane"]) T.d_House_due_dealing sc_House_due_dealing fun cdv Ar outer s H E hr => by
    have tk := takes_of (X := cxOf (L2.CX P w) P w K mg base ["self", "dealing", "members", "lane"] "House.due_dealing" (defScope s_House_due_dealing) (He.fAd K ("House", some "due_dealing")) cdv Ar outer s H E) rfl rfl rfl rfl
    exact (m_scons (m_set (i := 1) sc_House_due_dealing.nd rfl (Or.inl rfl) m_dk)
      (m_scons (m_set (i := 2) sc_House_due_dealing.nd rfl (Or.inl rfl) (m_meth0 rfl (m_var (pv 0)) T.c_House T.me_House_members_in (ok_House_members_in hP T) (hr.mono (by decide)) T.B_House_members_in tk))
      (m_scons (m_for (passes_of rfl) rfl (m_fld (fo_lanes T) (m_var (pv 0))) (pg_name (i := 3) sc_House_due_dealing.nd rfl (Or.inl rfl)) gs_name (m_scons (m_iput hr (m_var (pv 1)) (m_var (pv 3)) (m_ixO (k := 3) (List.forall_mem_cons.mpr ⟨⟨⟨_, _, _, _, rfl, T.me_Ledger___getitem__, (ok_Ledger___getitem__ hP T).mono (by decide), T.B_Ledger___getitem__, rfl, T.fi_Ledger___getitem__, T.ns_Ledger⟩⟩, List.forall_mem_nil _⟩) (hr.mono (by decide)) tk (m_fld (fo_owner T) (m_var (pv 0))) (m_var (pv 3))))
      (m_sone (m_if (m_truth (m_meth rfl (m_var (pv 0)) T.c_House T.me_House_is_waited_for (ok_House_is_waited_for hP T) (hr.mono (by decide)) T.B_House_is_waited_for tk (m_acons (m_var (pv 3)) m_anil)) (by intro _; rfl)) (m_sone (m_iput hr (m_var (pv 1)) (m_var (pv 3)) m_non)) (m_sone (m_if (PW.pt (m_and (m_cmpT op_isN s_isN (m_ixO (k := 3) (List.forall_mem_cons.mpr ⟨⟨⟨_, _, _, _, rfl, T.me_Ledger___getitem__, (ok_Ledger___getitem__ hP T).mono (by decide), T.B_Ledger___getitem__, rfl, T.fi_Ledger___getitem__, T.ns_Ledger⟩⟩, List.forall_mem_nil _⟩) (hr.mono (by decide)) tk (m_fld (fo_owner T) (m_var (pv 0))) (m_var (pv 3))) m_non (nomark _)) (m_and1 (m_cmpT op_gt s_cmp (m_callB c_len s_len (by rfl) T.b_len PySem.boot_len (m_acons (m_var (pv 2)) m_anil)) m_int (nomark _))))) (m_sone (m_iput hr (m_var (pv 1)) (m_var (pv 3)) (m_ixA hr (m_var (pv 2)) m_int))) m_snil))))))
      (m_sone (m_ret (m_var (pv 1)))))))
theorem gok_House_due (hP : PFa P FILE) (T : Txt P w K mg A) : GFn P w K mg base 6 (He.fAd K ("House", some "due")) A.d_House_due ["self"] (SpGM K (gOf K) 1 mg_House_due) :=
  fn_gen (N := ["self", "name", "waiting"]) T.d_House_due sc_House_due fun cdv Ar outer s H E pn hr => by
    have tk := takes0 (X := gcxOf P w K mg base ["self", "name", "waiting"] "House.due" (defScope s_House_due) (He.fAd K ("House", some "due")) cdv Ar outer s H E pn)
    exact (g_cons (g_forD owns_gcx rfl (m_fld (fo_editions T) (m_var (pv 0))) (pg_name (i := 1) sc_House_due.nd rfl (Or.inl rfl)) gs_name (g_one (g_if (m_cmpT op_gt s_cmp (m_callB c_len s_len (by rfl) T.b_len PySem.boot_len (m_acons (m_ixA hr (m_fld (fo_letters T) (m_var (pv 0))) (m_var (pv 1))) m_anil)) m_int (nomark _)) (g_one (g_yld (m_tup (m_acons m_str (m_acons (m_var (pv 1)) m_anil))))) g_nil)))
      (g_cons (g_forD owns_gcx rfl (m_fld (fo_editions T) (m_var (pv 0))) (pg_name (i := 1) sc_House_due.nd rfl (Or.inl rfl)) gs_name (g_one (g_if (m_cmpT (op_eqM hr.units) s_eq (m_ixA hr (m_fld (fo_status T) (m_var (pv 0))) (m_var (pv 1))) m_str (nomark _)) (g_one (g_yld (m_tup (m_acons m_str (m_acons (m_var (pv 1)) m_anil))))) g_nil)))
      (g_cons (g_forD owns_gcx rfl (m_fld (fo_editions T) (m_var (pv 0))) (pg_name (i := 1) sc_House_due.nd rfl (Or.inl rfl)) gs_name (g_one (g_if (PW.pt (m_and (m_cmpT op_gt s_cmp (m_lenO (k := 1) (List.forall_mem_cons.mpr ⟨⟨⟨_, _, _, _, rfl, T.me_Share___len__, (ok_Share___len__ hP T).mono (by decide), T.B_Share___len__, rfl⟩⟩, List.forall_mem_nil _⟩) (hr.mono (by decide)) (by rfl) T.b_len PySem.boot_len (m_acons (m_ixA hr (m_fld (fo_awaits T) (m_var (pv 0))) (m_var (pv 1))) m_anil)) m_int (nomark _)) (m_and1 (m_not (m_truth (m_meth rfl (m_var (pv 0)) T.c_House T.me_House_is_still_lost (ok_House_is_still_lost hP T) (hr.mono (by decide)) T.B_House_is_still_lost tk (m_acons (m_var (pv 1)) m_anil)) (by intro _; rfl)))))) (g_one (g_yld (m_tup (m_acons m_str (m_acons (m_var (pv 1)) m_anil))))) g_nil)))
      (g_cons (g_if (m_truth (m_meth0 rfl (m_var (pv 0)) T.c_House T.me_House_call_is_due (ok_House_call_is_due hP T) (hr.mono (by decide)) T.B_House_call_is_due tk) (by intro _; rfl)) (g_one (g_yld (m_tup (m_acons m_str m_anil)))) g_nil)
      (g_cons (g_ps (m_setLc (i := 2) rfl sc_House_due.nd rfl rfl (sw_true rfl rfl rfl rfl) (blkOk_by (own := [("name", 1)]) (by rfl)) (m_meth0 rfl (m_var (pv 0)) T.c_House T.me_House_members_in (ok_House_members_in hP T) (hr.mono (by decide)) T.B_House_members_in tk) (gw_name (by decide)) (fun _ _ _ _ _ => (pg_name (i := 1) sc_House_due.nd rfl (Or.inl rfl))) (fun _ _ _ _ _ => (m_tests1 (m_not (m_truth (m_ixA hr (m_fld (fo_answered T) (m_var (pv 0))) (m_var (pv 1))) (by intro _; rfl))))) (fun _ _ _ _ _ => (m_var (pv 1)))))
      (g_one (g_if (PW.pt (m_and (m_truth (m_fld (fo_called T) (m_var (pv 0))) (by intro _; rfl)) (m_and1 (m_cmpT (op_eqM hr.units) s_eq (m_callB c_len s_len (by rfl) T.b_len PySem.boot_len (m_acons (m_var (pv 2)) m_anil)) m_int (nomark _))))) (g_one (g_yld (m_tup (m_acons m_str (m_acons (m_meth0 rfl (m_var (pv 0)) T.c_House T.me_House_due_dealing (ok_House_due_dealing hP T) (hr.mono (by decide)) T.B_House_due_dealing tk) m_anil))))) g_nil)))))))
theorem ok_House_check_lane (hP : PFa P FILE) (T : Txt P w K mg A) : FnOk P w K mg base (L2.CX P w) 3 (He.fAd K ("House", some "check_lane")) A.d_House_check_lane ["self", "lane"] (SpM K (gOf K) 2 m_House_check_lane) :=
  fn_mD (N := ["self", "lane"]) T.d_House_check_lane sc_House_check_lane fun cdv Ar outer s H E hr => by
    have tk := takes_of (X := cxOf (L2.CX P w) P w K mg base ["self", "lane"] "House.check_lane" (defScope s_House_check_lane) (He.fAd K ("House", some "check_lane")) cdv Ar outer s H E) rfl rfl rfl rfl
    exact (m_sone (m_if (m_cmpT (o_notInA hr.units) (s_notInA s_notIn) (m_var (pv 1)) (m_fld (fo_slots T) (m_var (pv 0))) rfl) (m_sone (m_raise (rm_UnknownName hP T) rfl (hr.mono (by decide)) tk (by rfl) T.g_UnknownName (m_acons (m_var (pv 1)) m_anil))) m_snil))
theorem ok_House_done (hP : PFa P FILE) (T : Txt P w K mg A) : FnOk P w K mg base (L2.CX P w) 4 (He.fAd K ("House", some "done")) A.d_House_done ["self", "lane"] (SpM K (gOf K) 2 m_House_done) :=
  fn_mD (N := ["self", "lane"]) T.d_House_done sc_House_done fun cdv Ar outer s H E hr => by
    have tk := takes_of (X := cxOf (L2.CX P w) P w K mg base ["self", "lane"] "House.done" (defScope s_House_done) (He.fAd K ("House", some "done")) cdv Ar outer s H E) rfl rfl rfl rfl
    exact (m_scons (m_expr (m_meth rfl (m_var (pv 0)) T.c_House T.me_House_check_lane (ok_House_check_lane hP T) (hr.mono (by decide)) T.B_House_check_lane tk (m_acons (m_var (pv 1)) m_anil)))
      (m_sone (m_ret (m_callTy call_list_of s_list (by rfl) T.b_list (by decide +kernel) (m_acons (m_ixA hr (m_fld (fo_rows T) (m_var (pv 0))) (m_var (pv 1))) m_anil)))))
theorem ok_Slot_mark (hP : PFa P FILE) (T : Txt P w K mg A) : FnOk P w K mg base (L2.CX P w) 1 (prG K (He.ga K "Slot") "mark") A.d_Slot_mark ["self"] (SpM K (gOf K) 1 m_Slot_mark) :=
  fn_mD (N := ["self"]) T.d_Slot_mark sc_Slot_mark fun cdv Ar outer s H E hr => by
    have tk := takes_of (X := cxOf (L2.CX P w) P w K mg base ["self"] "Slot.mark" (defScope s_Slot_mark) (prG K (He.ga K "Slot") "mark") cdv Ar outer s H E) rfl rfl rfl rfl
    exact (m_sone (m_ret (m_fld (fo_row T) (m_var (pv 0)))))
theorem ok_House_slot (hP : PFa P FILE) (T : Txt P w K mg A) : FnOk P w K mg base (L2.CX P w) 4 (He.fAd K ("House", some "slot")) A.d_House_slot ["self", "lane"] (SpM K (gOf K) 2 m_House_slot) :=
  fn_mD (N := ["self", "lane"]) T.d_House_slot sc_House_slot fun cdv Ar outer s H E hr => by
    have tk := takes_of (X := cxOf (L2.CX P w) P w K mg base ["self", "lane"] "House.slot" (defScope s_House_slot) (He.fAd K ("House", some "slot")) cdv Ar outer s H E) rfl rfl rfl rfl
    exact (m_scons (m_expr (m_meth rfl (m_var (pv 0)) T.c_House T.me_House_check_lane (ok_House_check_lane hP T) (hr.mono (by decide)) T.B_House_check_lane tk (m_acons (m_var (pv 1)) m_anil)))
      (m_sone (m_ret (m_ixA hr (m_fld (fo_slots T) (m_var (pv 0))) (m_var (pv 1))))))
theorem ok_House_sent (hP : PFa P FILE) (T : Txt P w K mg A) : FnOk P w K mg base (L2.CX P w) 4 (He.fAd K ("House", some "sent")) A.d_House_sent ["self", "member"] (SpM K (gOf K) 2 m_House_sent) :=
  fn_mD (N := ["self", "member", "data", "stint"]) T.d_House_sent sc_House_sent fun cdv Ar outer s H E hr => by
    have tk := takes_of (X := cxOf (L2.CX P w) P w K mg base ["self", "member", "data", "stint"] "House.sent" (defScope s_House_sent) (He.fAd K ("House", some "sent")) cdv Ar outer s H E) rfl rfl rfl rfl
    exact (m_scons (m_expr (m_meth rfl (m_var (pv 0)) T.c_House T.me_House_check_member (ok_House_check_member hP T) (hr.mono (by decide)) T.B_House_check_member tk (m_acons (m_var (pv 1)) m_anil)))
      (m_sone (m_ret (m_lc rfl sc_House_sent.nd (blkOk_by (own := [("data", 2), ("stint", 3)]) (by rfl)) (m_ixA hr (m_fld (fo_post T) (m_var (pv 0))) (m_var (pv 1))) (gw_tup (gws_cons (by decide) (gws_cons (by decide) gws_nil))) (fun _ _ _ _ _ => (pg_tup rfl (pgs_cons (pg_name (i := 2) sc_House_sent.nd rfl (Or.inl rfl)) (pgs_cons (pg_name (i := 3) sc_House_sent.nd rfl (Or.inl rfl)) pgs_nil)))) (fun _ _ _ _ _ => m_tests0) (fun _ _ _ _ _ => (m_var (pv 2)))))))
end
end Lw
namespace Lw
open PySem L2 Mo
section
variable {P : Program} {w : World} {K : PySem.W.Frag} {mg : Str → Option Value} {base : Heap} {A : Ad}
theorem ok_at_work (hP : PFa P FILE) (T : Txt P w K mg A) : FnOk P w K mg base (L2.CX P w) 1 (He.fAd K ("at_work", none)) A.d_at_work ["place"] (SpM K (gOf K) 1 m_at_work) :=
  fn_gc (fn_mD (N := ["place"]) T.d_at_work sc_at_work fun cdv Ar outer s H E hr => by
    have tk := takes_of (X := cxOf (L2.CX P w) P w K mg base ["place"] "at_work" (defScope s_at_work) (He.fAd K ("at_work", none)) cdv Ar outer s H E) rfl rfl rfl rfl
    exact (m_sone (m_ret (m_cmp (o_inA hr.units) (s_inA s_in) (m_var (pv 0)) (tc_AT_WORK T (by rfl)) rfl))))
theorem ok_House_place (hP : PFa P FILE) (T : Txt P w K mg A) : FnOk P w K mg base (L2.CX P w) 4 (He.fAd K ("House", some "place")) A.d_House_place ["self", "member", "lane"] (SpM K (gOf K) 3 m_House_place) :=
  fn_mD (N := ["self", "member", "lane", "own", "place"]) T.d_House_place sc_House_place fun cdv Ar outer s H E hr => by
    have tk := takes_of (X := cxOf (L2.CX P w) P w K mg base ["self", "member", "lane", "own", "place"] "House.place" (defScope s_House_place) (He.fAd K ("House", some "place")) cdv Ar outer s H E) rfl rfl rfl rfl
    exact (m_scons (m_expr (m_meth rfl (m_var (pv 0)) T.c_House T.me_House_check_member (ok_House_check_member hP T) (hr.mono (by decide)) T.B_House_check_member tk (m_acons (m_var (pv 1)) m_anil)))
      (m_scons (m_expr (m_meth rfl (m_var (pv 0)) T.c_House T.me_House_check_lane (ok_House_check_lane hP T) (hr.mono (by decide)) T.B_House_check_lane tk (m_acons (m_var (pv 2)) m_anil)))
      (m_scons (m_set (i := 3) sc_House_place.nd rfl (Or.inl rfl) (m_ixA hr (m_ixA hr (m_fld (fo_own T) (m_var (pv 0))) (m_var (pv 1))) (m_var (pv 2))))
      (m_scons (m_if (m_cmpT (op_eqM hr.units) s_eq (m_ixA hr (m_fld (fo_status T) (m_var (pv 0))) (m_var (pv 1))) m_str (nomark _)) (m_sone (m_ret (m_var (pv 3)))) m_snil)
      (m_scons (m_set (i := 4) sc_House_place.nd rfl (Or.inl rfl) m_str)
      (m_scons (m_if (m_cmpT (op_eqM hr.units) s_eq (m_ixA hr (m_fld (fo_status T) (m_var (pv 0))) (m_var (pv 1))) m_str (nomark _)) (m_sone (m_if (m_truth (m_call (ok_at_work hP T) (hr.mono (by decide)) rfl T.g_at_work T.d_at_work.kp T.B_at_work tk (m_acons (m_var (pv 3)) m_anil)) (by intro _; rfl)) (m_sone (m_set (i := 4) sc_House_place.nd rfl (Or.inl rfl) m_str)) (m_sone (m_if (m_cmpT (op_eqM hr.units) s_eq (m_var (pv 3)) m_str (nomark _)) (m_sone (m_set (i := 4) sc_House_place.nd rfl (Or.inl rfl) m_str)) m_snil)))) m_snil)
      (m_scons (m_if (m_inOT (k := 1) (List.forall_mem_cons.mpr ⟨⟨⟨_, _, _, _, rfl, T.me_Share___contains__, (ok_Share___contains__ hP T).mono (by decide), T.B_Share___contains__, rfl⟩⟩, (List.forall_mem_cons.mpr ⟨⟨⟨_, _, _, _, rfl, T.me_Ledger___contains__, (ok_Ledger___contains__ hP T).mono (by decide), T.B_Ledger___contains__, rfl⟩⟩, List.forall_mem_nil _⟩)⟩) (hr.mono (by decide)) (m_var (pv 2)) (m_ixA hr (m_fld (fo_awaits T) (m_var (pv 0))) (m_var (pv 1))) rfl) (m_sone (m_ret (m_op o_add s_add (m_var (pv 4)) m_str))) m_snil)
      (m_sone (m_ret (m_var (pv 4)))))))))))
theorem ok__law_is_new (hP : PFa P FILE) (T : Txt P w K mg A) : FnOk P w K mg base (L2.CX P w) 10 (He.fAd K ("_law_is_new", none)) A.d__law_is_new ["_law_house", "_law_members", "_law_lanes", "_law_others"] (SpM K (gOf K) 4 m__law_is_new) :=
  fn_gc (fn_mD (N := ["_law_house", "_law_members", "_law_lanes", "_law_others", "_law_lane", "_law_name"]) T.d__law_is_new sc__law_is_new fun cdv Ar outer s H E hr => by
    have tk := takes_of (X := cxOf (L2.CX P w) P w K mg base ["_law_house", "_law_members", "_law_lanes", "_law_others", "_law_lane", "_law_name"] "_law_is_new" (defScope s__law_is_new) (He.fAd K ("_law_is_new", none)) cdv Ar outer s H E) rfl rfl rfl rfl
    exact (m_scons (m_if (PW.pt (m_or (m_cmpT (op_neM hr.units) s_ne (m_fld (fo_round T) (m_var (pv 0))) m_int (nomark _)) (m_or (m_truth (m_callB call_isi (s_isi T.isi) (by rfl) T.b_isinstance (by decide +kernel) (m_acons (m_fld (fo_round T) (m_var (pv 0))) (m_acons (m_const (pe_bltn (v := .ty "bool") (by rfl) T.b_bool (by decide +kernel) rfl) fun _ _ => by simp [VR]) m_anil))) (by intro _; rfl)) (m_or (m_cmpT op_notB s_notB (m_fld (fo_called T) (m_var (pv 0))) m_bl (nomark _)) (m_or1 (m_cmpT op_notN s_notN (m_fld (fo_held T) (m_var (pv 0))) m_non (nomark _))))))) (m_sone (m_ret m_bl)) m_snil)
      (m_scons (m_if (PW.pt (m_or (m_cmpT (op_neM hr.units) s_ne (m_lcDI rfl sc__law_is_new.nd (blkOk_by (own := [("_law_lane", 4)]) (by rfl)) (m_itrD (c := "Ledger") (C := He.ga K "Ledger") (fi := (He.fAd K ("Ledger", some "__iter__"))) (f := "table") (k := 2) rfl T.it_Ledger (itr_Ledger___iter__ T) (hr.mono (by decide)) (m_fld (fo_owner T) (m_var (pv 0)))) (gw_name (by decide)) (fun _ _ _ _ _ => (pg_name (i := 4) sc__law_is_new.nd rfl (Or.inl rfl))) (fun _ _ _ _ _ => m_tests0) (fun _ _ _ _ _ => (m_var (pv 4)))) (m_var (pv 2)) (nomark _)) (m_or1 (m_cmpT (op_neM hr.units) s_ne (m_listGM (c := "House") rfl (m_var (pv 0)) T.c_House T.me_House_due (gok_House_due hP T) (hr.mono (by decide)) T.B_House_due (hr.mono (by decide)) (by rfl) T.b_list (by decide +kernel)) (m_lst m_anil) (nomark _))))) (m_sone (m_ret m_bl)) m_snil)
      (m_scons (m_for (passes_of rfl) rfl (m_var (pv 3)) (pg_name (i := 4) sc__law_is_new.nd rfl (Or.inr rfl)) gs_name (m_sone (m_if (m_cmpT (op_neM hr.units) s_ne (m_inO (k := 1) (List.forall_mem_cons.mpr ⟨⟨⟨_, _, _, _, rfl, T.me_Share___contains__, (ok_Share___contains__ hP T).mono (by decide), T.B_Share___contains__, rfl⟩⟩, (List.forall_mem_cons.mpr ⟨⟨⟨_, _, _, _, rfl, T.me_Ledger___contains__, (ok_Ledger___contains__ hP T).mono (by decide), T.B_Ledger___contains__, rfl⟩⟩, List.forall_mem_nil _⟩)⟩) (hr.mono (by decide)) (m_var (pv 4)) (m_fld (fo_owner T) (m_var (pv 0))) rfl) (m_cmp (o_inA hr.units) (s_inA s_in) (m_var (pv 4)) (m_var (pv 2)) rfl) (nomark _)) (m_sone (m_ret m_bl)) m_snil)))
      (m_scons (m_for (passes_of rfl) rfl (m_var (pv 2)) (pg_name (i := 4) sc__law_is_new.nd rfl (Or.inr rfl)) gs_name (m_scons (m_if (PW.pt (m_or (m_cmpT op_notN s_notN (m_ixO (k := 3) (List.forall_mem_cons.mpr ⟨⟨⟨_, _, _, _, rfl, T.me_Ledger___getitem__, (ok_Ledger___getitem__ hP T).mono (by decide), T.B_Ledger___getitem__, rfl, T.fi_Ledger___getitem__, T.ns_Ledger⟩⟩, List.forall_mem_nil _⟩) (hr.mono (by decide)) tk (m_fld (fo_owner T) (m_var (pv 0))) (m_var (pv 4))) m_non (nomark _)) (m_or1 (m_cmpT (op_neM hr.units) s_ne (m_meth rfl (m_var (pv 0)) T.c_House T.me_House_done (ok_House_done hP T) (hr.mono (by decide)) T.B_House_done tk (m_acons (m_var (pv 4)) m_anil)) (m_lst m_anil) (nomark _))))) (m_sone (m_ret m_bl)) m_snil)
      (m_scons (m_if (PW.pt (m_or (m_cmpT (op_neM hr.units) s_ne (m_prop (c := "Slot") rfl T.c_Slot T.pr_Slot_mark (ok_Slot_mark hP T) rfl T.B_Slot_mark (hr.mono (by decide)) (m_meth rfl (m_var (pv 0)) T.c_House T.me_House_slot (ok_House_slot hP T) (hr.mono (by decide)) T.B_House_slot tk (m_acons (m_var (pv 4)) m_anil))) m_int (nomark _)) (m_or1 (m_truth (m_callB call_isi (s_isi T.isi) (by rfl) T.b_isinstance (by decide +kernel) (m_acons (m_prop (c := "Slot") rfl T.c_Slot T.pr_Slot_mark (ok_Slot_mark hP T) rfl T.B_Slot_mark (hr.mono (by decide)) (m_meth rfl (m_var (pv 0)) T.c_House T.me_House_slot (ok_House_slot hP T) (hr.mono (by decide)) T.B_House_slot tk (m_acons (m_var (pv 4)) m_anil))) (m_acons (m_const (pe_bltn (v := .ty "bool") (by rfl) T.b_bool (by decide +kernel) rfl) fun _ _ => by simp [VR]) m_anil))) (by intro _; rfl))))) (m_sone (m_ret m_bl)) m_snil)
      (m_sone (m_if (m_cmpT (op_neM hr.units) s_ne (m_lc rfl sc__law_is_new.nd (blkOk_by (own := [("_law_name", 5)]) (by rfl)) (m_var (pv 1)) (gw_name (by decide)) (fun _ _ _ _ _ => (pg_name (i := 5) sc__law_is_new.nd rfl (Or.inl rfl))) (fun _ _ _ _ _ => (m_tests1 (m_cmpT (op_neM hr.units) s_ne (m_meth rfl (m_var (pv 0)) T.c_House T.me_House_place (ok_House_place hP T) (hr.mono (by decide)) T.B_House_place takes_no (m_acons (m_var (pv 5)) (m_acons (m_var (pv 4)) m_anil))) m_str (nomark _)))) (fun _ _ _ _ _ => (m_var (pv 5)))) (m_lst m_anil) (nomark _)) (m_sone (m_ret m_bl)) m_snil)))))
      (m_sone (m_ret (m_cmp (op_eqM hr.units) s_eq (m_lc rfl sc__law_is_new.nd (blkOk_by (own := [("_law_name", 5)]) (by rfl)) (m_var (pv 1)) (gw_name (by decide)) (fun _ _ _ _ _ => (pg_name (i := 5) sc__law_is_new.nd rfl (Or.inl rfl))) (fun _ _ _ _ _ => (m_tests1 (m_cmpT (op_neM hr.units) s_ne (m_meth rfl (m_var (pv 0)) T.c_House T.me_House_sent (ok_House_sent hP T) (hr.mono (by decide)) T.B_House_sent takes_no (m_acons (m_var (pv 5)) m_anil)) (m_lst m_anil) (nomark _)))) (fun _ _ _ _ _ => (m_var (pv 5)))) (m_lst m_anil) (nomark _)))))))))
theorem ok__law_words (hP : PFa P FILE) (T : Txt P w K mg A) : FnOk P w K mg base (L2.CX P w) 1 (He.fAd K ("_law_words", none)) A.d__law_words ["_law_number"] (SpM K (gOf K) 1 m__law_words) :=
  fn_gc (fn_mD (N := ["_law_number", "_law_found"]) T.d__law_words sc__law_words fun cdv Ar outer s H E hr => by
    have tk := takes_of (X := cxOf (L2.CX P w) P w K mg base ["_law_number", "_law_found"] "_law_words" (defScope s__law_words) (He.fAd K ("_law_words", none)) cdv Ar outer s H E) rfl rfl rfl rfl
    exact (m_scons (m_set (i := 1) sc__law_words.nd rfl (Or.inl rfl) (m_lst (m_acons (m_ixA hr (m_lst (m_acons m_str (m_acons m_str m_anil))) (m_op op_mod s_mod (m_callTy call_int1 s_int (by rfl) T.b_int (by decide +kernel) (m_acons (m_var (pv 0)) m_anil)) m_int)) (m_acons (m_ixA hr (m_lst (m_acons m_str (m_acons m_str m_anil))) (m_op op_mod s_mod (m_callTy call_int1 s_int (by rfl) T.b_int (by decide +kernel) (m_acons (m_op op_fdiv s_div (m_var (pv 0)) m_int) m_anil)) m_int)) m_anil))))
      (m_sone (m_ret (m_op o_add s_add (m_var (pv 1)) (m_lst (m_acons (m_ixA hr (m_lst (m_acons m_str (m_acons m_str m_anil))) (m_op op_mod s_mod (m_callTy call_int1 s_int (by rfl) T.b_int (by decide +kernel) (m_acons (m_op op_fdiv s_div (m_var (pv 0)) m_int) m_anil)) m_int)) (m_acons (m_ixA hr (m_lst (m_acons m_str (m_acons m_str (m_acons m_str m_anil)))) (m_op op_mod s_mod (m_callTy call_int1 s_int (by rfl) T.b_int (by decide +kernel) (m_acons (m_op op_fdiv s_div (m_var (pv 0)) m_int) m_anil)) m_int)) m_anil))))))))
theorem ok_law (hP : PFa P FILE) (T : Txt P w K mg A) : FnOk P w K mg base (L2.CX P w) 11 (He.fAd K ("law", none)) A.d_law ["_law_script"] (SpM K (gOf K) 1 m_law) :=
  fn_mD (N := ["_law_script", "_law_draws", "_law_names_here", "_law_others", "_law_members", "_law_lanes", "_law_books", "_law_k", "_law_listed", "_law_house", "_law_other"]) T.d_law sc_law fun cdv Ar outer s H E hr => by
    have tk := takes_of (X := cxOf (L2.CX P w) P w K mg base ["_law_script", "_law_draws", "_law_names_here", "_law_others", "_law_members", "_law_lanes", "_law_books", "_law_k", "_law_listed", "_law_house", "_law_other"] "law" (defScope s_law) (He.fAd K ("law", none)) cdv Ar outer s H E) rfl rfl rfl rfl
    exact (m_scons (m_set (i := 1) sc_law.nd rfl (Or.inl rfl) (m_call (ok__law_row hP T) (hr.mono (by decide)) rfl T.g__law_row T.d__law_row.kp T.B__law_row tk (m_acons (m_call (ok__law_cell hP T) (hr.mono (by decide)) rfl T.g__law_cell T.d__law_cell.kp T.B__law_cell tk (m_acons (m_var (pv 0)) (m_acons m_int m_anil))) (m_acons m_int (m_acons m_int m_anil)))))
      (m_scons (m_set (i := 2) sc_law.nd rfl (Or.inl rfl) (m_call (ok__law_names hP T) (hr.mono (by decide)) rfl T.g__law_names T.d__law_names.kp T.B__law_names tk (m_acons (m_call (ok__law_cell hP T) (hr.mono (by decide)) rfl T.g__law_cell T.d__law_cell.kp T.B__law_cell tk (m_acons (m_var (pv 0)) (m_acons m_int m_anil))) (m_acons m_int m_anil))))
      (m_scons (m_set (i := 3) sc_law.nd rfl (Or.inl rfl) (m_call (ok__law_names hP T) (hr.mono (by decide)) rfl T.g__law_names T.d__law_names.kp T.B__law_names tk (m_acons (m_call (ok__law_cell hP T) (hr.mono (by decide)) rfl T.g__law_cell T.d__law_cell.kp T.B__law_cell tk (m_acons (m_var (pv 0)) (m_acons m_int m_anil))) (m_acons m_int m_anil))))
      (m_scons (m_set (i := 4) sc_law.nd rfl (Or.inl rfl) (m_slice (m_var (pv 2)) m_pno (m_pis (m_op o_add s_add m_int (m_op op_mod s_mod (m_callTy call_int1 s_int (by rfl) T.b_int (by decide +kernel) (m_acons (m_ixA hr (m_var (pv 1)) m_int) m_anil)) m_int)))))
      (m_scons (m_set (i := 5) sc_law.nd rfl (Or.inl rfl) (m_slice (m_var (pv 3)) (m_pis (m_op op_mod s_mod (m_callTy call_int1 s_int (by rfl) T.b_int (by decide +kernel) (m_acons (m_ixA hr (m_var (pv 1)) m_int) m_anil)) m_int)) m_pno))
      (m_scons (m_set (i := 6) sc_law.nd rfl (Or.inl rfl) m_dk)
      (m_scons (m_forR1 (passes_of rfl) rfl (by rfl) T.b_range (m_acons (m_callB c_len s_len (by rfl) T.b_len PySem.boot_len (m_acons (m_var (pv 4)) m_anil)) m_anil) (pg_name (i := 7) sc_law.nd rfl (Or.inl rfl)) gs_name (m_sone (m_iput hr (m_var (pv 6)) (m_ixA hr (m_var (pv 4)) (m_var (pv 7))) (m_call (ok__law_book hP T) (hr.mono (by decide)) rfl T.g__law_book T.d__law_book.kp T.B__law_book tk (m_acons (m_call (ok__law_words hP T) (hr.mono (by decide)) rfl T.g__law_words T.d__law_words.kp T.B__law_words tk (m_acons (m_ixA hr (m_var (pv 1)) (m_var (pv 7))) m_anil)) m_anil)))))
      (m_scons (m_set (i := 8) sc_law.nd rfl (Or.inl rfl) (m_callTy call_list_of s_list (by rfl) T.b_list (by decide +kernel) (m_acons (m_var (pv 5)) m_anil)))
      (m_scons (m_if (m_cmpT op_lt s_cmp (m_ixA hr (m_var (pv 1)) m_int) m_int (nomark _)) (m_sone (m_set (i := 9) sc_law.nd rfl (Or.inl rfl) (m_make (c := "House") (f := m_House___init__) (ps := ["self", "book", "members", "lanes", "window"]) (C := He.ga K "House") (fd := A.d_House___init__) rfl (GR.pat (pat := [(0, 0), (0, 1), (0, 2), (0, 3), (1, 0)]) (ds := [(.int 5)]) fun _ _ => by simp [VRs, VR]) T.mk_House (ok_House___init__ hP T) (hr.mono (by decide)) (by rfl) T.g_House (kb_House___init___4_ T).choose_spec tk (m_acons (m_call (ok__law_book hP T) (hr.mono (by decide)) rfl T.g__law_book T.d__law_book.kp T.B__law_book tk (m_acons (m_call (ok__law_words hP T) (hr.mono (by decide)) rfl T.g__law_words T.d__law_words.kp T.B__law_words tk (m_acons (m_ixA hr (m_var (pv 1)) m_int) m_anil)) m_anil)) (m_acons (m_var (pv 6)) (m_acons (m_var (pv 8)) m_anil)))))) (m_sone (m_set (i := 9) sc_law.nd rfl (Or.inl rfl) (m_makeK (c := "House") (f := m_House___init__) (ps := ["self", "book", "members", "lanes", "window"]) (C := He.ga K "House") (fd := A.d_House___init__) rfl (GR.pat (pat := [(0, 0), (0, 1), (0, 2), (0, 3), (2, 0)]) (ds := []) fun _ _ => by simp [VRs, VR]) T.mk_House (ok_House___init__ hP T) (hr.mono (by decide)) (by rfl) T.g_House (kb_House___init___4_window T).choose_spec tk (m_acons (m_call (ok__law_book hP T) (hr.mono (by decide)) rfl T.g__law_book T.d__law_book.kp T.B__law_book tk (m_acons (m_call (ok__law_words hP T) (hr.mono (by decide)) rfl T.g__law_words T.d__law_words.kp T.B__law_words tk (m_acons (m_ixA hr (m_var (pv 1)) m_int) m_anil)) m_anil)) (m_acons (m_var (pv 6)) (m_acons (m_var (pv 8)) m_anil))) (m_pkcons (m_op o_add s_add m_int (m_op op_mod s_mod (m_callTy call_int1 s_int (by rfl) T.b_int (by decide +kernel) (m_acons (m_ixA hr (m_var (pv 1)) m_int) m_anil)) m_int)) m_pknil) (ks := ["window"]) (hall := by kernel_rfl) (hks := by kernel_rfl) (hpl := by kernel_rfl)))))
      (m_scons (m_if (m_not (m_truth (m_call (ok__law_is_new hP T) (hr.mono (by decide)) rfl T.g__law_is_new T.d__law_is_new.kp T.B__law_is_new tk (m_acons (m_var (pv 9)) (m_acons (m_var (pv 4)) (m_acons (m_var (pv 5)) (m_acons (m_op o_add s_add (m_var (pv 3)) (m_var (pv 2))) m_anil))))) (by intro _; rfl))) (m_sone (m_ret m_bl)) m_snil)
      (m_scons (m_if (PW.pt (m_or (m_cmpT (op_neM hr.units) s_ne (m_listKeys rfl (by rfl) T.b_list (m_var (pv 6))) (m_var (pv 4)) (nomark _)) (m_or1 (m_cmpT (op_neM hr.units) s_ne (m_var (pv 8)) (m_var (pv 5)) (nomark _))))) (m_sone (m_ret m_bl)) m_snil)
      (m_scons (m_expr (m_bm0 PySem.F.plainAttrs_dict PySem.F.slot_dict_clear PySem.F.type_dict_clear mtd_clear t_dk s_clear (m_var (pv 6))))
      (m_scons (m_expr (m_bm0 PySem.F.plainAttrs_list PySem.F.slot_list_clear PySem.F.type_list_clear mt_clear t_lst s_clearL (m_var (pv 8))))
      (m_scons (m_set (i := 10) sc_law.nd rfl (Or.inl rfl) (m_make (c := "House") (f := m_House___init__) (ps := ["self", "book", "members", "lanes", "window"]) (C := He.ga K "House") (fd := A.d_House___init__) rfl (GR.pat (pat := [(0, 0), (0, 1), (0, 2), (0, 3), (1, 0)]) (ds := [(.int 5)]) fun _ _ => by simp [VRs, VR]) T.mk_House (ok_House___init__ hP T) (hr.mono (by decide)) (by rfl) T.g_House (kb_House___init___4_ T).choose_spec tk (m_acons (m_make0 (c := "Book") (f := m_Book___init__) (ps := ["self", "stop", "move", "out", "marks"]) (C := He.ga K "Book") (fd := A.d_Book___init__) rfl (GR.pat (pat := [(0, 0), (1, 0), (1, 1), (1, 2), (1, 3)]) (ds := [(.str "asked"), (.str "once"), (.str "once"), (.str "any")]) fun _ _ => by simp [VRs, VR]) T.mk_Book (ok_Book___init__ hP T) (hr.mono (by decide)) (by rfl) T.g_Book (kb_Book___init___1_ T).choose_spec tk) (m_acons (m_disp (.cons (m_ixA hr (m_var (pv 2)) m_int) (m_make0 (c := "Book") (f := m_Book___init__) (ps := ["self", "stop", "move", "out", "marks"]) (C := He.ga K "Book") (fd := A.d_Book___init__) rfl (GR.pat (pat := [(0, 0), (1, 0), (1, 1), (1, 2), (1, 3)]) (ds := [(.str "asked"), (.str "once"), (.str "once"), (.str "any")]) fun _ _ => by simp [VRs, VR]) T.mk_Book (ok_Book___init__ hP T) (hr.mono (by decide)) (by rfl) T.g_Book (kb_Book___init___1_ T).choose_spec tk) .nil)) (m_acons (m_lst (m_acons (m_ixA hr (m_var (pv 3)) m_int) m_anil)) m_anil)))))
      (m_scons (m_expr (m_meth rfl (m_var (pv 10)) T.c_House T.me_House_enter (ok_House_enter hP T) (hr.mono (by decide)) T.B_House_enter tk (m_acons (m_ixA hr (m_var (pv 2)) m_int) m_anil)))
      (m_sone (m_ret (m_eand (m_call (ok__law_is_new hP T) (hr.mono (by decide)) rfl T.g__law_is_new T.d__law_is_new.kp T.B__law_is_new tk (m_acons (m_var (pv 9)) (m_acons (m_var (pv 4)) (m_acons (m_var (pv 5)) (m_acons (m_op o_add s_add (m_var (pv 3)) (m_var (pv 2))) m_anil))))) (m_eone (m_cmp (op_eqM hr.units) s_eq (m_meth rfl (m_var (pv 10)) T.c_House T.me_House_place (ok_House_place hP T) (hr.mono (by decide)) T.B_House_place tk (m_acons (m_ixA hr (m_var (pv 2)) m_int) (m_acons (m_ixA hr (m_var (pv 3)) m_int) m_anil))) m_str (nomark _)))))))))))))))))))))
end
end Lw
namespace Lw
open PySem L2 Mo
section
theorem bn__law_mixed {K : PySem.W.Frag} {fd : FuncData} (F : FunD K "_law_mixed" "_law_mixed" (defArgs s__law_mixed) (defBody s__law_mixed) (defScope s__law_mixed) [] [] (He.fAd K ("_law_mixed", none)) fd) : Binds K fd ["_law_number", "_law_k"] [] := FunD.bindsN F fun _ _ _ _ _ _ us hl => match us, hl with | [_, _], _ => rfl
theorem bn__law_row {K : PySem.W.Frag} {fd : FuncData} (F : FunD K "_law_row" "_law_row" (defArgs s__law_row) (defBody s__law_row) (defScope s__law_row) [] [] (He.fAd K ("_law_row", none)) fd) : Binds K fd ["_law_cell_here", "_law_count", "_law_base"] [] := FunD.bindsN F fun _ _ _ _ _ _ us hl => match us, hl with | [_, _, _], _ => rfl
theorem bn__law_names {K : PySem.W.Frag} {fd : FuncData} (F : FunD K "_law_names" "_law_names" (defArgs s__law_names) (defBody s__law_names) (defScope s__law_names) [] [] (He.fAd K ("_law_names", none)) fd) : Binds K fd ["_law_cell_here", "_law_count"] [] := FunD.bindsN F fun _ _ _ _ _ _ us hl => match us, hl with | [_, _], _ => rfl
theorem bn_Ledger___init__ {K : PySem.W.Frag} {fd : FuncData} (F : FunD K "__init__" "Ledger.__init__" (defArgs s_Ledger___init__) (defBody s_Ledger___init__) (defScope s_Ledger___init__) [] [] (He.fAd K ("Ledger", some "__init__")) fd) : Binds K fd ["self", "lanes", "names"] [] := FunD.bindsN F fun _ _ _ _ _ _ us hl => match us, hl with | [_, _, _], _ => rfl
theorem bn_Slot___init__ {K : PySem.W.Frag} {fd : FuncData} (F : FunD K "__init__" "Slot.__init__" (defArgs s_Slot___init__) (defBody s_Slot___init__) (defScope s_Slot___init__) [] [] (He.fAd K ("Slot", some "__init__")) fd) : Binds K fd ["self", "lane", "rule", "owner"] [] := FunD.bindsN F fun _ _ _ _ _ _ us hl => match us, hl with | [_, _, _, _], _ => rfl
theorem bn_ascending {K : PySem.W.Frag} {fd : FuncData} (F : FunD K "ascending" "ascending" (defArgs s_ascending) (defBody s_ascending) (defScope s_ascending) [] [] (He.fAd K ("ascending", none)) fd) : Binds K fd ["lanes"] [] := FunD.bindsN F fun _ _ _ _ _ _ us hl => match us, hl with | [_], _ => rfl
theorem bn_Share___init__ {K : PySem.W.Frag} {fd : FuncData} (F : FunD K "__init__" "Share.__init__" (defArgs s_Share___init__) (defBody s_Share___init__) (defScope s_Share___init__) [] [] (He.fAd K ("Share", some "__init__")) fd) : Binds K fd ["self", "lanes"] [] := FunD.bindsN F fun _ _ _ _ _ _ us hl => match us, hl with | [_, _], _ => rfl
theorem bn_House_check_member {K : PySem.W.Frag} {fd : FuncData} (F : FunD K "check_member" "House.check_member" (defArgs s_House_check_member) (defBody s_House_check_member) (defScope s_House_check_member) [] [] (He.fAd K ("House", some "check_member")) fd) : Binds K fd ["self", "member"] [] := FunD.bindsN F fun _ _ _ _ _ _ us hl => match us, hl with | [_, _], _ => rfl
theorem bn_House_enter {K : PySem.W.Frag} {fd : FuncData} (F : FunD K "enter" "House.enter" (defArgs s_House_enter) (defBody s_House_enter) (defScope s_House_enter) [] [] (He.fAd K ("House", some "enter")) fd) : Binds K fd ["self", "member"] [] := FunD.bindsN F fun _ _ _ _ _ _ us hl => match us, hl with | [_, _], _ => rfl
theorem bn__law_cell {K : PySem.W.Frag} {fd : FuncData} (F : FunD K "_law_cell" "_law_cell" (defArgs s__law_cell) (defBody s__law_cell) (defScope s__law_cell) [] [] (He.fAd K ("_law_cell", none)) fd) : Binds K fd ["_law_script", "_law_k"] [] := FunD.bindsN F fun _ _ _ _ _ _ us hl => match us, hl with | [_, _], _ => rfl
theorem bn__law_book {K : PySem.W.Frag} {fd : FuncData} (F : FunD K "_law_book" "_law_book" (defArgs s__law_book) (defBody s__law_book) (defScope s__law_book) [] [] (He.fAd K ("_law_book", none)) fd) : Binds K fd ["_law_words_here"] [] := FunD.bindsN F fun _ _ _ _ _ _ us hl => match us, hl with | [_], _ => rfl
theorem bn_Share___contains__ {K : PySem.W.Frag} {fd : FuncData} (F : FunD K "__contains__" "Share.__contains__" (defArgs s_Share___contains__) (defBody s_Share___contains__) (defScope s_Share___contains__) [] [] (He.fAd K ("Share", some "__contains__")) fd) : Binds K fd ["self", "lane"] [] := FunD.bindsN F fun _ _ _ _ _ _ us hl => match us, hl with | [_, _], _ => rfl
theorem bn_Ledger___contains__ {K : PySem.W.Frag} {fd : FuncData} (F : FunD K "__contains__" "Ledger.__contains__" (defArgs s_Ledger___contains__) (defBody s_Ledger___contains__) (defScope s_Ledger___contains__) [] [] (He.fAd K ("Ledger", some "__contains__")) fd) : Binds K fd ["self", "lane"] [] := FunD.bindsN F fun _ _ _ _ _ _ us hl => match us, hl with | [_, _], _ => rfl
theorem bn_Ledger___iter__ {K : PySem.W.Frag} {fd : FuncData} (F : FunD K "__iter__" "Ledger.__iter__" (defArgs s_Ledger___iter__) (defBody s_Ledger___iter__) (defScope s_Ledger___iter__) [] [] (He.fAd K ("Ledger", some "__iter__")) fd) : Binds K fd ["self"] [] := FunD.bindsN F fun _ _ _ _ _ _ us hl => match us, hl with | [_], _ => rfl
theorem bn_House_members_in {K : PySem.W.Frag} {fd : FuncData} (F : FunD K "members_in" "House.members_in" (defArgs s_House_members_in) (defBody s_House_members_in) (defScope s_House_members_in) [] [] (He.fAd K ("House", some "members_in")) fd) : Binds K fd ["self"] [] := FunD.bindsN F fun _ _ _ _ _ _ us hl => match us, hl with | [_], _ => rfl
theorem bn_Ledger___getitem__ {K : PySem.W.Frag} {fd : FuncData} (F : FunD K "__getitem__" "Ledger.__getitem__" (defArgs s_Ledger___getitem__) (defBody s_Ledger___getitem__) (defScope s_Ledger___getitem__) [] [] (He.fAd K ("Ledger", some "__getitem__")) fd) : Binds K fd ["self", "lane"] [] := FunD.bindsN F fun _ _ _ _ _ _ us hl => match us, hl with | [_, _], _ => rfl
theorem bn_House_is_waited_for {K : PySem.W.Frag} {fd : FuncData} (F : FunD K "is_waited_for" "House.is_waited_for" (defArgs s_House_is_waited_for) (defBody s_House_is_waited_for) (defScope s_House_is_waited_for) [] [] (He.fAd K ("House", some "is_waited_for")) fd) : Binds K fd ["self", "lane"] [] := FunD.bindsN F fun _ _ _ _ _ _ us hl => match us, hl with | [_, _], _ => rfl
theorem bn_House_call_is_due {K : PySem.W.Frag} {fd : FuncData} (F : FunD K "call_is_due" "House.call_is_due" (defArgs s_House_call_is_due) (defBody s_House_call_is_due) (defScope s_House_call_is_due) [] [] (He.fAd K ("House", some "call_is_due")) fd) : Binds K fd ["self"] [] := FunD.bindsN F fun _ _ _ _ _ _ us hl => match us, hl with | [_], _ => rfl
theorem bn_Share___len__ {K : PySem.W.Frag} {fd : FuncData} (F : FunD K "__len__" "Share.__len__" (defArgs s_Share___len__) (defBody s_Share___len__) (defScope s_Share___len__) [] [] (He.fAd K ("Share", some "__len__")) fd) : Binds K fd ["self"] [] := FunD.bindsN F fun _ _ _ _ _ _ us hl => match us, hl with | [_], _ => rfl
theorem bn_House_is_still_lost {K : PySem.W.Frag} {fd : FuncData} (F : FunD K "is_still_lost" "House.is_still_lost" (defArgs s_House_is_still_lost) (defBody s_House_is_still_lost) (defScope s_House_is_still_lost) [] [] (He.fAd K ("House", some "is_still_lost")) fd) : Binds K fd ["self", "member"] [] := FunD.bindsN F fun _ _ _ _ _ _ us hl => match us, hl with | [_, _], _ => rfl
theorem bn_House_due_dealing {K : PySem.W.Frag} {fd : FuncData} (F : FunD K "due_dealing" "House.due_dealing" (defArgs s_House_due_dealing) (defBody s_House_due_dealing) (defScope s_House_due_dealing) [] [] (He.fAd K ("House", some "due_dealing")) fd) : Binds K fd ["self"] [] := FunD.bindsN F fun _ _ _ _ _ _ us hl => match us, hl with | [_], _ => rfl
theorem bn_House_due {K : PySem.W.Frag} {fd : FuncData} (F : FunD K "due" "House.due" (defArgs s_House_due) (defBody s_House_due) (defScope s_House_due) [] [] (He.fAd K ("House", some "due")) fd) : Binds K fd ["self"] [] := FunD.bindsN F fun _ _ _ _ _ _ us hl => match us, hl with | [_], _ => rfl
theorem bn_House_check_lane {K : PySem.W.Frag} {fd : FuncData} (F : FunD K "check_lane" "House.check_lane" (defArgs s_House_check_lane) (defBody s_House_check_lane) (defScope s_House_check_lane) [] [] (He.fAd K ("House", some "check_lane")) fd) : Binds K fd ["self", "lane"] [] := FunD.bindsN F fun _ _ _ _ _ _ us hl => match us, hl with | [_, _], _ => rfl
theorem bn_House_done {K : PySem.W.Frag} {fd : FuncData} (F : FunD K "done" "House.done" (defArgs s_House_done) (defBody s_House_done) (defScope s_House_done) [] [] (He.fAd K ("House", some "done")) fd) : Binds K fd ["self", "lane"] [] := FunD.bindsN F fun _ _ _ _ _ _ us hl => match us, hl with | [_, _], _ => rfl
theorem bn_Slot_mark {K : PySem.W.Frag} {fd : FuncData} (F : FunD K "mark" "Slot.mark" (defArgs s_Slot_mark) (defBody s_Slot_mark) (defScope s_Slot_mark) [] [] (prG K (He.ga K "Slot") "mark") fd) : Binds K fd ["self"] [] := FunD.bindsN F fun _ _ _ _ _ _ us hl => match us, hl with | [_], _ => rfl
theorem bn_House_slot {K : PySem.W.Frag} {fd : FuncData} (F : FunD K "slot" "House.slot" (defArgs s_House_slot) (defBody s_House_slot) (defScope s_House_slot) [] [] (He.fAd K ("House", some "slot")) fd) : Binds K fd ["self", "lane"] [] := FunD.bindsN F fun _ _ _ _ _ _ us hl => match us, hl with | [_, _], _ => rfl
theorem bn_House_sent {K : PySem.W.Frag} {fd : FuncData} (F : FunD K "sent" "House.sent" (defArgs s_House_sent) (defBody s_House_sent) (defScope s_House_sent) [] [] (He.fAd K ("House", some "sent")) fd) : Binds K fd ["self", "member"] [] := FunD.bindsN F fun _ _ _ _ _ _ us hl => match us, hl with | [_, _], _ => rfl
theorem bn_at_work {K : PySem.W.Frag} {fd : FuncData} (F : FunD K "at_work" "at_work" (defArgs s_at_work) (defBody s_at_work) (defScope s_at_work) [] [] (He.fAd K ("at_work", none)) fd) : Binds K fd ["place"] [] := FunD.bindsN F fun _ _ _ _ _ _ us hl => match us, hl with | [_], _ => rfl
theorem bn_House_place {K : PySem.W.Frag} {fd : FuncData} (F : FunD K "place" "House.place" (defArgs s_House_place) (defBody s_House_place) (defScope s_House_place) [] [] (He.fAd K ("House", some "place")) fd) : Binds K fd ["self", "member", "lane"] [] := FunD.bindsN F fun _ _ _ _ _ _ us hl => match us, hl with | [_, _, _], _ => rfl
theorem bn__law_is_new {K : PySem.W.Frag} {fd : FuncData} (F : FunD K "_law_is_new" "_law_is_new" (defArgs s__law_is_new) (defBody s__law_is_new) (defScope s__law_is_new) [] [] (He.fAd K ("_law_is_new", none)) fd) : Binds K fd ["_law_house", "_law_members", "_law_lanes", "_law_others"] [] := FunD.bindsN F fun _ _ _ _ _ _ us hl => match us, hl with | [_, _, _, _], _ => rfl
theorem bn__law_words {K : PySem.W.Frag} {fd : FuncData} (F : FunD K "_law_words" "_law_words" (defArgs s__law_words) (defBody s__law_words) (defScope s__law_words) [] [] (He.fAd K ("_law_words", none)) fd) : Binds K fd ["_law_number"] [] := FunD.bindsN F fun _ _ _ _ _ _ us hl => match us, hl with | [_], _ => rfl
theorem bn_law {K : PySem.W.Frag} {fd : FuncData} (F : FunD K "law" "law" (defArgs s_law) (defBody s_law) (defScope s_law) [] [] (He.fAd K ("law", none)) fd) : Binds K fd ["_law_script"] [] := FunD.bindsN F fun _ _ _ _ _ _ us hl => match us, hl with | [_], _ => rfl
theorem all_mk {l : PySem.W.OpenLaw} {w : World} {K : PySem.W.Frag} {h : Heap} {mg : Str → Option Value} {fa : Addr} (X : K.In h) (G : h.Ns mainGlobals mg) (hfa : mg "law" = some (.ref fa)) (c : He.SaysT faL fnL tsL w K) (e : exL K = true) (eP : exP K) (hP : PFa l.prog FILE) :
    ∃ fd : FuncData, (∀ (s : Shared) (v : Value), BindsTo s fd ⟨[v], []⟩ [("_law_script", v)]) ∧ ∀ base : Heap, K.In base → base.Ns mainGlobals mg → FnOk l.prog w K mg base (L2.CX l.prog w) 11 fa fd ["_law_script"] (spLaw K) := by
  have q := hfa.symm.trans (He.glo_ok (x := "law") X G (c.d.fact 27 rfl))
  cases q
  obtain ⟨D0, F0⟩ := c.d.def_ 0 rfl
  obtain ⟨D1, F1⟩ := c.d.def_ 1 rfl
  obtain ⟨D2, F2⟩ := c.d.def_ 2 rfl
  obtain ⟨D3, F3⟩ := c.d.def_ 3 rfl
  obtain ⟨D4, F4⟩ := c.d.def_ 4 rfl
  obtain ⟨D5, F5⟩ := c.d.def_ 5 rfl
  obtain ⟨D6, F6⟩ := c.d.def_ 6 rfl
  obtain ⟨D7, F7⟩ := c.d.def_ 7 rfl
  obtain ⟨D8, F8⟩ := c.d.def_ 8 rfl
  obtain ⟨D9, F9⟩ := c.d.def_ 9 rfl
  obtain ⟨D10, F10⟩ := c.d.def_ 10 rfl
  obtain ⟨D11, F11⟩ := c.d.def_ 11 rfl
  obtain ⟨D12, F12⟩ := c.d.def_ 12 rfl
  obtain ⟨D13, F13⟩ := c.d.def_ 13 rfl
  obtain ⟨D14, F14⟩ := c.d.def_ 14 rfl
  obtain ⟨D15, F15⟩ := c.d.def_ 15 rfl
  obtain ⟨D16, F16⟩ := c.d.def_ 16 rfl
  obtain ⟨D17, F17⟩ := c.d.def_ 17 rfl
  obtain ⟨D18, F18⟩ := c.d.def_ 18 rfl
  obtain ⟨D19, F19⟩ := c.d.def_ 19 rfl
  obtain ⟨D20, F20⟩ := c.d.def_ 20 rfl
  obtain ⟨D21, F21⟩ := c.d.def_ 21 rfl
  obtain ⟨D22, F22⟩ := c.d.def_ 22 rfl
  obtain ⟨D23, F23⟩ := c.d.def_ 23 rfl
  obtain ⟨D24, F24⟩ := c.d.def_ 24 rfl
  obtain ⟨D25, F25⟩ := c.d.def_ 25 rfl
  obtain ⟨D27, F27⟩ := c.d.def_ 26 rfl
  obtain ⟨D28, F28⟩ := c.d.def_ 27 rfl
  obtain ⟨D29, F29⟩ := c.d.def_ 28 rfl
  obtain ⟨D30, F30⟩ := c.d.def_ 29 rfl
  obtain ⟨D31, F31⟩ := c.d.def_ 30 rfl
  obtain ⟨D32, F32⟩ := c.d.def_ 31 rfl
  obtain ⟨D33, F33⟩ := c.d.def_ 32 rfl
  unfold exL at e
  have e0 := (He.ba e).1
  replace e := (He.ba e).2
  have e1 := (He.ba e).1
  replace e := (He.ba e).2
  have e2 := (He.ba e).1
  replace e := (He.ba e).2
  have e3 := (He.ba e).1
  replace e := (He.ba e).2
  have e4 := (He.ba e).1
  replace e := (He.ba e).2
  have e5 := (He.ba e).1
  replace e := (He.ba e).2
  have e6 := (He.ba e).1
  replace e := (He.ba e).2
  have e7 := (He.ba e).1
  replace e := (He.ba e).2
  have e8 := (He.ba e).1
  replace e := (He.ba e).2
  have e9 := (He.ba e).1
  replace e := (He.ba e).2
  have e10 := (He.ba e).1
  replace e := (He.ba e).2
  have e11 := (He.ba e).1
  replace e := (He.ba e).2
  have e12 := (He.ba e).1
  replace e := (He.ba e).2
  have e13 := (He.ba e).1
  replace e := (He.ba e).2
  have e14 := (He.ba e).1
  replace e := (He.ba e).2
  have e15 := (He.ba e).1
  replace e := (He.ba e).2
  have e16 := (He.ba e).1
  replace e := (He.ba e).2
  have e17 := (He.ba e).1
  replace e := (He.ba e).2
  have e18 := (He.ba e).1
  replace e := (He.ba e).2
  have e19 := (He.ba e).1
  replace e := (He.ba e).2
  have e20 := (He.ba e).1
  replace e := (He.ba e).2
  have e21 := (He.ba e).1
  replace e := (He.ba e).2
  have e22 := (He.ba e).1
  replace e := (He.ba e).2
  have e23 := (He.ba e).1
  replace e := (He.ba e).2
  have e24 := (He.ba e).1
  replace e := (He.ba e).2
  have e25 := (He.ba e).1
  replace e := (He.ba e).2
  have e26 := e
  obtain ⟨D26, F26⟩ := He5.DefA.funD (d := dA_Slot_mark) eP.1 e6
  have T : Txt l.prog w K mg ⟨D0, D1, D2, D3, D4, D5, D6, D7, D8, D9, D10, D11, D12, D13, D14, D15, D16, D17, D18, D19, D20, D21, D22, D23, D24, D25, D26, D27, D28, D29, D30, D31, D32, D33⟩ := ⟨F0,
    (bn__law_mixed F0),
    F1,
    (bn__law_row F1),
    F2,
    (bn__law_names F2),
    F3,
    (bn_Ledger___init__ F3),
    F4,
    (bn_Slot___init__ F4),
    F5,
    (bn_ascending F5),
    F6,
    (bn_Share___init__ F6),
    F7,
    F8,
    (bn_House_check_member F8),
    F9,
    (bn_House_enter F9),
    F10,
    (bn__law_cell F10),
    F11,
    F12,
    (bn__law_book F12),
    F13,
    (bn_Share___contains__ F13),
    F14,
    (bn_Ledger___contains__ F14),
    F15,
    (bn_Ledger___iter__ F15),
    F16,
    (bn_House_members_in F16),
    F17,
    (bn_Ledger___getitem__ F17),
    F18,
    (bn_House_is_waited_for F18),
    F19,
    (bn_House_call_is_due F19),
    F20,
    (bn_Share___len__ F20),
    F21,
    (bn_House_is_still_lost F21),
    F22,
    (bn_House_due_dealing F22),
    F23,
    (bn_House_due F23),
    F24,
    (bn_House_check_lane F24),
    F25,
    (bn_House_done F25),
    F26,
    (bn_Slot_mark F26),
    F27,
    (bn_House_slot F27),
    F28,
    (bn_House_sent F28),
    F29,
    (bn_at_work F29),
    F30,
    (bn_House_place F30),
    F31,
    (bn__law_is_new F31),
    F32,
    (bn__law_words F32),
    F33,
    (bn_law F33),
    (He.glo_ok X G (c.d.fact 0 rfl)),
    (He.glo_ok X G (c.d.fact 1 rfl)),
    (He.glo_ok X G (c.d.fact 2 rfl)),
    (He.glo_ok X G (c.d.fact 3 rfl)),
    (He.glo_ok X G (c.d.fact 4 rfl)),
    (He.glo_ok X G (c.d.fact 5 rfl)),
    (He.glo_ok X G (c.d.fact 6 rfl)),
    (He.glo_ok X G (c.d.fact 7 rfl)),
    (He.glo_ok X G (c.d.fact 8 rfl)),
    (He.glo_ok X G (c.d.fact 9 rfl)),
    (He.glo_ok X G (c.d.fact 10 rfl)),
    (He.glo_ok X G (c.d.fact 11 rfl)),
    (He.glo_ok X G (c.d.fact 12 rfl)),
    (He.glo_ok X G (c.d.fact 13 rfl)),
    (He.glo_ok X G (c.d.fact 14 rfl)),
    (He.glo_ok X G (c.d.fact 15 rfl)),
    (He.glo_ok X G (c.d.fact 16 rfl)),
    (He.glo_ok X G (c.d.fact 17 rfl)),
    (He.glo_ok X G (c.d.fact 18 rfl)),
    (He.glo_ok X G (c.d.fact 19 rfl)),
    (He.glo_ok X G (c.d.fact 20 rfl)),
    (He.glo_ok X G (c.d.fact 21 rfl)),
    (He.glo_ok X G (c.d.fact 22 rfl)),
    (He.glo_ok X G (c.d.fact 23 rfl)),
    (He.glo_ok X G (c.d.fact 24 rfl)),
    (He.glo_ok X G (c.d.fact 25 rfl)),
    (He.glo_ok X G (c.d.fact 26 rfl)),
    (He.glo_ok X G (c.d.fact 27 rfl)),
    (He.free_ok X G (c.d.fact 28 rfl)),
    (He.free_ok X G (c.d.fact 29 rfl)),
    (He.free_ok X G (c.d.fact 30 rfl)),
    (He.free_ok X G (c.d.fact 31 rfl)),
    (He.free_ok X G (c.d.fact 32 rfl)),
    (He.free_ok X G (c.d.fact 33 rfl)),
    (He.free_ok X G (c.d.fact 34 rfl)),
    (He.free_ok X G (c.d.fact 35 rfl)),
    (He.free_ok X G (c.d.fact 36 rfl)),
    (He.free_ok X G (c.d.fact 37 rfl)),
    (He.free_ok X G (c.d.fact 38 rfl)),
    (He.free_ok X G (c.d.fact 39 rfl)),
    (He.cls_ok (c.d.fact 40 rfl)),
    (He.cls_ok (c.d.fact 41 rfl)),
    (He.cls_ok (c.d.fact 42 rfl)),
    (He.cls_ok (c.d.fact 43 rfl)),
    (He.cls_ok (c.d.fact 44 rfl)),
    (He.cls_ok (c.d.fact 45 rfl)),
    (He.cls_ok (c.d.fact 46 rfl)),
    (He.cls_ok (c.d.fact 47 rfl)),
    (He.cls_ok (c.d.fact 48 rfl)),
    (He.noat_ok (c.d.fact 49 rfl)),
    (He.noat_ok (c.d.fact 50 rfl)),
    (He.noat_ok (c.d.fact 51 rfl)),
    (He.noat_ok (c.d.fact 52 rfl)),
    (He.noat_ok (c.d.fact 53 rfl)),
    (He.noat_ok (c.d.fact 54 rfl)),
    (He.noat_ok (c.d.fact 55 rfl)),
    (He.noat_ok (c.d.fact 56 rfl)),
    (He.noat_ok (c.d.fact 57 rfl)),
    (He.noat_ok (c.d.fact 58 rfl)),
    (He.noat_ok (c.d.fact 59 rfl)),
    (He.noat_ok (c.d.fact 60 rfl)),
    (He.noat_ok (c.d.fact 61 rfl)),
    (He.noat_ok (c.d.fact 62 rfl)),
    (He.noat_ok (c.d.fact 63 rfl)),
    (He.noat_ok (c.d.fact 64 rfl)),
    (He.noat_ok (c.d.fact 65 rfl)),
    (He.noat_ok (c.d.fact 66 rfl)),
    (He.noat_ok (c.d.fact 67 rfl)),
    (He.noat_ok (c.d.fact 68 rfl)),
    (He.noat_ok (c.d.fact 69 rfl)),
    (He.noat_ok (c.d.fact 70 rfl)),
    (He.noat_ok (c.d.fact 71 rfl)),
    (He.noat_ok (c.d.fact 72 rfl)),
    (He.noat_ok (c.d.fact 73 rfl)),
    (He.noat_ok (c.d.fact 74 rfl)),
    (He.noat_ok (c.d.fact 75 rfl)),
    (He.noat_ok (c.d.fact 76 rfl)),
    (He.noat_ok (c.d.fact 77 rfl)),
    (He.noat_ok (c.d.fact 78 rfl)),
    (He.noat_ok (c.d.fact 79 rfl)),
    (He.noat_ok (c.d.fact 80 rfl)),
    (He.noat_ok (c.d.fact 81 rfl)),
    (He.noat_ok (c.d.fact 82 rfl)),
    (He.noat_ok (c.d.fact 83 rfl)),
    (He.noat_ok (c.d.fact 84 rfl)),
    (He.noat_ok (c.d.fact 85 rfl)),
    (He.meth_ok (c.d.fact 86 rfl)),
    (He.meth_ok (c.d.fact 87 rfl)),
    (He.meth_ok (c.d.fact 88 rfl)),
    (He.meth_ok (c.d.fact 89 rfl)),
    (He.meth_ok (c.d.fact 90 rfl)),
    (He.meth_ok (c.d.fact 91 rfl)),
    (He.meth_ok (c.d.fact 92 rfl)),
    (He.meth_ok (c.d.fact 93 rfl)),
    (He.meth_ok (c.d.fact 94 rfl)),
    (He.meth_ok (c.d.fact 95 rfl)),
    (He.meth_ok (c.d.fact 96 rfl)),
    (He.meth_ok (c.d.fact 97 rfl)),
    (He.meth_ok (c.d.fact 98 rfl)),
    (He.meth_ok (c.d.fact 99 rfl)),
    (He.meth_ok (c.d.fact 100 rfl)),
    (He.meth_ok (c.d.fact 101 rfl)),
    (He.meth_ok (c.d.fact 102 rfl)),
    (He.mkr_ok (c.d.fact 103 rfl)),
    (He.mkr_ok (c.d.fact 104 rfl)),
    (He.mkr_ok (c.d.fact 105 rfl)),
    (He.mkr_ok (c.d.fact 106 rfl)),
    (He.mkr_ok (c.d.fact 107 rfl)),
    (tup_kt e0),
    (tup_kt e1),
    (tup_kt e2),
    (tup_kt e3),
    (tup_kt e4),
    (isi_tab e5),
    (prop_of e7),
    (oex_of e10),
    (exci_of eP.2.1 e11),
    (of_decide_eq_true e12),
    (oex_of e13),
    (exci_of eP.2.2.1 e14),
    (of_decide_eq_true e15),
    (of_decide_eq_true e16),
    (oex_of e17),
    (exci_of eP.2.2.2 e18),
    (of_decide_eq_true e19),
    ⟨beq_iff_eq.mp e20, e21⟩,
    ⟨e22, beq_iff_eq.mp e23, e24⟩,
    e25,
    e26⟩
  exact ⟨D33, fun s v => FunD.bindsA (ps := ["_law_script"]) F33 (fun _ _ _ _ _ _ us hl => match us, hl with | [_], _ => rfl) s [v] rfl, fun base _ _ => (ok_law hP T).imp (spLaw_of pure_law)⟩
end
end Lw
namespace Lw
open PySem PySem.W PySem.Calls PyProof.Rows L2 Mo
theorem exP_of {w : World} {K : PySem.W.Frag} (c : SaysM faL fnL tsL exL psL vsL w K) : exP K := ⟨fnA_ofN (c.at 0), fnC_ofN (c.at 1), fnC_ofN (c.at 2), fnC_ofN (c.at 3)⟩
theorem obL_eq (s : PySem.W.SharedT) : obL s = hkL.obs s.abs := obsM_eq s
theorem runF (w : World) : HandSHeadRun.RunEq rowL viewL hkL obL 9500 nmL (w.withFollow "special-get-raises" false) := run_two (runF1 w) (runF2 w)
theorem runT (w : World) : HandSHeadRun.RunEq rowL viewL hkL obL 9500 nmL (w.withFollow "special-get-raises" true) := run_two (runT1 w) (runT2 w)
theorem runA (w : World) : HandSHeadRun.RunEq rowL viewL hkL obL 9500 nmL w := by
  have e := World.withFollow_self w "special-get-raises"
  rw [← e]
  generalize w.params.followText "special-get-raises" = b
  cases b
  · exact runF w
  · exact runT w
end Lw
open PySem PySem.W PySem.Calls PyProof.Rows in
set_option maxRecDepth 100000 in
set_option maxHeartbeats 0 in
theorem PySem.Challenge.cw_lanesdealt_k19_house_at_first_holds : PySem.Challenge.rw_lanesdealt_k19_house_at_first.Holds := by
  w_on; o_law
  refine HandSHeadRun.head_any (r := OpenLaw.row PySem.Challenge.rw_lanesdealt_k19_house_at_first) (q := Lw.viewL) (H := Lw.hkL) (ob := Lw.obL) (M := 9500) (loose := Lw.nmL) (d := HandSHeadRun.topDef Lw.rowL.prog 62) (kwd := []) Lw.obL_eq
    (by kernel_rfl) (fun s => by kernel_rfl) Lw.runA (by kernel_rfl) (by kernel_rfl) (by kernel_rfl) (by rfl) (by first | assumption | decide +kernel) (by decide +kernel) ⟨rfl, rfl, rfl, rfl, rfl, by decide +kernel⟩ ?hw ?hc
  case hw => w_witness2
  case hc =>
    refine Mo.law_walkE (l := PySem.Challenge.rw_lanesdealt_k19_house_at_first) (k := 11) (by decide) rfl (by kernel_rfl) ?F
    intro w mg fa h Y G hmg0
    obtain ⟨K, KX, c⟩ := Y
    have hmg : mg ("law" : PySem.Str) = some (.ref fa) := by
      have e : (HandSHeadRun.topDef Lw.rowL.prog 62).name = ("law" : PySem.Str) := by kernel_rfl
      rw [← e]
      exact hmg0
    exact ⟨K, KX, Lw.all_mk KX G hmg c.t c.e (Lw.exP_of c) ⟨rfl, rfl⟩⟩

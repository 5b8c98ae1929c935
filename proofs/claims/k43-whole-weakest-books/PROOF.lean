import PyProof.Rows.All
import Wide.All
import OpenK.AllK
import Wide.FinOn
import HandS.ForMost
import HandS.ForExc
import HandS.IsInst
import HandS.HeadHook3
import HandS.MakeKwOnly
import HandS.CallSlots
import HandS.Small
import HandS.StrMore
import KE.KCallOwn
import HandS.TryOnly
import HandS.SlotsOwn
import HandS.ClsMeth
import HandS.HeadNt
import HandS.Strs
import HandS.ExcInit
import KE.KExcSuper
import HandS.ExcField
import HandS.ExcIs
import KE.KExcIs
import HandS.Comp
import HandS.IterVal
import HandS.OwnIter
import HandS.Style
import KE.KDictDisplayH
import HandS.TupLen
import HandS.TryMany
import HandS.GenList
import HandS.Text
import HandS.FStr
import HandS.Bytes
import KE.KStrBytes
import KE.KBytesDec
import HandS.Wide
import HandS.More
import KE.KOpsOwn
import HandS.RaiseMore
import HandS.Iter
import HandS.DictComp
import HandS.Finally
import HandS.Property
import HandS.HotCalls
import HandS.ExcInitHot
import HandS.Head2
import KE.KStateDown
import HandS.Deep
import HandS.Remove
import PySem.Challenge.RW_lanesdealt_k43_whole_weakest_books
set_option Elab.async false
set_option linter.all false
set_option maxRecDepth 100000
set_option maxHeartbeats 4000000
namespace Mo
open PySem L2
def valT (K : PySem.W.Frag) (t : Bool × String) : Value := if t.1 = true then .ref (He.ga K (Str.ofString t.2)) else .type t.2
abbrev OTab := List ((Bool × String) × (Bool × String) × Bool)
def isiB (K : PySem.W.Frag) (tab : OTab) : Bool := tab.all fun e => decide (PySem.W.kitOne K (valT K e.1) (valT K e.2.1) = some e.2.2) &&
  (!e.1.1 || (PySem.W.plainGet K (He.ga K (Str.ofString e.1.2)) Str.empty && (PySem.W.hasDictIn K (He.ga K (Str.ofString e.1.2)) && (PySem.W.plainOver K (He.ga K (Str.ofString e.1.2)) &&
    He.eqO (PySem.W.findIn K (.ref (He.ga K (Str.ofString e.1.2))) "__setattr__") (some (some (.builtin "object.__setattr__"))) && He.eqO (PySem.W.findIn K (.ref (He.ga K (Str.ofString e.1.2))) "__class__") (some (some (.builtin "object.__class__"))) &&
    He.eqO (PySem.W.specialIn K (.builtin "object.__class__") "__get__") (some (some (.builtin "getset_descriptor.__get__"))) && decide (PySem.W.takesIn K (.builtin "object.__class__") = some true) && decide (PySem.W.mroIn K (He.ga K (Str.ofString e.1.2)) (.type "object") = some true)))))
def tupD (K : PySem.W.Frag) (x : Str) : Bool := match K.lookup (He.ga K x) with
  | some o => decide (o.cls = .type "tuple") && o.dict.isNone
  | none => false
def tupBD (K : PySem.W.Frag) (x : Str) (vs : List He.Dv) : Bool := He.tupB K x vs && tupD K x
def cBody : Stmt → List Stmt
  | .ClassDef _ _ _ b _ _ _ _ _ _ _ => b
  | _ => []
def oexB (K : PySem.W.Frag) (C : Addr) : Bool := (match K.lookup C with
  | some ⟨.type t, _, .cls cd, sl⟩ => decide (t = "type") && ((match cd.mro with | .ref c :: bm => decide (c = C) && PySem.HandSPX.refsVE bm | _ => false) && (cd.hasDict && (!cd.hasDel && (match sl.toList with | [_, _, _, _, k, _] => k == some (.builtin "ValueError.__new__") | _ => false))))
  | _ => false) && (decide (PySem.W.findIn K (.ref C) "__setattr__" = some (some (.builtin "object.__setattr__"))) && (decide (PySem.W.subIn K (.ref C) (.type "BaseException") = some true) && (decide (PySem.W.typeIn K (.ref C) = some (.type "type")) && PySem.W.keepIn K (.ref C))))
def ccOf (K : PySem.W.Frag) (f : Addr) : Addr := match K.lookup f with
  | some ⟨_, _, .func fd, _⟩ => (match fd.closure with | [(_, c)] => c | _ => 0)
  | _ => 0
def cdOf (K : PySem.W.Frag) (f : Addr) : Addr := match K.lookup f with
  | some ⟨_, _, .func fd, _⟩ => (match fd.code with | .ref c => c | _ => 0)
  | _ => 0
def supB (K : PySem.W.Frag) (fl : Str) (C f : Addr) (qual : Str) : Bool := decide (PySem.W.findIn K (.ref C) "__init__" = some (some (.ref f))) && (decide (PySem.W.typeIn K (.ref f) = some (.type "function")) &&
  ((match K.lookup f with | some ⟨_, _, .func fd, _⟩ => (fd.code == .ref (cdOf K f)) && (fd.defaults == .none) | _ => false) && (PySem.W.codeIn K (.ref (cdOf K f)) qual &&
  ((match K.lookup (cdOf K f) with | some ⟨_, _, .fields vs, _⟩ => (match (vs[2]? : Option Value) with | some (Value.str fi _) => fl == fi | _ => false) | _ => false) &&
  ((match K.lookup (ccOf K f) with | some ⟨_, _, .cell (some (.ref D)), _⟩ => decide (D = C) | _ => false) &&
  (decide (PySem.W.nsIn K PySem.cStatics "thirdparty.any" = some none) && (decide (PySem.W.mroIn K C (.ref C) = some true) && (decide (PySem.W.ks_superIn K C C "__init__" = some (some (.builtin "ValueError.__init__"))) && decide (PySem.W.subIn K (.ref C) (.type "ValueError") = some true)))))))))
abbrev FnN : Type := Option (Str × Str × Arguments × FuncBody × Scope × Addr × List Str × Addr)
def nmCl (e : He.FnW) : FnN := e.map fun z => (z.1, z.2.1, z.2.2.1, z.2.2.2.1, z.2.2.2.2.1, z.2.2.2.2.2.1, z.2.2.2.2.2.2.1.map (·.1), z.2.2.2.2.2.2.2)
def fnN (K : PySem.W.Frag) (a : Addr) : FnN := nmCl (He5.fnA K a)
def initN (qual : Str) (prm : Arguments) (body : List Stmt) (scope : Scope) : FnN := some (("__init__" : Str), qual, prm, FuncBody.stmts body, scope, mainGlobals, [("__class__" : Str)], builtinsNs)
abbrev AlM : Type := He.AlT × Bool × List FnN
def obsM (fa : List He.Fa) (fn : List He.DefD) (ts : List He.Tab) (ex : PySem.W.Frag → Bool) (ps : List (PySem.W.Frag → Addr)) (K : PySem.W.Frag) : AlM := (He.obsT fa fn ts K, ex K, ps.map fun p => fnN K (p K))
def vlM (fn : List He.DefD) (ts : List He.Tab) (vs : List FnN) (w : World) : AlM := (He.valT fn ts w, true, vs)
structure SaysM (fa : List He.Fa) (fn : List He.DefD) (ts : List He.Tab) (ex : PySem.W.Frag → Bool) (ps : List (PySem.W.Frag → Addr)) (vs : List FnN) (w : World) (K : PySem.W.Frag) : Prop where
  t : He.SaysT fa fn ts w K
  e : ex K = true
  p : (ps.map fun p => fnN K (p K)) = vs
def rfF (fd : FuncData) : List Addr := He.refV fd.code ++ (He.refV fd.defaults ++ (He.refV fd.kwdefaults ++ fd.closure.map (·.2)))
def rfC (g : Addr → Option Obj) (a : Addr) : List Addr := match g a with
  | some ⟨_, _, .cls cd, _⟩ => [cd.ns]
  | some ⟨_, _, .func fd, _⟩ => rfF fd
  | _ => []
def rfD (g : Addr → Option Obj) (a : Addr) : List Addr := match g a with
  | some ⟨_, _, .dict es _, _⟩ => es.toList.flatMap fun e => He.refV e.val
  | _ => []
def rfM (g : Addr → Option Obj) (a : Addr) : List Addr := match g a with
  | some ⟨_, _, .func fd, _⟩ => rfF fd
  | some ⟨_, _, .fields vs, _⟩ => vs.toList.flatMap He.refV
  | _ => []
def rfP (g : Addr → Option Obj) (a : Addr) : List Addr := match g a with
  | some ⟨_, _, .func fd, _⟩ => rfF fd
  | _ => []
def asM (g : Addr → Option Obj) : List Addr :=
  let l1 := rfD g mainGlobals
  let l2 := l1.flatMap (rfC g)
  let l3 := l2.flatMap (rfD g)
  let l4 := l3.flatMap (rfM g)
  mainGlobals :: (l1 ++ (l2 ++ (l3 ++ (l4 ++ (l4.flatMap (rfP g) ++ [PySem.cStatics])))))
def gM (n : Nat) (g : Addr → Option Obj) : PySem.W.Frag := He.frG g (asM g)
def hookM (n : Nat) (fa : List He.Fa) (fn : List He.DefD) (ts : List He.Tab) (ex : PySem.W.Frag → Bool) (ps : List (PySem.W.Frag → Addr)) (vs : List FnN) : PySem.W.Hook where
  α := AlM
  obs := fun s => obsM fa fn ts ex ps (gM n s.heap.get?)
  val := fun w => vlM fn ts vs w
  says := fun w h => ∃ K : PySem.W.Frag, K.In h ∧ SaysM fa fn ts ex ps vs w K
  of := fun _ _ e => ⟨_, He.frG_in, ⟨congrArg (fun z : AlM => z.1) e, congrArg (fun z : AlM => z.2.1) e, congrArg (fun z : AlM => z.2.2) e⟩⟩
  keeps := fun _ _ _ ⟨K, hK, c⟩ k => ⟨K, PySem.W.Frag.In.keeps hK k, c⟩
end Mo
namespace Mo
open PySem PySem.W PySem.Calls PyProof.Rows L2 HandSHeadRun
abbrev ob1M (ts : List He.Tab) (ex : PySem.W.Frag → Bool) (ps : List (PySem.W.Frag → Addr)) (K : PySem.W.Frag) : List (Option (List (Option (Str × Int)))) × Bool × List FnN := (ts.map fun t => He.dicW K (t.1 K), ex K, ps.map fun p => fnN K (p K))
def RunA (r : OpenRow) (q : Program) (n : Nat) (ts : List He.Tab) (ex : PySem.W.Frag → Bool) (ps : List (PySem.W.Frag → Addr)) (vs : List FnN) (M : Nat) (loose : List PySem.Str) (w : World) : Prop :=
  ∀ os : OsState, (endF (stepQ (denQ tabQ) r.prog w) M r.prog w os).map (fun s => (looksF r.prog (boot_heap w.params) s.abs, seenQ q loose (importedModules r.prog.main.body) (fun s => xlAt q [] s && recOk r.toRowW.records s) s.abs, ob1M ts ex ps (gM n (getT s)))) = some (true, openGood q loose, (ts.map fun t => some (He.keysIn w.params t.2), true, vs))
def RunB (r : OpenRow) (n : Nat) (fa : List He.Fa) (fn : List He.DefD) (M : Nat) (w : World) : Prop :=
  ∀ os : OsState, (endF (stepQ (denQ tabQ) r.prog w) M r.prog w os).map (fun s => He.obsD fa fn (gM n (getT s))) = some (He.valD fn)
end Mo
namespace Lw
open PySem L2 Mo PySem.W PySem.Calls PyProof.Rows
def FILE : Str := "/claim/cut.py"
def tabT : OTab := [((true, "Book"), (true, "Book"), true), ((true, "Book"), (false, "list"), false), ((true, "Book"), (false, "tuple"), false), ((true, "Crew"), (true, "Book"), false), ((true, "Crew"), (false, "list"), false), ((true, "Crew"), (false, "tuple"), false), ((true, "Promise"), (true, "Book"), false), ((true, "Promise"), (false, "list"), false), ((true, "Promise"), (false, "tuple"), false), ((true, "Verdict"), (true, "Book"), false), ((true, "Verdict"), (false, "list"), false), ((true, "Verdict"), (false, "tuple"), false), ((false, "str"), (true, "Book"), false), ((false, "int"), (true, "Book"), false), ((false, "bool"), (true, "Book"), false), ((false, "list"), (true, "Book"), false), ((false, "tuple"), (true, "Book"), false), ((false, "dict"), (true, "Book"), false), ((false, "NoneType"), (true, "Book"), false)]
def top (i : Nat) : Stmt := PySem.Challenge.pw_lanesdealt_k43_whole_weakest_books.main.body.getD i (.Pass ⟨0, 0, 0, 0⟩)
abbrev s_BadBook___init__ : Stmt := (cBody (top 2)).getD 0 (.Pass ⟨0, 0, 0, 0⟩)
abbrev s_UnknownName___init__ : Stmt := (cBody (top 3)).getD 0 (.Pass ⟨0, 0, 0, 0⟩)
abbrev s__law_mixed : Stmt := top 54
abbrev s__law_row : Stmt := top 55
abbrev s__law_cell : Stmt := top 53
abbrev s__law_words : Stmt := top 56
abbrev s__law_lists : Stmt := top 62
abbrev s_Promise___init__ : Stmt := (cBody (top 38)).getD 0 (.Pass ⟨0, 0, 0, 0⟩)
abbrev s_Verdict___init__ : Stmt := (cBody (top 39)).getD 0 (.Pass ⟨0, 0, 0, 0⟩)
abbrev s_after_enter : Stmt := top 12
abbrev s_in_book : Stmt := top 10
abbrev s_after_leave : Stmt := top 13
abbrev s_after_out : Stmt := top 14
abbrev s_after_hear : Stmt := top 15
abbrev s_after_over : Stmt := top 16
abbrev s_after_read : Stmt := top 17
abbrev s_after_call : Stmt := top 18
abbrev s_after : Stmt := top 21
abbrev s_place_dealt : Stmt := top 23
abbrev s_has_answered : Stmt := top 22
abbrev s_is_awaited : Stmt := top 11
abbrev s_may_be_dealt : Stmt := top 26
abbrev s_after_deal : Stmt := top 27
abbrev s_steps : Stmt := top 28
abbrev s_owns : Stmt := top 9
abbrev s_mark_moves : Stmt := top 37
abbrev s_steady_move : Stmt := top 34
abbrev s_at_work : Stmt := top 8
abbrev s_stops : Stmt := top 32
abbrev s_is_saved : Stmt := top 31
abbrev s_norepeat_move : Stmt := top 35
abbrev s_forward_move : Stmt := top 36
abbrev s_single_move : Stmt := top 33
abbrev s_Promise___call__ : Stmt := (cBody (top 38)).getD 1 (.Pass ⟨0, 0, 0, 0⟩)
abbrev s_labels_to : Stmt := top 40
abbrev s_judge : Stmt := top 41
abbrev s_Crew___init__ : Stmt := (cBody (top 25)).getD 0 (.Pass ⟨0, 0, 0, 0⟩)
abbrev s_Crew_plain : Stmt := (cBody (top 25)).getD 1 (.Pass ⟨0, 0, 0, 0⟩)
abbrev s_first_broken : Stmt := top 43
abbrev s_at_most : Stmt := top 50
abbrev s_Book___le__ : Stmt := (cBody (top 51)).getD 2 (.Pass ⟨0, 0, 0, 0⟩)
abbrev s_Book___eq__ : Stmt := (cBody (top 51)).getD 1 (.Pass ⟨0, 0, 0, 0⟩)
abbrev s_weakest : Stmt := top 44
abbrev s_Book___init__ : Stmt := (cBody (top 51)).getD 0 (.Pass ⟨0, 0, 0, 0⟩)
abbrev s__law_book : Stmt := top 57
abbrev s__law_words_of : Stmt := top 63
abbrev s__law_form : Stmt := top 58
abbrev s__law_broken : Stmt := top 61
abbrev s__law_at_most : Stmt := top 60
abbrev s__law_breaks : Stmt := top 59
abbrev s__law_row_right : Stmt := top 64
abbrev s_law : Stmt := top 65
def fnL : List He.DefD := [⟨("_law_mixed", none), "_law_mixed", "_law_mixed", defArgs s__law_mixed, defBody s__law_mixed, defScope s__law_mixed, [], []⟩,
  ⟨("_law_row", none), "_law_row", "_law_row", defArgs s__law_row, defBody s__law_row, defScope s__law_row, [], []⟩,
  ⟨("_law_cell", none), "_law_cell", "_law_cell", defArgs s__law_cell, defBody s__law_cell, defScope s__law_cell, [], []⟩,
  ⟨("_law_words", none), "_law_words", "_law_words", defArgs s__law_words, defBody s__law_words, defScope s__law_words, [], []⟩,
  ⟨("_law_lists", none), "_law_lists", "_law_lists", defArgs s__law_lists, defBody s__law_lists, defScope s__law_lists, [], []⟩,
  ⟨("Promise", some "__init__"), "__init__", "Promise.__init__", defArgs s_Promise___init__, defBody s_Promise___init__, defScope s_Promise___init__, [], []⟩,
  ⟨("Verdict", some "__init__"), "__init__", "Verdict.__init__", defArgs s_Verdict___init__, defBody s_Verdict___init__, defScope s_Verdict___init__, [], []⟩,
  ⟨("after_enter", none), "after_enter", "after_enter", defArgs s_after_enter, defBody s_after_enter, defScope s_after_enter, [], []⟩,
  ⟨("in_book", none), "in_book", "in_book", defArgs s_in_book, defBody s_in_book, defScope s_in_book, [], []⟩,
  ⟨("after_leave", none), "after_leave", "after_leave", defArgs s_after_leave, defBody s_after_leave, defScope s_after_leave, [], []⟩,
  ⟨("after_out", none), "after_out", "after_out", defArgs s_after_out, defBody s_after_out, defScope s_after_out, [], []⟩,
  ⟨("after_hear", none), "after_hear", "after_hear", defArgs s_after_hear, defBody s_after_hear, defScope s_after_hear, [], []⟩,
  ⟨("after_over", none), "after_over", "after_over", defArgs s_after_over, defBody s_after_over, defScope s_after_over, [], []⟩,
  ⟨("after_read", none), "after_read", "after_read", defArgs s_after_read, defBody s_after_read, defScope s_after_read, [], []⟩,
  ⟨("after_call", none), "after_call", "after_call", defArgs s_after_call, defBody s_after_call, defScope s_after_call, [], []⟩,
  ⟨("after", none), "after", "after", defArgs s_after, defBody s_after, defScope s_after, [], []⟩,
  ⟨("place_dealt", none), "place_dealt", "place_dealt", defArgs s_place_dealt, defBody s_place_dealt, defScope s_place_dealt, [], []⟩,
  ⟨("has_answered", none), "has_answered", "has_answered", defArgs s_has_answered, defBody s_has_answered, defScope s_has_answered, [], []⟩,
  ⟨("is_awaited", none), "is_awaited", "is_awaited", defArgs s_is_awaited, defBody s_is_awaited, defScope s_is_awaited, [], []⟩,
  ⟨("may_be_dealt", none), "may_be_dealt", "may_be_dealt", defArgs s_may_be_dealt, defBody s_may_be_dealt, defScope s_may_be_dealt, [], []⟩,
  ⟨("after_deal", none), "after_deal", "after_deal", defArgs s_after_deal, defBody s_after_deal, defScope s_after_deal, [], []⟩,
  ⟨("steps", none), "steps", "steps", defArgs s_steps, defBody s_steps, defScope s_steps, [], []⟩,
  ⟨("owns", none), "owns", "owns", defArgs s_owns, defBody s_owns, defScope s_owns, [], []⟩,
  ⟨("mark_moves", none), "mark_moves", "mark_moves", defArgs s_mark_moves, defBody s_mark_moves, defScope s_mark_moves, [], []⟩,
  ⟨("steady_move", none), "steady_move", "steady_move", defArgs s_steady_move, defBody s_steady_move, defScope s_steady_move, [], []⟩,
  ⟨("at_work", none), "at_work", "at_work", defArgs s_at_work, defBody s_at_work, defScope s_at_work, [], []⟩,
  ⟨("stops", none), "stops", "stops", defArgs s_stops, defBody s_stops, defScope s_stops, [], []⟩,
  ⟨("is_saved", none), "is_saved", "is_saved", defArgs s_is_saved, defBody s_is_saved, defScope s_is_saved, [], []⟩,
  ⟨("norepeat_move", none), "norepeat_move", "norepeat_move", defArgs s_norepeat_move, defBody s_norepeat_move, defScope s_norepeat_move, [], []⟩,
  ⟨("forward_move", none), "forward_move", "forward_move", defArgs s_forward_move, defBody s_forward_move, defScope s_forward_move, [], []⟩,
  ⟨("single_move", none), "single_move", "single_move", defArgs s_single_move, defBody s_single_move, defScope s_single_move, [], []⟩,
  ⟨("Promise", some "__call__"), "__call__", "Promise.__call__", defArgs s_Promise___call__, defBody s_Promise___call__, defScope s_Promise___call__, [], []⟩,
  ⟨("labels_to", none), "labels_to", "labels_to", defArgs s_labels_to, defBody s_labels_to, defScope s_labels_to, [], []⟩,
  ⟨("judge", none), "judge", "judge", defArgs s_judge, defBody s_judge, defScope s_judge, [], []⟩,
  ⟨("Crew", some "__init__"), "__init__", "Crew.__init__", defArgs s_Crew___init__, defBody s_Crew___init__, defScope s_Crew___init__, [], []⟩,
  ⟨("first_broken", none), "first_broken", "first_broken", defArgs s_first_broken, defBody s_first_broken, defScope s_first_broken, [], []⟩,
  ⟨("at_most", none), "at_most", "at_most", defArgs s_at_most, defBody s_at_most, defScope s_at_most, [], []⟩,
  ⟨("Book", some "__le__"), "__le__", "Book.__le__", defArgs s_Book___le__, defBody s_Book___le__, defScope s_Book___le__, [], []⟩,
  ⟨("Book", some "__eq__"), "__eq__", "Book.__eq__", defArgs s_Book___eq__, defBody s_Book___eq__, defScope s_Book___eq__, [], []⟩,
  ⟨("weakest", none), "weakest", "weakest", defArgs s_weakest, defBody s_weakest, defScope s_weakest, [], []⟩,
  ⟨("Book", some "__init__"), "__init__", "Book.__init__", defArgs s_Book___init__, defBody s_Book___init__, defScope s_Book___init__, [], [("stop", (.str "asked")), ("move", (.str "once")), ("out", (.str "once")), ("marks", (.str "any"))]⟩,
  ⟨("_law_book", none), "_law_book", "_law_book", defArgs s__law_book, defBody s__law_book, defScope s__law_book, [], []⟩,
  ⟨("_law_words_of", none), "_law_words_of", "_law_words_of", defArgs s__law_words_of, defBody s__law_words_of, defScope s__law_words_of, [], []⟩,
  ⟨("_law_form", none), "_law_form", "_law_form", defArgs s__law_form, defBody s__law_form, defScope s__law_form, [], []⟩,
  ⟨("_law_broken", none), "_law_broken", "_law_broken", defArgs s__law_broken, defBody s__law_broken, defScope s__law_broken, [], []⟩,
  ⟨("_law_at_most", none), "_law_at_most", "_law_at_most", defArgs s__law_at_most, defBody s__law_at_most, defScope s__law_at_most, [], []⟩,
  ⟨("_law_breaks", none), "_law_breaks", "_law_breaks", defArgs s__law_breaks, defBody s__law_breaks, defScope s__law_breaks, [], []⟩,
  ⟨("_law_row_right", none), "_law_row_right", "_law_row_right", defArgs s__law_row_right, defBody s__law_row_right, defScope s__law_row_right, [], []⟩,
  ⟨("law", none), "law", "law", defArgs s_law, defBody s_law, defScope s_law, [], []⟩]
def dA_Crew_plain : He5.DefA := ⟨fun K => (He5.wf K (He.ga K "Crew") "classmethod" "plain"), "plain", "Crew.plain", defArgs s_Crew_plain, defBody s_Crew_plain, defScope s_Crew_plain, [], []⟩
def faL : List He.Fa := [.glo "AT_WORK", .glo "BadBook", .glo "Book", .glo "CHANGES", .glo "Crew", .glo "IN_BOOK", .glo "MARKS", .glo "MOVES", .glo "OUTS", .glo "OWNERS", .glo "PROMISES", .glo "Promise", .glo "STEP_WORDS", .glo "STOPS", .glo "UnknownName", .glo "Verdict", .glo "_law_at_most", .glo "_law_book", .glo "_law_breaks", .glo "_law_broken", .glo "_law_cell", .glo "_law_form", .glo "_law_lists", .glo "_law_mixed", .glo "_law_row", .glo "_law_row_right", .glo "_law_words", .glo "_law_words_of", .glo "after", .glo "after_call", .glo "after_deal", .glo "after_enter", .glo "after_hear", .glo "after_leave", .glo "after_out", .glo "after_over", .glo "after_read", .glo "at_most", .glo "at_work", .glo "first_broken", .glo "forward_move", .glo "has_answered", .glo "in_book", .glo "is_awaited", .glo "is_saved", .glo "judge", .glo "labels_to", .glo "law", .glo "mark_moves", .glo "may_be_dealt", .glo "norepeat_move", .glo "owns", .glo "place_dealt", .glo "single_move", .glo "steady_move", .glo "steps", .glo "stops", .glo "weakest", .free "abs", .free "enumerate", .free "int", .free "isinstance", .free "len", .free "list", .free "range", .free "sorted", .free "super", .free "tuple", .cls "Book", .cls "Crew", .cls "Promise", .cls "Verdict", .noat "Book" "marks", .noat "Book" "move", .noat "Book" "out", .noat "Book" "pairs", .noat "Book" "stop", .noat "Crew" "first", .noat "Crew" "head", .noat "Crew" "second", .noat "Promise" "name", .noat "Verdict" "kept", .noat "Verdict" "run", .noat "Verdict" "table", .meth "Book" "__eq__", .meth "Book" "__le__", .meth "Promise" "__call__", .mkr "Book", .mkr "Crew", .mkr "Promise", .mkr "Verdict"]
def tsL : List He.Tab := [(fun K => He.ga K "CHANGES", ["enter", "leave", "out", "hear", "over", "read", "call"])]
def exL (K : PySem.W.Frag) : Bool := tupBD K "AT_WORK" [.str "works", .str "late", .str "ghost", .str "ghost+"] && (tupBD K "IN_BOOK" [.str "idle", .str "dealt", .str "works", .str "late", .str "rests"] && (tupBD K "MARKS" [.str "any", .str "owner", .str "given"] && (tupBD K "MOVES" [.str "once", .str "back"] && (tupBD K "OUTS" [.str "once", .str "wait"] && (tupBD K "OWNERS" [.str "dealt", .str "works", .str "rests"] && (tupBD K "PROMISES" [.str "single", .str "calm", .str "steady", .str "norepeat", .str "forward"] && (tupBD K "STEP_WORDS" [.str "enter", .str "leave", .str "out", .str "hear", .str "over", .str "read", .str "call"] && (tupBD K "STOPS" [.str "asked", .str "all"] && (He.valsB K (He.ga K "CHANGES") [("enter", .glo "after_enter"), ("leave", .glo "after_leave"), ("out", .glo "after_out"), ("hear", .glo "after_hear"), ("over", .glo "after_over"), ("read", .glo "after_read"), ("call", .glo "after_call")] && (isiB K tabT && (dA_Crew_plain.ok K && (PySem.W.readsIn K (He.ga K "Crew") (.type "type") && (He5.wrapB K (He.ga K "Crew") "classmethod" "classmethod.__get__" "plain" && (PySem.W.fnIn K (He5.wf K (He.ga K "Crew") "classmethod" "plain") && (oexB K (He.ga K "BadBook") && (supB K FILE (He.ga K "BadBook") (He.fAd K ("BadBook", some "__init__")) "BadBook.__init__" && (decide (PySem.W.findIn K (.ref (He.ga K "BadBook")) "option" = some none) && (oexB K (He.ga K "UnknownName") && (supB K FILE (He.ga K "UnknownName") (He.fAd K ("UnknownName", some "__init__")) "UnknownName.__init__" && (decide (PySem.W.findIn K (.ref (He.ga K "UnknownName")) "name" = some none)))))))))))))))))))))
def psL : List (PySem.W.Frag → Addr) := [fun K => dA_Crew_plain.at_ K,
  fun K => He.fAd K ("BadBook", some "__init__"),
  fun K => He.fAd K ("UnknownName", some "__init__")]
def vsL : List FnN := [nmCl dA_Crew_plain.val,
  initN "BadBook.__init__" (defArgs s_BadBook___init__) (defBody s_BadBook___init__) (defScope s_BadBook___init__),
  initN "UnknownName.__init__" (defArgs s_UnknownName___init__) (defBody s_UnknownName___init__) (defScope s_UnknownName___init__)]
abbrev rowL : OpenRow := OpenLaw.row PySem.Challenge.rw_lanesdealt_k43_whole_weakest_books
abbrev viewL : Program := view rowL.prog [65]
def nmL0 : List Str := ["__name__", "LaneError", "BadBook", "UnknownName", "IN_BOOK", "AT_WORK", "OWNERS", "at_work", "owns", "in_book", "is_awaited", "after_enter", "after_leave", "after_out", "after_hear", "after_over", "after_read", "after_call", "STEP_WORDS", "CHANGES", "after", "has_answered", "place_dealt", "Crew"]
def nmL1 : List Str := ["may_be_dealt", "after_deal", "steps", "PROMISES", "is_saved", "stops", "single_move", "steady_move", "norepeat_move", "forward_move", "mark_moves", "Promise", "Verdict", "labels_to", "judge", "first_broken", "weakest", "STOPS", "MOVES", "OUTS", "MARKS", "at_most", "Book", "_law_cell"]
def nmL2 : List Str := ["_law_mixed", "_law_row", "_law_words", "_law_book", "_law_form", "_law_breaks", "_law_at_most", "_law_broken", "_law_lists", "_law_words_of", "_law_row_right"]
def nmL : List Str := nmL0 ++ nmL1 ++ nmL2
abbrev hkL : PySem.W.Hook := hookM 5 faL fnL tsL exL psL vsL
def obL (s : PySem.W.SharedT) : AlM := obsM faL fnL tsL exL psL (gM 5 (HandSHeadRun.getT s))
theorem runF1 (w : World) : RunA rowL viewL 5 tsL exL psL vsL 9500 nmL (w.withFollow "special-get-raises" false) := by
  intro os
  kernel_rfl
theorem runF2 (w : World) : RunB rowL 5 faL fnL 9500 (w.withFollow "special-get-raises" false) := by
  intro os
  kernel_rfl
theorem runT1 (w : World) : RunA rowL viewL 5 tsL exL psL vsL 9500 nmL (w.withFollow "special-get-raises" true) := by
  intro os
  kernel_rfl
theorem runT2 (w : World) : RunB rowL 5 faL fnL 9500 (w.withFollow "special-get-raises" true) := by
  intro os
  kernel_rfl
end Lw
namespace Mo
open PySem L2
inductive MV where
  | non | bl (b : Bool) | int (i : Int) | str (x : Str) | byt (b : Array UInt8)
  | tup (xs : List MV) | ktp (xs : List MV) | frl (xs : List MV) | ref (i : Nat) | glo (s : String) | ty (n : String) | exa (a d k : Nat)
  deriving Inhabited
inductive MO where
  | lst (xs : List MV)
  | dk (kvs : List (Key × MV)) | dt (kvs : List (List Key × MV))
  | ins (c : String) (fs : List (Str × MV))
  | xd (c : String) (fs : List (Str × MV))
  | dx (hs : List Key → Int) (ks : List (List Key))
  | fdk (od : Obj) (vs : List (Key × V)) (kvs : List (Key × MV))
  deriving Inhabited
abbrev MH := List MO
abbrev Lo := List (Option MV)
structure MX where
  c : String
  fs : List (Str × MV)
inductive Rz (α : Type) where
  | ok (v : α) (h : MH) | err (e : MX) (h : MH) | no
def Rz.bnd {α β : Type} (r : Rz α) (k : α → MH → Rz β) : Rz β := match r with
  | .ok v h => k v h
  | .err e h => .err e h
  | .no => .no
abbrev MR := Rz MV
inductive SR where
  | nx (s : Lo) (h : MH) | rt (v : MV) (h : MH) | bk (s : Lo) (h : MH) | ct (s : Lo) (h : MH) | err (e : MX) (s : Lo) (h : MH) | no
abbrev ME := Lo → MH → Rz MV
abbrev MEs := Lo → MH → Rz (List MV)
abbrev MB := Lo → MH → Rz Bool
abbrev MS := Lo → MH → SR
abbrev MF := List MV → MH → Rz MV
def FrL (K : PySem.W.Frag) (H : Hp) (a : Addr) (xs : List V) : Prop :=
  (∃ o, H a = some (.frz o (.lst xs))) ∨
    ∃ (o : Obj) (its : Array Value) (n : Nat), K.lookup a = some o ∧ o.cls = .type "list" ∧ o.dict = none ∧ o.data = .seq its n ∧ its.size ≤ sizeLine ∧ Vals xs its.toList
theorem FrL.sq {K : PySem.W.Frag} {H : Hp} {a : Addr} {xs : List V} (h : FrL K H a xs) : SqL K H a xs := by
  rcases h with h | h
  · exact .inl (.inr h)
  · exact .inr h
def KtT (K : PySem.W.Frag) (a : Addr) (xs : List V) : Prop :=
  (∃ (o : Obj) (its : Array Value) (n : Nat), K.lookup a = some o ∧ o.cls = .type "tuple" ∧ o.data = .seq its n ∧ its.size ≤ sizeLine ∧ Vals xs its.toList) ∧ ∃ o : Obj, K.lookup a = some o ∧ o.cls = .type "tuple" ∧ o.dict = none
theorem KtT.sq {K : PySem.W.Frag} {H : Hp} {a : Addr} {xs : List V} (h : KtT K a xs) : SqT K H a xs := .inr h.1
mutual
def VR (K : PySem.W.Frag) (G : String → Option V) (ρ : List Addr) (H : Hp) : MV → V → Prop
  | .non, v => v = .non
  | .bl b, v => v = .bl b
  | .int i, v => v = .int i
  | .str x, v => v = .str x
  | .byt b, v => v = .byt b
  | .tup xs, v => ∃ a vs, v = .ref a ∧ H a = some (.tup vs) ∧ VRs K G ρ H xs vs
  | .ktp xs, v => ∃ a vs, v = .ref a ∧ KtT K a vs ∧ VRs K G ρ H xs vs
  | .frl xs, v => ∃ a vs, v = .ref a ∧ FrL K H a vs ∧ VRs K G ρ H xs vs
  | .ref i, v => ∃ a, v = .ref a ∧ ρ[i]? = some a
  | .glo s, v => G s = some v ∧ ∃ C, v = .ref C
  | .ty n, v => v = .ty n
  | .exa a d k, v => v = .ref a ∧ ρ[k]? = some d
def VRs (K : PySem.W.Frag) (G : String → Option V) (ρ : List Addr) (H : Hp) : List MV → List V → Prop
  | [], vs => vs = []
  | x :: xs, vs => ∃ v r, vs = v :: r ∧ VR K G ρ H x v ∧ VRs K G ρ H xs r
end
def KRs (K : PySem.W.Frag) (G : String → Option V) (ρ : List Addr) (H : Hp) {κ κ' : Type} (j : κ → κ') : List (κ × MV) → List (κ' × V) → Prop
  | [], vs => vs = []
  | x :: xs, vs => ∃ v r, vs = (j x.1, v) :: r ∧ VR K G ρ H x.2 v ∧ KRs K G ρ H j xs r
abbrev FRs (K : PySem.W.Frag) (G : String → Option V) (ρ : List Addr) (H : Hp) : List (Str × MV) → List (Str × V) → Prop := KRs K G ρ H id
def dxP (hs : List Key → Int) (a : Addr) (xs : List (List Key × Addr)) (h : Heap) : Prop := (a == sysModules) = false ∧ xs.length ≤ sizeLine ∧ (xs.map (·.1)).Nodup ∧
  ∃ o es ep, h.get? a = some o ∧ o.ExactDict ∧ o.data = .dict es ep ∧ es.toList = xs.map fun x => ⟨hs x.1, .ref x.2, .bool true⟩
def KeyAt (K : PySem.W.Frag) (H : Hp) (b : Addr) (ks : List Key) : Prop := H b = some (.tup (ks.map kV)) ∨ KtT K b (ks.map kV)
def OR (K : PySem.W.Frag) (G : String → Option V) (ρ : List Addr) (H : Hp) (a : Addr) : MO → Prop
  | .lst xs => ∃ vs, H a = some (.lst vs) ∧ VRs K G ρ H xs vs
  | .dk kvs => ∃ vs, H a = some (.dK vs) ∧ KRs K G ρ H id kvs vs
  | .dt kvs => ∃ vs, H a = some (.dT vs) ∧ KRs K G ρ H id kvs vs
  | .ins c fs => ∃ C dx vs, G c = some (.ref C) ∧ H a = some (.ins C dx vs) ∧ FRs K G ρ H fs vs
  | .xd _ fs => ∃ vs, H a = some (.xd vs) ∧ FRs K G ρ H fs vs
  | .dx hs ks => ∃ xs, H a = some (.ext (dxP hs a xs)) ∧ xs.map (·.1) = ks ∧ ∀ x ∈ xs, KeyAt K H x.2 x.1
  | .fdk od vs kvs => H a = some (.frz od (.dK vs)) ∧ KRs K G ρ H id kvs vs
structure Ext (K : PySem.W.Frag) (ρ : List Addr) (H : Hp) (ρ' : List Addr) (H' : Hp) : Prop where
  pre : ∃ t, ρ' = ρ ++ t
  tup : ∀ a vs, H a = some (.tup vs) → H' a = some (.tup vs)
  frl : ∀ a vs, FrL K H a vs → FrL K H' a vs
structure HR (K : PySem.W.Frag) (G : String → Option V) (ρ : List Addr) (H : Hp) (mh : MH) : Prop where
  len : ρ.length = mh.length
  nd : ρ.Nodup
  obj : ∀ (i : Nat) (o : MO), mh[i]? = some o → ∃ a, ρ[i]? = some a ∧ OR K G ρ H a o
def SRl (K : PySem.W.Frag) (G : String → Option V) (ρ : List Addr) (H : Hp) (sm : Lo) (σ : St) : Prop :=
  sm.length = σ.length ∧ ∀ (i : Nat) (x : MV), sm[i]? = some (some x) → ∃ v, σ[i]? = some (some v) ∧ VR K G ρ H x v
structure Rl (K : PySem.W.Frag) (G : String → Option V) (ρ : List Addr) (H : Hp) (sm : Lo) (σ : St) (mh : MH) : Prop where
  hr : HR K G ρ H mh
  sr : SRl K G ρ H sm σ
def ER (K : PySem.W.Frag) (G : String → Option V) (ρ : List Addr) (H : Hp) (e : MX) (cls : Value) (d : Option Addr) : Prop :=
  ∃ C a vs, G e.c = some (.ref C) ∧ cls = .ref C ∧ d = some a ∧ a ∉ ρ ∧ H a = some (.xd vs) ∧ FRs K G ρ H e.fs vs
theorem Ext.refl {K : PySem.W.Frag} {ρ : List Addr} {H : Hp} : Ext K ρ H ρ H := ⟨⟨[], by simp⟩, fun _ _ h => h, fun _ _ h => h⟩
theorem Ext.trans {K : PySem.W.Frag} {ρ ρ1 ρ2 : List Addr} {H H1 H2 : Hp} (a : Ext K ρ H ρ1 H1) (b : Ext K ρ1 H1 ρ2 H2) : Ext K ρ H ρ2 H2 := by
  obtain ⟨⟨t, e⟩, f, g⟩ := a
  obtain ⟨⟨u, e'⟩, f', g'⟩ := b
  exact ⟨⟨t ++ u, by rw [e', e, List.append_assoc]⟩, fun a vs h => f' a vs (f a vs h), fun a vs h => g' a vs (g a vs h)⟩
theorem Ext.at {K : PySem.W.Frag} {ρ ρ1 : List Addr} {H H1 : Hp} (x : Ext K ρ H ρ1 H1) {i : Nat} {a : Addr} (h : ρ[i]? = some a) : ρ1[i]? = some a := by
  obtain ⟨⟨t, e⟩, _, _⟩ := x
  rw [e]
  exact (List.getElem?_append_left (List.getElem?_eq_some_iff.mp h).1).trans h
section
variable {K : PySem.W.Frag} {G : String → Option V} {ρ ρ1 : List Addr} {H H1 : Hp}
mutual
theorem VR.ext (x : Ext K ρ H ρ1 H1) : ∀ {m : MV} {v : V}, VR K G ρ H m v → VR K G ρ1 H1 m v
  | .non, _, h => by simpa [VR] using h
  | .bl _, _, h => by simpa [VR] using h
  | .int _, _, h => by simpa [VR] using h
  | .str _, _, h => by simpa [VR] using h
  | .byt _, _, h => by simpa [VR] using h
  | .glo _, _, h => by simpa [VR] using h
  | .ty _, _, h => by simpa [VR] using h
  | .exa _ _ _, _, h => by
    simp only [VR] at h ⊢
    exact ⟨h.1, x.at h.2⟩
  | .ref _, _, h => by
    simp only [VR] at h ⊢
    obtain ⟨a, e, q⟩ := h
    exact ⟨a, e, x.at q⟩
  | .tup xs, _, h => by
    simp only [VR] at h ⊢
    obtain ⟨a, vs, e, q, r⟩ := h
    exact ⟨a, vs, e, x.tup a vs q, VRs.ext x r⟩
  | .ktp xs, _, h => by
    simp only [VR] at h ⊢
    obtain ⟨a, vs, e, q, r⟩ := h
    exact ⟨a, vs, e, q, VRs.ext x r⟩
  | .frl xs, _, h => by
    simp only [VR] at h ⊢
    obtain ⟨a, vs, e, q, r⟩ := h
    exact ⟨a, vs, e, x.frl _ _ q, VRs.ext x r⟩
theorem VRs.ext (x : Ext K ρ H ρ1 H1) : ∀ {ms : List MV} {vs : List V}, VRs K G ρ H ms vs → VRs K G ρ1 H1 ms vs
  | [], _, h => by simpa [VRs] using h
  | m :: ms, _, h => by
    simp only [VRs] at h ⊢
    obtain ⟨v, r, e, q, t⟩ := h
    exact ⟨v, r, e, VR.ext x q, VRs.ext x t⟩
end
theorem KRs.ext {κ κ' : Type} {j : κ → κ'} (x : Ext K ρ H ρ1 H1) : ∀ {ms : List (κ × MV)} {vs : List (κ' × V)}, KRs K G ρ H j ms vs → KRs K G ρ1 H1 j ms vs
  | [], _, h => h
  | m :: ms, _, h => by
    obtain ⟨v, r, e, q, t⟩ := h
    exact ⟨v, r, e, VR.ext x q, KRs.ext x t⟩
theorem SRl.ext {sm : Lo} {σ : St} (x : Ext K ρ H ρ1 H1) (h : SRl K G ρ H sm σ) : SRl K G ρ1 H1 sm σ :=
  ⟨h.1, fun i m e => let ⟨v, a, b⟩ := h.2 i m e; ⟨v, a, b.ext x⟩⟩
end
section
variable (K : PySem.W.Frag) (G : String → Option V)
def RO {α : Type} (W : WX) (σ : St) (P : α → List Addr → Hp → Prop) (ρ : List Addr) (H : Hp) : Rz α → Prop
  | .ok v mh1 => ∀ ρ1 H1, Ext K ρ H ρ1 H1 → HR K G ρ1 H1 mh1 → P v ρ1 H1
  | .err e mh1 => ∀ ρ1 H1 cls d, Ext K ρ H ρ1 H1 → HR K G ρ1 H1 mh1 → ER K G ρ1 H1 e cls d → W cls d σ H1
  | .no => False
abbrev PV (Q : VK) : MV → List Addr → Hp → Prop := fun v ρ1 H1 => ∀ v1, VR K G ρ1 H1 v v1 → Q v1 H1
abbrev PB (Q : Bool → Hp → Prop) : Bool → List Addr → Hp → Prop := fun b _ H1 => Q b H1
abbrev PVs (Q : List V → Hp → Prop) : List MV → List Addr → Hp → Prop := fun v ρ1 H1 => ∀ v1, VRs K G ρ1 H1 v v1 → Q v1 H1
def RE (W : WX) (m : ME) : TE := fun σ H Q => ∃ ρ sm mh, Rl K G ρ H sm σ mh ∧ RO K G W σ (PV K G Q) ρ H (m sm mh)
def RT (W : WX) (m : MB) : TT := fun σ H Q => ∃ ρ sm mh, Rl K G ρ H sm σ mh ∧ RO K G W σ (PB Q) ρ H (m sm mh)
def RA (W : WX) (m : MEs) : TA := fun σ H Q => ∃ ρ sm mh, Rl K G ρ H sm σ mh ∧ RO K G W σ (PVs K G Q) ρ H (m sm mh)
def RSE (W : WX) (D : Ends) (ρ : List Addr) (H : Hp) (r : SR) : Prop :=
  match r with
  | .nx sm1 mh1 => ∀ ρ1 H1 σ1, Ext K ρ H ρ1 H1 → HR K G ρ1 H1 mh1 → SRl K G ρ1 H1 sm1 σ1 → D.nx σ1 H1
  | .bk sm1 mh1 => ∀ ρ1 H1 σ1, Ext K ρ H ρ1 H1 → HR K G ρ1 H1 mh1 → SRl K G ρ1 H1 sm1 σ1 → D.bk σ1 H1
  | .ct sm1 mh1 => ∀ ρ1 H1 σ1, Ext K ρ H ρ1 H1 → HR K G ρ1 H1 mh1 → SRl K G ρ1 H1 sm1 σ1 → D.ct σ1 H1
  | .rt v mh1 => ∀ ρ1 H1 v1, Ext K ρ H ρ1 H1 → HR K G ρ1 H1 mh1 → VR K G ρ1 H1 v v1 → D.rt v1 H1
  | .err e sm1 mh1 => ∀ ρ1 H1 σ1 cls d, Ext K ρ H ρ1 H1 → HR K G ρ1 H1 mh1 → SRl K G ρ1 H1 sm1 σ1 → ER K G ρ1 H1 e cls d → W cls d σ1 H1
  | .no => False
def RS (W : WX) (m : MS) : TS := fun D σ H => ∃ ρ sm mh, Rl K G ρ H sm σ mh ∧ RSE K G W D ρ H (m sm mh)
def SpM (n : Nat) (f : MF) : Sp := fun vs H Q E => ∃ ρ xs mh, HR K G ρ H mh ∧ VRs K G ρ H xs vs ∧ vs.length = n ∧ RO K G (fun cls d _ H => E cls d H) [] (PV K G Q) ρ H (f xs mh)
end
theorem RSE.mono {K : PySem.W.Frag} {G : String → Option V} {W : WX} {D : Ends} {ρ ρ1 : List Addr} {H H1 : Hp} {r : SR} (x : Ext K ρ H ρ1 H1) (h : RSE K G W D ρ H r) : RSE K G W D ρ1 H1 r := by
  cases r with
  | nx s m => exact fun ρ2 H2 σ1 e a b => h ρ2 H2 σ1 (x.trans e) a b
  | bk s m => exact fun ρ2 H2 σ1 e a b => h ρ2 H2 σ1 (x.trans e) a b
  | ct s m => exact fun ρ2 H2 σ1 e a b => h ρ2 H2 σ1 (x.trans e) a b
  | rt v m => exact fun ρ2 H2 σ1 e a b => h ρ2 H2 σ1 (x.trans e) a b
  | err v s m => exact fun ρ2 H2 σ1 c d e a b => h ρ2 H2 σ1 c d (x.trans e) a b
  | no => exact h
section
variable {X : Cx} {e : Expr} {es : List Expr} {st : Stmt} {sts : List Stmt}
theorem pe_imp {t t' : TE} (h : PE X e t) (i : ∀ σ H Q, t' σ H Q → t σ H Q) : PE X e t' := ⟨fun pins s σ H Q I q => h.run pins s σ H Q I (i σ H Q q)⟩
theorem pe_alt {t t' : TE} (h : PE X e t) (h' : PE X e t') : PE X e (fun σ H Q => t σ H Q ∨ t' σ H Q) :=
  ⟨fun pins s σ H Q I q => q.elim (fun q => h.run pins s σ H Q I q) fun q => h'.run pins s σ H Q I q⟩
theorem pt_imp {t t' : TT} (h : PT X e t) (i : ∀ σ H Q, t' σ H Q → t σ H Q) : PT X e t' := ⟨fun pins s σ H Q I q => h.run pins s σ H Q I (i σ H Q q)⟩
theorem pa_imp {t t' : TA} (h : PA X es t) (i : ∀ σ H Q, t' σ H Q → t σ H Q) : PA X es t' := ⟨fun pos pins s σ H Q I q => h.run pos pins s σ H Q I (i σ H Q q)⟩
theorem ps_imp {t t' : TS} (h : PS X st t) (i : ∀ D σ H, t' D σ H → t D σ H) : PS X st t' := ⟨fun pins s σ H D I q => h.run pins s σ H D I (i D σ H q)⟩
theorem pss_imp {t t' : TS} (h : PSs X sts t) (i : ∀ D σ H, t' D σ H → t D σ H) : PSs X sts t' := ⟨fun pins s σ H D I q => h.run pins s σ H D I (i D σ H q)⟩
end
section
variable {K : PySem.W.Frag} {G : String → Option V} {W : WX} {ρ : List Addr} {H : Hp} {sm : Lo} {σ : St} {mh : MH}
theorem Rl.at {ρ1 : List Addr} {H1 : Hp} {mh1 : MH} (r : Rl K G ρ H sm σ mh) (x : Ext K ρ H ρ1 H1) (h : HR K G ρ1 H1 mh1) : Rl K G ρ1 H1 sm σ mh1 := ⟨h, r.sr.ext x⟩
theorem RO.mono {α : Type} {P P1 : α → List Addr → Hp → Prop} {ρ1 : List Addr} {H1 : Hp} {r : Rz α} (h : RO K G W σ P ρ H r) (x : Ext K ρ H ρ1 H1) (hp : ∀ v ρ H, P v ρ H → P1 v ρ H) : RO K G W σ P1 ρ1 H1 r := by
  cases r with
  | ok v m => exact fun ρ2 H2 e a => hp _ _ _ (h ρ2 H2 (x.trans e) a)
  | err v m => exact fun ρ2 H2 c d e a b => h ρ2 H2 c d (x.trans e) a b
  | no => exact h
theorem RO.ext {α : Type} {P : α → List Addr → Hp → Prop} {ρ1 : List Addr} {H1 : Hp} {r : Rz α} (h : RO K G W σ P ρ H r) (x : Ext K ρ H ρ1 H1) : RO K G W σ P ρ1 H1 r := h.mono x fun _ _ _ z => z
theorem RO.bnd {α β : Type} {P : β → List Addr → Hp → Prop} {a : Rz α} {k : α → MH → Rz β} (h : RO K G W σ P ρ H (a.bnd k)) :
    RO K G W σ (fun v ρ1 H1 => ∃ mh1, Ext K ρ H ρ1 H1 ∧ HR K G ρ1 H1 mh1 ∧ RO K G W σ P ρ1 H1 (k v mh1)) ρ H a := by
  cases a with
  | ok v m => exact fun ρ1 H1 x hr => ⟨m, x, hr, RO.ext h x⟩
  | err e m => exact h
  | no => exact h
theorem RO.ok {α : Type} {P : α → List Addr → Hp → Prop} {v : α} {mh1 : MH} (h : RO K G W σ P ρ H (.ok v mh1)) (hr : HR K G ρ H mh1) : P v ρ H := h ρ H Ext.refl hr
theorem re_bnd {β : Type} {P : β → List Addr → Hp → Prop} {m : ME} {k : MV → MH → Rz β} {Q : VK} (r : Rl K G ρ H sm σ mh) (h : RO K G W σ P ρ H ((m sm mh).bnd k))
    (hq : ∀ v ρ1 H1 mh1 x, Ext K ρ H ρ1 H1 → Rl K G ρ1 H1 sm σ mh1 → VR K G ρ1 H1 v x → RO K G W σ P ρ1 H1 (k v mh1) → Q x H1) : RE K G W m σ H Q :=
  ⟨ρ, sm, mh, r, h.bnd.mono Ext.refl fun v ρ1 H1 ⟨mh1, x, hr, z⟩ x1 rv => hq v ρ1 H1 mh1 x1 x (r.at x hr) rv z⟩
theorem rt_bnd {β : Type} {P : β → List Addr → Hp → Prop} {m : MB} {k : Bool → MH → Rz β} {Q : Bool → Hp → Prop} (r : Rl K G ρ H sm σ mh) (h : RO K G W σ P ρ H ((m sm mh).bnd k))
    (hq : ∀ v ρ1 H1 mh1, Ext K ρ H ρ1 H1 → Rl K G ρ1 H1 sm σ mh1 → RO K G W σ P ρ1 H1 (k v mh1) → Q v H1) : RT K G W m σ H Q :=
  ⟨ρ, sm, mh, r, h.bnd.mono Ext.refl fun v ρ1 H1 ⟨mh1, x, hr, z⟩ => hq v ρ1 H1 mh1 x (r.at x hr) z⟩
theorem ra_bnd {β : Type} {P : β → List Addr → Hp → Prop} {m : MEs} {k : List MV → MH → Rz β} {Q : List V → Hp → Prop} (r : Rl K G ρ H sm σ mh) (h : RO K G W σ P ρ H ((m sm mh).bnd k))
    (hq : ∀ v ρ1 H1 mh1 x, Ext K ρ H ρ1 H1 → Rl K G ρ1 H1 sm σ mh1 → VRs K G ρ1 H1 v x → RO K G W σ P ρ1 H1 (k v mh1) → Q x H1) : RA K G W m σ H Q :=
  ⟨ρ, sm, mh, r, h.bnd.mono Ext.refl fun v ρ1 H1 ⟨mh1, x, hr, z⟩ x1 rv => hq v ρ1 H1 mh1 x1 x (r.at x hr) rv z⟩
end
end Mo
namespace Mo
open PySem L2
section
variable {K : PySem.W.Frag} {G : String → Option V} {ρ : List Addr} {H : Hp}
theorem VRs.length : ∀ {xs : List MV} {vs : List V}, VRs K G ρ H xs vs → xs.length = vs.length
  | [], _, h => by simp only [VRs] at h; subst h; rfl
  | x :: xs, _, h => by
    simp only [VRs] at h
    obtain ⟨v, r, rfl, _, t⟩ := h
    simp [VRs.length t]
theorem VRs.get : ∀ {xs : List MV} {vs : List V} {i : Nat} {x : MV}, VRs K G ρ H xs vs → xs[i]? = some x → ∃ v, vs[i]? = some v ∧ VR K G ρ H x v
  | [], _, _, _, _, e => by simp at e
  | y :: xs, _, 0, x, h, e => by
    simp only [VRs] at h
    obtain ⟨v, r, rfl, q, t⟩ := h
    simp at e
    subst e
    exact ⟨v, rfl, q⟩
  | y :: xs, _, i + 1, x, h, e => by
    simp only [VRs] at h
    obtain ⟨v, r, rfl, q, t⟩ := h
    simp at e
    obtain ⟨w, a, b⟩ := VRs.get (i := i) t e
    exact ⟨w, by simpa using a, b⟩
theorem VRs.nil : VRs K G ρ H [] [] := by simp [VRs]
theorem VRs.cons {x : MV} {v : V} {xs : List MV} {vs : List V} (a : VR K G ρ H x v) (b : VRs K G ρ H xs vs) : VRs K G ρ H (x :: xs) (v :: vs) := by
  simp only [VRs]; exact ⟨v, vs, rfl, a, b⟩
theorem VRs.append : ∀ {xs ys : List MV} {vs ws : List V}, VRs K G ρ H xs vs → VRs K G ρ H ys ws → VRs K G ρ H (xs ++ ys) (vs ++ ws)
  | [], _, _, _, h, k => by simp only [VRs] at h; subst h; simpa using k
  | x :: xs, _, _, _, h, k => by
    simp only [VRs] at h
    obtain ⟨v, r, rfl, q, t⟩ := h
    exact VRs.cons q (VRs.append t k)
theorem VRs.set {y : MV} {w : V} (r : VR K G ρ H y w) : ∀ {xs : List MV} {vs : List V} (i : Nat), VRs K G ρ H xs vs → VRs K G ρ H (xs.set i y) (vs.set i w)
  | [], _, _, h => by simp only [VRs] at h; subst h; exact VRs.nil
  | x :: xs, _, 0, h => by
    simp only [VRs] at h
    obtain ⟨v, s, rfl, q, t⟩ := h
    exact VRs.cons r t
  | x :: xs, _, i + 1, h => by
    simp only [VRs] at h
    obtain ⟨v, s, rfl, q, t⟩ := h
    exact VRs.cons q (VRs.set r i t)
theorem VRs.take : ∀ {xs : List MV} {vs : List V} (n : Nat), VRs K G ρ H xs vs → VRs K G ρ H (xs.take n) (vs.take n)
  | _, _, 0, h => by simp [VRs]
  | [], _, _ + 1, h => by simp only [VRs] at h; subst h; exact VRs.nil
  | x :: xs, _, n + 1, h => by
    simp only [VRs] at h
    obtain ⟨v, s, rfl, q, t⟩ := h
    exact VRs.cons q (VRs.take n t)
theorem VRs.drop : ∀ {xs : List MV} {vs : List V} (n : Nat), VRs K G ρ H xs vs → VRs K G ρ H (xs.drop n) (vs.drop n)
  | _, _, 0, h => by simpa using h
  | [], _, _ + 1, h => by simp only [VRs] at h; subst h; exact VRs.nil
  | x :: xs, _, n + 1, h => by
    simp only [VRs] at h
    obtain ⟨v, s, rfl, q, t⟩ := h
    simpa using VRs.drop n t
theorem VRs.reverse : ∀ {xs : List MV} {vs : List V}, VRs K G ρ H xs vs → VRs K G ρ H xs.reverse vs.reverse
  | [], _, h => by simp only [VRs] at h; subst h; exact VRs.nil
  | x :: xs, _, h => by
    simp only [VRs] at h
    obtain ⟨v, s, rfl, q, t⟩ := h
    rw [List.reverse_cons, List.reverse_cons]
    exact VRs.append (VRs.reverse t) (VRs.cons q VRs.nil)
end
section
variable {K : PySem.W.Frag} {G : String → Option V} {ρ : List Addr} {H : Hp} {mh : MH}
def Plain (u : HO) : Prop := (∀ vs, u ≠ .tup vs) ∧ ∀ b w, u ≠ .frz b (.lst w)
theorem OR.there {a : Addr} {o : MO} (h : OR K G ρ H a o) : ∃ u, H a = some u ∧ Plain u := by
  cases o with
  | lst xs => obtain ⟨vs, e, _⟩ := h; exact ⟨_, e, by simp [Plain], by simp⟩
  | dk xs => obtain ⟨vs, e, _⟩ := h; exact ⟨_, e, by simp [Plain], by simp⟩
  | dt xs => obtain ⟨vs, e, _⟩ := h; exact ⟨_, e, by simp [Plain], by simp⟩
  | ins c fs => obtain ⟨C, dx, vs, _, e, _⟩ := h; exact ⟨_, e, by simp [Plain], by simp⟩
  | xd c fs => obtain ⟨vs, e, _⟩ := h; exact ⟨_, e, by simp [Plain], by simp⟩
  | dx hs ks => obtain ⟨xs, e, _⟩ := h; exact ⟨_, e, by simp [Plain], by simp⟩
  | fdk od vs kvs => obtain ⟨e, _⟩ := h; exact ⟨_, e, by simp [Plain], by simp⟩
theorem ext_write {a : Addr} {o u : HO} (hu : H a = some u) (ht : Plain u) : Ext K ρ H ρ (L2.upd H a o) := by
  refine ⟨⟨[], by simp⟩, fun b vs h => ?_, fun b vs h => ?_⟩
  · by_cases e : a = b
    · subst e; rw [hu] at h; cases h; exact absurd rfl (ht.1 vs)
    · rw [L2.upd_ne (Ne.symm e)]; exact h
  · rcases h with ⟨q, h⟩ | h
    · by_cases e : a = b
      · subst e; rw [hu] at h; cases h; exact absurd rfl (ht.2 q _)
      · exact .inl ⟨q, by rw [L2.upd_ne (Ne.symm e)]; exact h⟩
    · exact .inr h
theorem ext_new {a : Addr} {o : HO} {t : List Addr} (hn : H a = none) : Ext K ρ H (ρ ++ t) (L2.upd H a o) := by
  refine ⟨⟨t, rfl⟩, fun b vs h => ?_, fun b vs h => ?_⟩
  · rw [L2.upd_ne (ne_of_none h hn)]; exact h
  · rcases h with ⟨q, h⟩ | h
    · exact .inl ⟨q, by rw [L2.upd_ne (ne_of_none h hn)]; exact h⟩
    · exact .inr h
theorem ext_new0 {a : Addr} {o : HO} (hn : H a = none) : Ext K ρ H ρ (L2.upd H a o) := by
  have := ext_new (K := K) (ρ := ρ) (t := []) (o := o) hn
  simpa using this
theorem OR.keep {ρ1 : List Addr} {H1 : Hp} {a : Addr} {o : MO} (x : Ext K ρ H ρ1 H1) (e : ∀ u, H a = some u → H1 a = some u) (h : OR K G ρ H a o) : OR K G ρ1 H1 a o := by
  cases o with
  | lst xs => obtain ⟨vs, q, r⟩ := h; exact ⟨vs, e _ q, r.ext x⟩
  | dk xs => obtain ⟨vs, q, r⟩ := h; exact ⟨vs, e _ q, r.ext x⟩
  | dt xs => obtain ⟨vs, q, r⟩ := h; exact ⟨vs, e _ q, r.ext x⟩
  | ins c fs => obtain ⟨C, dx, vs, g, q, r⟩ := h; exact ⟨C, dx, vs, g, e _ q, r.ext x⟩
  | xd c fs => obtain ⟨vs, q, r⟩ := h; exact ⟨vs, e _ q, r.ext x⟩
  | dx hs ks => obtain ⟨xs, q, r, t⟩ := h; exact ⟨xs, e _ q, r, fun y hy => (t y hy).imp_left (x.tup _ _)⟩
  | fdk od vs kvs => obtain ⟨q, r⟩ := h; exact ⟨e _ q, r.ext x⟩
theorem HR.nd_ne (h : HR K G ρ H mh) {i j : Nat} {a b : Addr} (hi : ρ[i]? = some a) (hj : ρ[j]? = some b) (n : i ≠ j) : a ≠ b := fun e => by
  subst e
  obtain ⟨h1, e1⟩ := List.getElem?_eq_some_iff.mp hi
  obtain ⟨h2, e2⟩ := List.getElem?_eq_some_iff.mp hj
  exact n ((List.getElem_inj h.nd).mp (e1.trans e2.symm))
theorem HR.get (h : HR K G ρ H mh) {i : Nat} {o : MO} {a : Addr} (e : mh[i]? = some o) (ha : ρ[i]? = some a) : OR K G ρ H a o := by
  obtain ⟨b, hb, q⟩ := h.obj i o e
  rw [ha] at hb; cases hb
  exact q
theorem HR.write {i : Nat} {o o1 : MO} {a : Addr} {u : HO} (h : HR K G ρ H mh) (ho : mh[i]? = some o) (ha : ρ[i]? = some a)
    (new : OR K G ρ (L2.upd H a u) a o1) : HR K G ρ (L2.upd H a u) (mh.set i o1) ∧ Ext K ρ H ρ (L2.upd H a u) := by
  obtain ⟨w, hw, ht⟩ := (h.get ho ha).there
  have x : Ext K ρ H ρ (L2.upd H a u) := ext_write hw ht
  refine ⟨⟨by rw [List.length_set]; exact h.len, h.nd, fun j q e => ?_⟩, x⟩
  by_cases hj : i = j
  · subst hj
    have hi : i < mh.length := (List.getElem?_eq_some_iff.mp ho).1
    rw [List.getElem?_set_self hi] at e
    cases e
    exact ⟨a, ha, new⟩
  · rw [List.getElem?_set_ne hj] at e
    obtain ⟨b, hb, r⟩ := h.obj j q e
    refine ⟨b, hb, r.keep x fun v hv => ?_⟩
    rw [L2.upd_ne (Ne.symm (h.nd_ne ha hb hj))]
    exact hv
theorem HR.notin (h : HR K G ρ H mh) {a : Addr} (hn : H a = none) : a ∉ ρ := fun hm => by
  obtain ⟨i, hi, e⟩ := List.mem_iff_getElem.mp hm
  have hi' : i < mh.length := by rw [← h.len]; exact hi
  obtain ⟨b, hb, r⟩ := h.obj i mh[i] (by simp [hi'])
  have : b = a := by
    rw [List.getElem?_eq_getElem hi, e] at hb
    exact (Option.some.inj hb).symm
  subst this
  obtain ⟨u, hu, _⟩ := r.there
  rw [hn] at hu; cases hu
theorem HR.new {a : Addr} {u : HO} {o : MO} (h : HR K G ρ H mh) (hn : H a = none) (new : OR K G (ρ ++ [a]) (L2.upd H a u) a o) :
    HR K G (ρ ++ [a]) (L2.upd H a u) (mh ++ [o]) ∧ Ext K ρ H (ρ ++ [a]) (L2.upd H a u) := by
  have x : Ext K ρ H (ρ ++ [a]) (L2.upd H a u) := ext_new hn
  have hk := h.notin hn
  refine ⟨⟨by simp [h.len], ?_, fun j q e => ?_⟩, x⟩
  · rw [List.nodup_append]
    exact ⟨h.nd, by simp, fun b hb c hc e => by simp at hc; subst hc; subst e; exact hk hb⟩
  · by_cases hj : j < mh.length
    · rw [List.getElem?_append_left hj] at e
      obtain ⟨b, hb, r⟩ := h.obj j q e
      refine ⟨b, x.at hb, r.keep x fun v hv => ?_⟩
      rw [L2.upd_ne (ne_of_none hv hn)]
      exact hv
    · have e' : j = mh.length ∧ q = o := by
        rw [List.getElem?_append_right (by omega)] at e
        have hz : j - mh.length = 0 := by
          have := (List.getElem?_eq_some_iff.mp e).1
          simp at this
          omega
        rw [hz] at e
        simp at e
        exact ⟨by omega, e.symm⟩
      obtain ⟨rfl, rfl⟩ := e'
      exact ⟨a, by rw [← h.len]; simp, new⟩
end
end Mo
namespace Mo
open PySem L2
inductive EqW (K : PySem.W.Frag) (H : Hp) : Nat → V → V → Bool → Prop
  | flat {n x y} : flatV x = true → flatV y = true → EqW K H n x y (eqV x y)
  | same {n a} : EqW K H n (.ref a) (.ref a) true
  | lst {n a b xs ys} (e : Nat → Bool) : SqL K H a xs → SqL K H b ys → xs.length = ys.length →
      (∀ j x y, xs[j]? = some x → ys[j]? = some y → EqW K H n x y (e j)) → EqW K H (n + 1) (.ref a) (.ref b) ((List.range xs.length).all e)
  | lstL {n a b xs ys} : SqL K H a xs → SqL K H b ys → xs.length ≠ ys.length → EqW K H (n + 1) (.ref a) (.ref b) false
  | tup {n a b xs ys} (e : Nat → Bool) : SqT K H a xs → SqT K H b ys →
      (∀ j x y, xs[j]? = some x → ys[j]? = some y → EqW K H n x y (e j)) → EqW K H (n + 1) (.ref a) (.ref b) ((List.range (min xs.length ys.length)).all e && xs.length == ys.length)
  | flatT {n a x xs} : flatV x = true → SqT K H a xs → EqW K H n x (.ref a) false
  | tupF {n a x xs} : flatV x = true → SqT K H a xs → EqW K H n (.ref a) x false
  | flatL {n a x xs} : flatV x = true → SqL K H a xs → EqW K H n x (.ref a) false
  | lstF {n a x xs} : flatV x = true → SqL K H a xs → EqW K H n (.ref a) x false
  | lstT {n a b xs ys} : SqL K H a xs → SqT K H b ys → EqW K H n (.ref a) (.ref b) false
  | tupL {n a b xs ys} : SqT K H a xs → SqL K H b ys → EqW K H n (.ref a) (.ref b) false
section
variable {X : Cx} {pins : List (Addr × Obj)} {σ : St} {H : Hp} {s : Shared}
theorem Inv.lt_apart (I : Inv X pins σ H s) {a : Addr} {xs ys : List V} (h : SqL X.K H a xs) (h' : SqT X.K H a ys) : False := by
  obtain ⟨is, r1, p1, _⟩ := I.list h
  obtain ⟨js, r2, p2, _⟩ := I.tuple h'
  exact SeqAt.ne_of_list_tuple p1.isList p2 rfl
theorem eqV_refl : ∀ {x : V}, flatV x = true → eqV x x = true
  | .non, _ => rfl
  | .bl b, _ => by simp [eqV]
  | .int b, _ => by simp [eqV]
  | .str b, _ => by simp [eqV]
  | .byt b, h => by simp [flatV] at h
  | .flt b, h => by simp [flatV] at h
  | .ref b, h => by simp [flatV] at h
  | .ty b, h => by simp [flatV] at h
theorem EqW.refl_true (I : Inv X pins σ H s) {n : Nat} {x y : V} {b : Bool} (h : EqW X.K H n x y b) : x = y → b = true := by
  induction h with
  | flat fx fy => rintro rfl; exact eqV_refl fx
  | same => intro _; rfl
  | lst e ha hb hl he ih =>
    intro q
    cases q
    have := I.list_inj ha hb
    subst this
    rw [List.all_eq_true]
    intro j hj
    have hj' := List.mem_range.mp hj
    exact ih j _ _ (List.getElem?_eq_getElem hj') (List.getElem?_eq_getElem hj') rfl
  | lstL ha hb hl => intro q; cases q; exact absurd (by rw [I.list_inj ha hb]) hl
  | tup e ha hb he ih =>
    intro q
    cases q
    have := I.tuple_inj ha hb
    subst this
    rw [Bool.and_eq_true, List.all_eq_true]
    refine ⟨fun j hj => ?_, by simp⟩
    have hj' := List.mem_range.mp hj
    have hj2 : j < List.length _ := Nat.lt_of_lt_of_le hj' (Nat.min_le_left _ _)
    exact ih j _ _ (List.getElem?_eq_getElem hj2) (List.getElem?_eq_getElem hj2) rfl
  | flatT fx ha => intro q; cases q; simp [flatV] at fx
  | tupF fx ha => intro q; cases q; simp [flatV] at fx
  | flatL fx ha => intro q; cases q; simp [flatV] at fx
  | lstF fx ha => intro q; cases q; simp [flatV] at fx
  | lstT ha hb => intro q; cases q; exact (Inv.lt_apart I ha hb).elim
  | tupL ha hb => intro q; cases q; exact (Inv.lt_apart I hb ha).elim
theorem EqW.at (I : Inv X pins σ H s) {n : Nat} {x y : V} {b : Bool} (h : EqW X.K H n x y b) : ∀ {A : Around} {u v : Value}, A.units + n < cLine → RelV x u → RelV y v → SeqAt.EqAt A s u v b := by
  induction h with
  | flat fx fy => exact fun _ rx ry => eqAt_V rx ry fx fy
  | same => intro A u v _ rx ry; cases rx; cases ry; exact SeqAt.EqAt.same _
  | @lst n a b xs ys e ha hb hl he ih =>
    intro A u v hu rx ry
    by_cases hne : a = b
    · rw [(EqW.lst e ha hb hl he).refl_true I (by rw [hne])]
      subst hne
      cases rx; cases ry
      exact SeqAt.EqAt.same _
    cases rx; cases ry
    obtain ⟨is, r1, p1, _⟩ := I.list ha
    obtain ⟨js, r2, p2, _⟩ := I.list hb
    have l1 := r1.length
    have l2 := r2.length
    have q := SeqAt.RcAt.lists (A := A) (e := e) p1.isList p2.isList (by simp; omega) (by omega) (fun j h1 h2 => by
      simp only [List.size_toArray] at h1 h2
      have a1 : _[j]? = some _ := List.getElem?_eq_getElem (l := _) (i := j) (by rw [l1]; exact h1)
      have a2 : _[j]? = some _ := List.getElem?_eq_getElem (l := _) (i := j) (by rw [l2]; exact h2)
      obtain ⟨w1, b1, c1⟩ := r1.get a1
      obtain ⟨w2, b2, c2⟩ := r2.get a2
      have d1 : is[j] = w1 := by rw [List.getElem?_eq_getElem h1] at b1; exact Option.some.inj b1
      have d2 : js[j] = w2 := by rw [List.getElem?_eq_getElem h2] at b2; exact Option.some.inj b2
      simp only [List.getElem_toArray]
      rw [d1, d2]
      exact ih j _ _ a1 a2 (by show A.units + 1 + _ < cLine; omega) c1 c2)
    rw [show is.toArray.size = _ from by simp; exact l1.symm] at q
    exact SeqAt.EqAt.of_refs hne q
  | lstL ha hb hl =>
    intro A u v hu rx ry
    cases rx; cases ry
    obtain ⟨is, r1, p1, _⟩ := I.list ha
    obtain ⟨js, r2, p2, _⟩ := I.list hb
    have l1 := r1.length
    have l2 := r2.length
    refine SeqAt.EqAt.of_refs (fun e => ?_) (SeqAt.RcAt.lists_lengths p1.isList p2.isList (by simp; omega) (by omega))
    subst e
    rw [I.list_inj ha hb] at hl
    exact hl rfl
  | @tup n a b xs ys e ha hb he ih =>
    intro A u v hu rx ry
    by_cases hne : a = b
    · rw [(EqW.tup e ha hb he).refl_true I (by rw [hne])]
      subst hne
      cases rx; cases ry
      exact SeqAt.EqAt.same _
    cases rx; cases ry
    obtain ⟨is, r1, p1, _⟩ := I.tuple ha
    obtain ⟨js, r2, p2, _⟩ := I.tuple hb
    have l1 := r1.length
    have l2 := r2.length
    have q := SeqAt.RcAt.tuples (A := A) (e := e) p1 p2 (by omega) (fun j h1 h2 => by
      simp only [List.size_toArray] at h1 h2
      have a1 : _[j]? = some _ := List.getElem?_eq_getElem (l := _) (i := j) (by rw [l1]; exact h1)
      have a2 : _[j]? = some _ := List.getElem?_eq_getElem (l := _) (i := j) (by rw [l2]; exact h2)
      obtain ⟨w1, b1, c1⟩ := r1.get a1
      obtain ⟨w2, b2, c2⟩ := r2.get a2
      have d1 : is[j] = w1 := by rw [List.getElem?_eq_getElem h1] at b1; exact Option.some.inj b1
      have d2 : js[j] = w2 := by rw [List.getElem?_eq_getElem h2] at b2; exact Option.some.inj b2
      simp only [List.getElem_toArray]
      rw [d1, d2]
      exact ih j _ _ a1 a2 (by show A.units + 1 + _ < cLine; omega) c1 c2)
    rw [show is.toArray.size = _ from by simp; exact l1.symm, show js.toArray.size = _ from by simp; exact l2.symm] at q
    exact SeqAt.EqAt.of_refs hne q
  | @flatT n a x xs fx ha =>
    intro A u v hu rx ry
    cases ry
    obtain ⟨js, r2, p2, _⟩ := I.tuple ha
    have hu' : A.units < cLine := by omega
    cases x with
    | non => cases rx; exact SeqAt.EqAt.none_tuple p2 hu'
    | bl b => cases rx; exact SeqAt.EqAt.bool_tuple _ p2 hu'
    | int i => obtain ⟨t, rfl⟩ := rx; exact SeqAt.EqAt.int_tuple _ _ p2 hu'
    | str i => obtain ⟨t, rfl⟩ := rx; exact SeqAt.EqAt.str_tuple _ _ p2 hu'
    | _ => simp [flatV] at fx
  | @tupF n a x xs fx ha =>
    intro A u v hu ry rx
    cases ry
    obtain ⟨js, r2, p2, _⟩ := I.tuple ha
    have hu' : A.units < cLine := by omega
    cases x with
    | non => cases rx; exact SeqAt.EqAt.tuple_none p2 hu'
    | bl b => cases rx; exact SeqAt.EqAt.tuple_bool _ p2 hu'
    | int i => obtain ⟨t, rfl⟩ := rx; exact SeqAt.EqAt.tuple_int _ _ p2 hu'
    | str i => obtain ⟨t, rfl⟩ := rx; exact SeqAt.EqAt.tuple_str _ _ p2 hu'
    | _ => simp [flatV] at fx
  | @flatL n a x xs fx ha =>
    intro A u v hu rx ry
    cases ry
    obtain ⟨js, r2, p2, _⟩ := I.list ha
    have hu' : A.units < cLine := by omega
    cases x with
    | non => cases rx; exact SeqAt.EqAt.none_list p2.isList hu'
    | bl b => cases rx; exact SeqAt.EqAt.bool_list _ p2.isList hu'
    | int i => obtain ⟨t, rfl⟩ := rx; exact SeqAt.EqAt.int_list _ _ p2.isList hu'
    | str i => obtain ⟨t, rfl⟩ := rx; exact SeqAt.EqAt.str_list _ _ p2.isList hu'
    | _ => simp [flatV] at fx
  | @lstF n a x xs fx ha =>
    intro A u v hu ry rx
    cases ry
    obtain ⟨js, r2, p2, _⟩ := I.list ha
    have hu' : A.units < cLine := by omega
    cases x with
    | non => cases rx; exact SeqAt.EqAt.list_none p2.isList hu'
    | bl b => cases rx; exact SeqAt.EqAt.list_bool _ p2.isList hu'
    | int i => obtain ⟨t, rfl⟩ := rx; exact SeqAt.EqAt.list_int _ _ p2.isList hu'
    | str i => obtain ⟨t, rfl⟩ := rx; exact SeqAt.EqAt.list_str _ _ p2.isList hu'
    | _ => simp [flatV] at fx
  | lstT ha hb =>
    intro A u v hu rx ry
    cases rx; cases ry
    obtain ⟨is, r1, p1, _⟩ := I.list ha
    obtain ⟨js, r2, p2, _⟩ := I.tuple hb
    exact SeqAt.EqAt.list_tuple p1.isList p2 (by omega)
  | tupL ha hb =>
    intro A u v hu rx ry
    cases rx; cases ry
    obtain ⟨is, r1, p1, _⟩ := I.tuple ha
    obtain ⟨js, r2, p2, _⟩ := I.list hb
    exact SeqAt.EqAt.tuple_list p1 p2.isList (by omega)
inductive RcW (K : PySem.W.Frag) (H : Hp) : Nat → V → V → Bool → Prop
  | sc {n x y} : scal x y = true → RcW K H n x y (decide (x = y))
  | lst {n a b xs ys} (e : Nat → Bool) : SqL K H a xs → SqL K H b ys → xs.length = ys.length →
      (∀ j x y, xs[j]? = some x → ys[j]? = some y → EqW K H n x y (e j)) → RcW K H (n + 1) (.ref a) (.ref b) ((List.range xs.length).all e)
  | lstL {n a b xs ys} : SqL K H a xs → SqL K H b ys → xs.length ≠ ys.length → RcW K H (n + 1) (.ref a) (.ref b) false
  | tup {n a b xs ys} (e : Nat → Bool) : SqT K H a xs → SqT K H b ys →
      (∀ j x y, xs[j]? = some x → ys[j]? = some y → EqW K H n x y (e j)) → RcW K H (n + 1) (.ref a) (.ref b) ((List.range (min xs.length ys.length)).all e && xs.length == ys.length)
  | flatT {n a x xs} : flatV x = true → SqT K H a xs → RcW K H n x (.ref a) false
  | tupF {n a x xs} : flatV x = true → SqT K H a xs → RcW K H n (.ref a) x false
  | flatL {n a x xs} : flatV x = true → SqL K H a xs → RcW K H n x (.ref a) false
  | lstF {n a x xs} : flatV x = true → SqL K H a xs → RcW K H n (.ref a) x false
  | lstT {n a b xs ys} : SqL K H a xs → SqT K H b ys → RcW K H n (.ref a) (.ref b) false
  | tupL {n a b xs ys} : SqT K H a xs → SqL K H b ys → RcW K H n (.ref a) (.ref b) false
theorem kids {n : Nat} {xs ys : List V} {is js : List Value} {e : Nat → Bool} (I : Inv X pins σ H s) (r1 : Vals xs is) (r2 : Vals ys js) (he : ∀ j x y, xs[j]? = some x → ys[j]? = some y → EqW X.K H n x y (e j)) {A : Around} (hu : A.units + n < cLine) :
    ∀ j (h1 : j < is.toArray.size) (h2 : j < js.toArray.size), SeqAt.EqAt A s is.toArray[j] js.toArray[j] (e j) := fun j h1 h2 => by
  have l1 := r1.length
  have l2 := r2.length
  simp only [List.size_toArray] at h1 h2
  have a1 : xs[j]? = some _ := List.getElem?_eq_getElem (l := _) (i := j) (by rw [l1]; exact h1)
  have a2 : ys[j]? = some _ := List.getElem?_eq_getElem (l := _) (i := j) (by rw [l2]; exact h2)
  obtain ⟨w1, b1, c1⟩ := r1.get a1
  obtain ⟨w2, b2, c2⟩ := r2.get a2
  have d1 : is[j] = w1 := by rw [List.getElem?_eq_getElem h1] at b1; exact Option.some.inj b1
  have d2 : js[j] = w2 := by rw [List.getElem?_eq_getElem h2] at b2; exact Option.some.inj b2
  simp only [List.getElem_toArray]
  rw [d1, d2]
  exact (he j _ _ a1 a2).at I hu c1 c2
theorem RcW.eqne (I : Inv X pins σ H s) {n : Nat} {x y : V} {b : Bool} (h : RcW X.K H n x y b) {u v : Value} (hu : X.A.units + n < cLine) (rx : RelV x u) (ry : RelV y v) :
    (scal x y = true ∧ b = decide (x = y)) ∨ (SeqAt.RcAt X.A s u v b ∧ SeqAt.RcNeAt X.A s u v (!b)) := by
  cases h with
  | sc h => exact .inl ⟨h, rfl⟩
  | lst e ha hb hl he =>
    cases rx; cases ry
    obtain ⟨is, r1, p1, _⟩ := I.list ha
    obtain ⟨js, r2, p2, _⟩ := I.list hb
    have l1 := r1.length
    have l2 := r2.length
    have k := kids I r1 r2 he (A := X.A.in1) (by show X.A.units + 1 + _ < cLine; omega)
    have z : is.toArray.size = js.toArray.size := by simp; omega
    have q := SeqAt.RcAt.lists (e := e) p1.isList p2.isList z (by omega) k
    have q2 := SeqAt.RcNeAt.lists (e := e) p1.isList p2.isList z (by omega) k
    rw [show is.toArray.size = _ from by simp; exact l1.symm] at q q2
    exact .inr ⟨q, q2⟩
  | lstL ha hb hl =>
    cases rx; cases ry
    obtain ⟨is, r1, p1, _⟩ := I.list ha
    obtain ⟨js, r2, p2, _⟩ := I.list hb
    have l1 := r1.length
    have l2 := r2.length
    have z : (is.toArray.size != js.toArray.size) = true := by simp; omega
    exact .inr ⟨SeqAt.RcAt.lists_lengths p1.isList p2.isList z (by omega), SeqAt.RcNeAt.lists_lengths p1.isList p2.isList z (by omega)⟩
  | tup e ha hb he =>
    cases rx; cases ry
    obtain ⟨is, r1, p1, _⟩ := I.tuple ha
    obtain ⟨js, r2, p2, _⟩ := I.tuple hb
    have l1 := r1.length
    have l2 := r2.length
    have k := kids I r1 r2 he (A := X.A.in1) (by show X.A.units + 1 + _ < cLine; omega)
    have q := SeqAt.RcAt.tuples (e := e) p1 p2 (by omega) k
    have q2 := SeqAt.RcNeAt.tuples (e := e) p1 p2 (by omega) k
    rw [show is.toArray.size = _ from by simp; exact l1.symm, show js.toArray.size = _ from by simp; exact l2.symm] at q q2
    exact .inr ⟨q, q2⟩
  | @flatT _ a x xs fx ha =>
    cases ry
    obtain ⟨js, r2, p2, _⟩ := I.tuple ha
    have hu' : X.A.units < cLine := by omega
    refine .inr ?_
    cases x with
    | non => cases rx; exact ⟨SeqAt.RcAt.none_tuple p2 hu', SeqAt.RcNeAt.none_tuple p2 hu'⟩
    | bl b => cases rx; exact ⟨SeqAt.RcAt.bool_tuple _ p2 hu', SeqAt.RcNeAt.bool_tuple _ p2 hu'⟩
    | int i => obtain ⟨t, rfl⟩ := rx; exact ⟨SeqAt.RcAt.int_tuple _ _ p2 hu', SeqAt.RcNeAt.int_tuple _ _ p2 hu'⟩
    | str i => obtain ⟨t, rfl⟩ := rx; exact ⟨SeqAt.RcAt.str_tuple _ _ p2 hu', SeqAt.RcNeAt.str_tuple _ _ p2 hu'⟩
    | _ => simp [flatV] at fx
  | @tupF _ a x xs fx ha =>
    cases rx
    obtain ⟨js, r2, p2, _⟩ := I.tuple ha
    have hu' : X.A.units < cLine := by omega
    refine .inr ?_
    cases y with
    | non => cases ry; exact ⟨SeqAt.RcAt.tuple_none p2 hu', SeqAt.RcNeAt.tuple_none p2 hu'⟩
    | bl b => cases ry; exact ⟨SeqAt.RcAt.tuple_bool _ p2 hu', SeqAt.RcNeAt.tuple_bool _ p2 hu'⟩
    | int i => obtain ⟨t, rfl⟩ := ry; exact ⟨SeqAt.RcAt.tuple_int _ _ p2 hu', SeqAt.RcNeAt.tuple_int _ _ p2 hu'⟩
    | str i => obtain ⟨t, rfl⟩ := ry; exact ⟨SeqAt.RcAt.tuple_str _ _ p2 hu', SeqAt.RcNeAt.tuple_str _ _ p2 hu'⟩
    | _ => simp [flatV] at fx
  | @flatL _ a x xs fx ha =>
    cases ry
    obtain ⟨js, r2, p2, _⟩ := I.list ha
    have hu' : X.A.units < cLine := by omega
    refine .inr ?_
    cases x with
    | non => cases rx; exact ⟨SeqAt.RcAt.none_list p2.isList hu', SeqAt.RcNeAt.none_list p2.isList hu'⟩
    | bl b => cases rx; exact ⟨SeqAt.RcAt.bool_list _ p2.isList hu', SeqAt.RcNeAt.bool_list _ p2.isList hu'⟩
    | int i => obtain ⟨t, rfl⟩ := rx; exact ⟨SeqAt.RcAt.int_list _ _ p2.isList hu', SeqAt.RcNeAt.int_list _ _ p2.isList hu'⟩
    | str i => obtain ⟨t, rfl⟩ := rx; exact ⟨SeqAt.RcAt.str_list _ _ p2.isList hu', SeqAt.RcNeAt.str_list _ _ p2.isList hu'⟩
    | _ => simp [flatV] at fx
  | @lstF _ a x xs fx ha =>
    cases rx
    obtain ⟨js, r2, p2, _⟩ := I.list ha
    have hu' : X.A.units < cLine := by omega
    refine .inr ?_
    cases y with
    | non => cases ry; exact ⟨SeqAt.RcAt.list_none p2.isList hu', SeqAt.RcNeAt.list_none p2.isList hu'⟩
    | bl b => cases ry; exact ⟨SeqAt.RcAt.list_bool _ p2.isList hu', SeqAt.RcNeAt.list_bool _ p2.isList hu'⟩
    | int i => obtain ⟨t, rfl⟩ := ry; exact ⟨SeqAt.RcAt.list_int _ _ p2.isList hu', SeqAt.RcNeAt.list_int _ _ p2.isList hu'⟩
    | str i => obtain ⟨t, rfl⟩ := ry; exact ⟨SeqAt.RcAt.list_str _ _ p2.isList hu', SeqAt.RcNeAt.list_str _ _ p2.isList hu'⟩
    | _ => simp [flatV] at fx
  | lstT ha hb =>
    cases rx; cases ry
    obtain ⟨is, r1, p1, _⟩ := I.list ha
    obtain ⟨js, r2, p2, _⟩ := I.tuple hb
    exact .inr ⟨SeqAt.RcAt.list_tuple p1.isList p2 (by omega), SeqAt.RcNeAt.list_tuple p1.isList p2 (by omega)⟩
  | tupL ha hb =>
    cases rx; cases ry
    obtain ⟨is, r1, p1, _⟩ := I.tuple ha
    obtain ⟨js, r2, p2, _⟩ := I.list hb
    exact .inr ⟨SeqAt.RcAt.tuple_list p1 p2.isList (by omega), SeqAt.RcNeAt.tuple_list p1 p2.isList (by omega)⟩
end
section
variable {X : Cx}
def DEP : Nat := 8
def rEqM (K : PySem.W.Frag) : R2 := fun x y H Q => ∃ b, RcW K H DEP x y b ∧ Q (.bl b) H
def rNeM (K : PySem.W.Frag) : R2 := fun x y H Q => ∃ b, RcW K H DEP x y b ∧ Q (.bl (!b)) H
theorem op_eqM (hu : X.A.units + 64 < cLine) : OpR X (compareOp .Eq) (rEqM X.K) := by
  intro pins s σ H x y v u Q I rx ry h
  obtain ⟨b, d, q⟩ := h
  rcases d.eqne I (by unfold DEP; omega) rx ry with ⟨h1, rfl⟩ | ⟨h1, _⟩
  · exact op_eq pins s σ H x y v u Q I rx ry ⟨h1, q⟩
  · exact h1 _ _ _ _ ⟨.bl b, H, I, rfl, q⟩
theorem op_neM (hu : X.A.units + 64 < cLine) : OpR X (compareOp .NotEq) (rNeM X.K) := by
  intro pins s σ H x y v u Q I rx ry h
  obtain ⟨b, d, q⟩ := h
  rcases d.eqne I (by unfold DEP; omega) rx ry with ⟨h1, rfl⟩ | ⟨_, h1⟩
  · exact op_ne pins s σ H x y v u Q I rx ry ⟨h1, q⟩
  · exact h1 _ _ _ _ ⟨.bl (!b), H, I, rfl, q⟩
end
def flM : MV → Bool
  | .non => true | .bl _ => true | .int _ => true | .str _ => true | _ => false
def asT : MV → Option (List MV)
  | .tup xs => some xs | .ktp xs => some xs | _ => none
def eqF : MV → MV → Bool
  | .non, .non => true
  | .bl a, .bl b => a == b
  | .bl a, .int b => (if a then 1 else 0) == b
  | .int a, .bl b => a == (if b then 1 else 0)
  | .int a, .int b => a == b
  | .str a, .str b => a == b
  | _, _ => false
def eqs (f : MV → MV → Option Bool) : List MV → List MV → Option Bool
  | [], [] => some true
  | x :: xs, y :: ys => match f x y, eqs f xs ys with
    | some a, some b => some (a && b)
    | _, _ => none
  | _, _ => some false
def lstAt (h : MH) : MV → Option (List MV)
  | .ref i => match h[i]? with
    | some (.lst xs) => some xs
    | _ => none
  | _ => none
def sameR : MV → MV → Bool
  | .ref i, .ref j => decide (i = j)
  | _, _ => false
def mEqS (f : MV → MV → Option Bool) (h : MH) (x y : MV) : Option Bool :=
  match asT x, asT y, lstAt h x, lstAt h y with
  | some xs, some ys, _, _ => eqs f xs ys
  | _, _, some xs, some ys => if xs.length = ys.length then eqs f xs ys else some false
  | some _, _, _, some _ => some false
  | _, some _, some _, _ => some false
  | some _, _, _, _ => if flM y then some false else none
  | _, some _, _, _ => if flM x then some false else none
  | _, _, some _, _ => if flM y then some false else none
  | _, _, _, some _ => if flM x then some false else none
  | _, _, _, _ => none
def mEq : Nat → MH → MV → MV → Option Bool
  | n, h, x, y => if flM x && flM y then some (eqF x y) else match n with
    | 0 => none
    | n + 1 => if sameR x y then some true else mEqS (mEq n h) h x y
def scM : MV → MV → Bool
  | .bl _, .int _ => false
  | .int _, .bl _ => false
  | x, y => flM x && flM y
def mRc (h : MH) (x y : MV) : Option Bool := match x, y with
  | .byt a, .byt b => some (decide (a = b))
  | x, y => if scM x y then some (eqF x y) else mEqS (mEq 7 h) h x y
section
variable {K : PySem.W.Frag} {G : String → Option V} {ρ : List Addr} {H : Hp} {mh : MH}
theorem flM_V {x : MV} {v : V} (h : VR K G ρ H x v) (f : flM x = true) : flatV v = true ∧ ∀ {y : MV} {w : V}, VR K G ρ H y w → flM y = true → eqV v w = eqF x y := by
  cases x with
  | non => simp only [VR] at h; subst h; refine ⟨rfl, fun {y w} hy fy => ?_⟩; cases y <;> simp [flM] at fy <;> simp only [VR] at hy <;> subst hy <;> rfl
  | bl b => simp only [VR] at h; subst h; refine ⟨rfl, fun {y w} hy fy => ?_⟩; cases y <;> simp [flM] at fy <;> simp only [VR] at hy <;> subst hy <;> rfl
  | int b => simp only [VR] at h; subst h; refine ⟨rfl, fun {y w} hy fy => ?_⟩; cases y <;> simp [flM] at fy <;> simp only [VR] at hy <;> subst hy <;> rfl
  | str b => simp only [VR] at h; subst h; refine ⟨rfl, fun {y w} hy fy => ?_⟩; cases y <;> simp [flM] at fy <;> simp only [VR] at hy <;> subst hy <;> rfl
  | _ => simp [flM] at f
theorem HR.lst (hr : HR K G ρ H mh) {i : Nat} {xs : List MV} {v : V} (e : mh[i]? = some (.lst xs)) (r : VR K G ρ H (.ref i) v) : ∃ a vs, v = .ref a ∧ ρ[i]? = some a ∧ H a = some (.lst vs) ∧ VRs K G ρ H xs vs := by
  simp only [VR] at r
  obtain ⟨a, rfl, ha⟩ := r
  obtain ⟨vs, h1, h2⟩ := hr.get e ha
  exact ⟨a, vs, rfl, ha, h1, h2⟩
theorem VR.tup {x : MV} {xs : List MV} {v : V} (e : asT x = some xs) (r : VR K G ρ H x v) : ∃ a vs, v = .ref a ∧ SqT K H a vs ∧ VRs K G ρ H xs vs := by
  cases x <;> simp [asT] at e
  · subst e
    simp only [VR] at r
    obtain ⟨a, vs, e1, h1, h2⟩ := r
    exact ⟨a, vs, e1, SqT.of h1, h2⟩
  · subst e
    simp only [VR] at r
    obtain ⟨a, vs, e1, h1, h2⟩ := r
    exact ⟨a, vs, e1, h1.sq, h2⟩
theorem HR.lst' (hr : HR K G ρ H mh) {x : MV} {xs : List MV} {v : V} (e : lstAt mh x = some xs) (r : VR K G ρ H x v) : ∃ a vs, v = .ref a ∧ SqL K H a vs ∧ VRs K G ρ H xs vs := by
  unfold lstAt at e
  split at e
  · split at e
    · rename_i q
      cases e
      obtain ⟨a, vs, e1, _, h1, h2⟩ := hr.lst q r
      exact ⟨a, vs, e1, SqL.of h1, h2⟩
    · cases e
  · cases e
theorem eqs_sound {f : MV → MV → Option Bool} {P : V → V → Bool → Prop} (hf : ∀ {x y v w b}, f x y = some b → VR K G ρ H x v → VR K G ρ H y w → P v w b) :
    ∀ {xs ys : List MV} {vs ws : List V} {b : Bool}, eqs f xs ys = some b → VRs K G ρ H xs vs → VRs K G ρ H ys ws →
      ∃ e : Nat → Bool, (∀ j x y, vs[j]? = some x → ws[j]? = some y → P x y (e j)) ∧ b = ((List.range (min vs.length ws.length)).all e && vs.length == ws.length) ∧ (vs.length = ws.length → b = (List.range vs.length).all e)
  | [], [], _, _, b, h, r1, r2 => by
    simp only [VRs] at r1 r2; subst r1 r2
    simp [eqs] at h; subst h
    exact ⟨fun _ => true, fun j x y e => by simp at e, by simp, by simp⟩
  | [], y :: ys, _, _, b, h, r1, r2 => by
    simp only [VRs] at r1 r2; subst r1
    obtain ⟨w, s, rfl, q, t⟩ := r2
    simp [eqs] at h; subst h
    exact ⟨fun _ => true, fun j x y e => by simp at e, by simp, by simp⟩
  | x :: xs, [], _, _, b, h, r1, r2 => by
    simp only [VRs] at r1 r2; subst r2
    obtain ⟨w, s, rfl, q, t⟩ := r1
    simp [eqs] at h; subst h
    exact ⟨fun _ => true, fun j x y _ e => by simp at e, by simp, by simp⟩
  | x :: xs, y :: ys, _, _, b, h, r1, r2 => by
    simp only [VRs] at r1 r2
    obtain ⟨v, vs, rfl, q1, t1⟩ := r1
    obtain ⟨w, ws, rfl, q2, t2⟩ := r2
    simp only [eqs] at h
    cases h1 : f x y with
    | none => rw [h1] at h; simp at h
    | some a =>
      cases h2 : eqs f xs ys with
      | none => rw [h1, h2] at h; simp at h
      | some c =>
        rw [h1, h2] at h
        simp at h
        obtain ⟨e, he, hb, hb2⟩ := eqs_sound hf h2 t1 t2
        have key : ∀ n, (List.range (n + 1)).all (fun j => match j with | 0 => a | j + 1 => e j) = (a && (List.range n).all e) := by
          intro n
          rw [List.range_succ_eq_map, List.all_cons, List.all_map]
          rfl
        refine ⟨fun j => match j with | 0 => a | j + 1 => e j, fun j x' y' e1 e2 => ?_, ?_, fun hl => ?_⟩
        · cases j with
          | zero =>
            simp at e1 e2; subst e1 e2
            exact hf h1 q1 q2
          | succ j =>
            simp at e1 e2
            exact he j _ _ e1 e2
        · rw [List.length_cons, List.length_cons, Nat.add_min_add_right, key, ← h, hb]
          simp [Bool.and_assoc]
        · rw [List.length_cons, key, ← h, hb2 (by simpa using hl)]
theorem mEqS_sound (hr : HR K G ρ H mh) {n : Nat} {f : MV → MV → Option Bool} (hf : ∀ {x y v w b}, f x y = some b → VR K G ρ H x v → VR K G ρ H y w → EqW K H n v w b) {x y : MV} {v w : V} {b : Bool}
    (h : mEqS f mh x y = some b) (rx : VR K G ρ H x v) (ry : VR K G ρ H y w) : RcW K H (n + 1) v w b ∧ EqW K H (n + 1) v w b := by
  unfold mEqS at h
  split at h
  · obtain ⟨a, vs, rfl, h1, r1⟩ := VR.tup (x := x) (by assumption) rx
    obtain ⟨c, ws, rfl, h2, r2⟩ := VR.tup (x := y) (by assumption) ry
    obtain ⟨e, he, hb, _⟩ := eqs_sound (P := fun x y b => EqW K H n x y b) (fun h a b => hf h a b) h r1 r2
    rw [hb]
    exact ⟨.tup e h1 h2 he, .tup e h1 h2 he⟩
  · obtain ⟨a, vs, rfl, h1, r1⟩ := hr.lst' (x := x) (by assumption) rx
    obtain ⟨c, ws, rfl, h2, r2⟩ := hr.lst' (x := y) (by assumption) ry
    have l1 := r1.length
    have l2 := r2.length
    split at h
    · obtain ⟨e, he, _, hb⟩ := eqs_sound (P := fun x y b => EqW K H n x y b) (fun h a b => hf h a b) h r1 r2
      rw [hb (by omega)]
      exact ⟨.lst e h1 h2 (by omega) he, .lst e h1 h2 (by omega) he⟩
    · cases h
      exact ⟨.lstL h1 h2 (by omega), .lstL h1 h2 (by omega)⟩
  · obtain ⟨a, vs, rfl, h1, r1⟩ := VR.tup (x := x) (by assumption) rx
    obtain ⟨c, ws, rfl, h2, r2⟩ := hr.lst' (x := y) (by assumption) ry
    cases h
    exact ⟨.tupL h1 h2, .tupL h1 h2⟩
  · obtain ⟨a, vs, rfl, h1, r1⟩ := VR.tup (x := y) (by assumption) ry
    obtain ⟨c, ws, rfl, h2, r2⟩ := hr.lst' (x := x) (by assumption) rx
    cases h
    exact ⟨.lstT h2 h1, .lstT h2 h1⟩
  · obtain ⟨a, vs, rfl, h1, r1⟩ := VR.tup (x := x) (by assumption) rx
    split at h
    · rename_i f2
      cases h
      exact ⟨.tupF (flM_V ry f2).1 h1, .tupF (flM_V ry f2).1 h1⟩
    · cases h
  · obtain ⟨a, vs, rfl, h1, r1⟩ := VR.tup (x := y) (by assumption) ry
    split at h
    · rename_i f2
      cases h
      exact ⟨.flatT (flM_V rx f2).1 h1, .flatT (flM_V rx f2).1 h1⟩
    · cases h
  · obtain ⟨a, vs, rfl, h1, r1⟩ := hr.lst' (x := x) (by assumption) rx
    split at h
    · rename_i f2
      cases h
      exact ⟨.lstF (flM_V ry f2).1 h1, .lstF (flM_V ry f2).1 h1⟩
    · cases h
  · obtain ⟨a, vs, rfl, h1, r1⟩ := hr.lst' (x := y) (by assumption) ry
    split at h
    · rename_i f2
      cases h
      exact ⟨.flatL (flM_V rx f2).1 h1, .flatL (flM_V rx f2).1 h1⟩
    · cases h
  · cases h
theorem mEq_sound (hr : HR K G ρ H mh) : ∀ {n : Nat} {x y : MV} {v w : V} {b : Bool}, mEq n mh x y = some b → VR K G ρ H x v → VR K G ρ H y w → EqW K H n v w b := by
  intro n
  induction n with
  | zero =>
    intro x y v w b h rx ry
    unfold mEq at h
    by_cases f : (flM x && flM y) = true
    · rw [if_pos f] at h
      rw [Bool.and_eq_true] at f
      obtain ⟨f1, e1⟩ := flM_V rx f.1
      rw [← Option.some.inj h, ← e1 ry f.2]
      exact .flat f1 (flM_V ry f.2).1
    · rw [if_neg f] at h; simp at h
  | succ n ih =>
    intro x y v w b h rx ry
    unfold mEq at h
    by_cases f : (flM x && flM y) = true
    · rw [if_pos f] at h
      rw [Bool.and_eq_true] at f
      obtain ⟨f1, e1⟩ := flM_V rx f.1
      rw [← Option.some.inj h, ← e1 ry f.2]
      exact .flat f1 (flM_V ry f.2).1
    · rw [if_neg f] at h
      dsimp only at h
      split at h
      · rename_i hs
        cases h
        cases x <;> cases y <;> simp [sameR] at hs
        subst hs
        simp only [VR] at rx ry
        obtain ⟨a, rfl, ha⟩ := rx
        obtain ⟨c, rfl, hc⟩ := ry
        rw [ha] at hc; cases hc
        exact .same
      · exact (mEqS_sound hr (fun h a b => ih h a b) h rx ry).2
theorem mRc_sound (hr : HR K G ρ H mh) {x y : MV} {v w : V} {b : Bool} (h : mRc mh x y = some b) (rx : VR K G ρ H x v) (ry : VR K G ρ H y w) : RcW K H DEP v w b := by
  unfold mRc at h
  split at h
  · simp only [VR] at rx ry; subst rx ry
    cases h
    rename_i p q
    have : decide (p = q) = decide (V.byt p = V.byt q) := by simp
    rw [this]
    exact .sc rfl
  · split at h
    · rename_i f
      cases h
      have hh : scal v w = true ∧ eqF x y = decide (v = w) := by
        cases x <;> simp [scM, flM] at f <;> cases y <;> simp [scM, flM] at f <;> simp only [VR] at rx ry <;> subst rx ry <;> first
          | exact ⟨rfl, by simp [eqF, Bool.beq_eq_decide_eq]⟩
          | exact ⟨rfl, by simp [eqF]⟩
      rw [hh.2]
      exact .sc hh.1
    · exact (mEqS_sound hr (fun h a b => mEq_sound hr h a b) h rx ry).1
end
end Mo
namespace Mo
open PySem L2
abbrev SZ : Nat := 16777216
theorem SZ_eq : sizeLine = SZ := sizeLine_eq
abbrev OV := Option (MV × MH)
def lift : OV → Rz MV
  | some (v, h) => .ok v h
  | none => .no
def eC (v : MV) : ME := fun _ h => .ok v h
def eV (i : Nat) : ME := fun s h => match s[i]? with
  | some (some v) => .ok v h
  | _ => .no
def e1 (f : MV → MH → OV) (a : ME) : ME := fun s h => (a s h).bnd fun x h1 => lift (f x h1)
def e2 (f : MV → MV → MH → OV) (a b : ME) : ME := fun s h => (a s h).bnd fun x h1 => (b s h1).bnd fun y h2 => lift (f x y h2)
def eA (f : List MV → MH → OV) (as : MEs) : ME := fun s h => (as s h).bnd fun xs h1 => lift (f xs h1)
def eM (f : MV → List MV → MH → OV) (a : ME) (as : MEs) : ME := fun s h => (a s h).bnd fun x h1 => (as s h1).bnd fun xs h2 => lift (f x xs h2)
def aNil : MEs := fun _ h => .ok [] h
def aCons (a : ME) (r : MEs) : MEs := fun s h => (a s h).bnd fun x h1 => (r s h1).bnd fun xs h2 => .ok (x :: xs) h2
def eIf (c : MB) (a b : ME) : ME := fun s h => (c s h).bnd fun k h1 => if k = true then a s h1 else b s h1
def asB (v : MV) : Option Bool := match v with | .bl b => some b | _ => none
def bB (a : ME) : MB := fun s h => (a s h).bnd fun x h1 => match asB x with
  | some b => .ok b h1
  | none => .no
def tru (h : MH) : MV → Option Bool
  | .non => some false
  | .bl b => some b
  | .int i => some (i != 0)
  | .str x => if x.length ≤ SZ then some ((x.length : Int) != 0) else none
  | .ref i => match h[i]? with
    | some (.lst xs) => some (!xs.isEmpty)
    | some (.dk kvs) => some (!kvs.isEmpty)
    | _ => none
  | .tup xs => some (!xs.isEmpty)
  | .ktp xs => some (!xs.isEmpty)
  | _ => none
def bT (a : ME) : MB := fun s h => (a s h).bnd fun x h1 => match tru h1 x with
  | some b => .ok b h1
  | none => .no
def bAnd (a b : MB) : MB := fun s h => (a s h).bnd fun k h1 => if k = true then b s h1 else .ok false h1
def bOr (a b : MB) : MB := fun s h => (a s h).bnd fun k h1 => if k = true then .ok true h1 else b s h1
def bNot (a : MB) : MB := fun s h => (a s h).bnd fun k h1 => .ok (!k) h1
def eAnd (a b : ME) : ME := fun s h => (a s h).bnd fun x h1 => match asB x with
  | some k => if k = true then b s h1 else .ok (.bl false) h1
  | none => .no
def eOr (a b : ME) : ME := fun s h => (a s h).bnd fun x h1 => match asB x with
  | some k => if k = true then .ok (.bl true) h1 else b s h1
  | none => .no
def eNot (a : ME) : ME := fun s h => (a s h).bnd fun x h1 => match asB x with
  | some k => .ok (.bl (!k)) h1
  | none => .no
section
variable {X : Cx} {G : String → Option V} {W : WX} {a b c : Expr} {ma mb mc : ME} {pos : Pos} {σ : St} {H : Hp} {Q : VK} {ρ : List Addr} {mh : MH}
theorem ro_lift {P : MV → List Addr → Hp → Prop} {o : OV} (h : RO X.K G W σ P ρ H (lift o)) : ∃ v h1, o = some (v, h1) ∧ ∀ ρ1 H1, Ext X.K ρ H ρ1 H1 → HR X.K G ρ1 H1 h1 → P v ρ1 H1 := by
  cases o with
  | none => exact False.elim h
  | some p => exact ⟨p.1, p.2, rfl, h⟩
theorem m_var {i : Nat} {x : Str} (h : PE X (.Name x pos) (tVar i)) : PE X (.Name x pos) (RE X.K G W (eV i)) := pe_imp h fun σ H Q ⟨ρ, sm, mh, r, q⟩ => by
  unfold eV at q
  cases e : sm[i]? with
  | none => rw [e] at q; exact False.elim q
  | some o =>
    cases o with
    | none => rw [e] at q; exact False.elim q
    | some v =>
      rw [e] at q
      obtain ⟨w, h1, h2⟩ := r.sr.2 i v e
      exact ⟨w, h1, q.ok r.hr w h2⟩
theorem m_const {v : MV} {w : V} (h : PE X a (tC w)) (hv : ∀ ρ H, VR X.K G ρ H v w) : PE X a (RE X.K G W (eC v)) := pe_imp h fun σ H Q ⟨ρ, sm, mh, r, q⟩ => q.ok r.hr w (hv ρ H)
theorem m_int {i : Int} {j} : PE X (.Constant (.int i) j pos) (RE X.K G W (eC (.int i))) := m_const pe_int fun _ _ => by simp [VR]
theorem m_bl {i : Bool} {j} : PE X (.Constant (.bool i) j pos) (RE X.K G W (eC (.bl i))) := m_const pe_bl fun _ _ => by simp [VR]
theorem m_non {j} : PE X (.Constant .none j pos) (RE X.K G W (eC .non)) := m_const pe_non fun _ _ => by simp [VR]
theorem m_str {x : Str} {j} : PE X (.Constant (.str x) j pos) (RE X.K G W (eC (.str x))) := m_const pe_str fun _ _ => by simp [VR]
def R2S (K : PySem.W.Frag) (G : String → Option V) (r : R2) (f : MV → MV → MH → OV) : Prop :=
  ∀ {ρ : List Addr} {H : Hp} {mh mh1 : MH} {x y z : MV} {v w : V} {Q : VK}, HR K G ρ H mh → VR K G ρ H x v → VR K G ρ H y w → f x y mh = some (z, mh1) →
    (∀ ρ1 H1, Ext K ρ H ρ1 H1 → HR K G ρ1 H1 mh1 → ∀ v1, VR K G ρ1 H1 z v1 → Q v1 H1) → r v w H Q
theorem op_re {r : R2} {f : MV → MV → MH → OV} (hs : R2S X.K G r f) (σ : St) (H : Hp) (Q : VK) (h : RE X.K G W (e2 f ma mb) σ H Q) : tOp r (RE X.K G W ma) (RE X.K G W mb) σ H Q := by
  obtain ⟨ρ, sm, mh, r0, q⟩ := h
  refine re_bnd r0 q fun x ρ1 H1 mh1 v x1 r1 rv q1 => ?_
  refine re_bnd r1 q1 fun y ρ2 H2 mh2 w x2 r2 rw' q2 => ?_
  obtain ⟨z, h1, e, k⟩ := ro_lift q2
  exact hs r2.hr (rv.ext x2) rw' e k
theorem m_op {op : Operator} {r : R2} {f : MV → MV → MH → OV} (ho : OpR X (binaryOp op) r) (hs : R2S X.K G r f) (ha : PE X a (RE X.K G W ma)) (hb : PE X b (RE X.K G W mb)) : PE X (.BinOp a op b pos) (RE X.K G W (e2 f ma mb)) :=
  pe_imp (pe_op ho ha hb) (op_re hs)
theorem m_cmp {op : CmpOp} {r : R2} {f : MV → MV → MH → OV} (ho : OpR X (compareOp op) r) (hs : R2S X.K G r f) (ha : PE X a (RE X.K G W ma)) (hb : PE X b (RE X.K G W mb)) (hm : behindInMarks op b = false) : PE X (.Compare a [op] [b] pos) (RE X.K G W (e2 f ma mb)) :=
  pe_imp (pe_cmpR ho ha hb hm) (op_re hs)
theorem bB_re {m : ME} (σ : St) (H : Hp) (Q : Bool → Hp → Prop) (h : RT X.K G W (bB m) σ H Q) : RE X.K G W m σ H fun x H' => ∃ k, x = .bl k ∧ Q k H' := by
  obtain ⟨ρ, sm, mh, r0, q⟩ := h
  refine re_bnd r0 q fun x ρ1 H1 mh1 v x1 r1 rv q1 => ?_
  cases x with
  | bl k => simp only [VR] at rv; exact ⟨k, rv, RO.ok (P := PB Q) q1 r1.hr⟩
  | _ => exact False.elim q1
theorem m_cmpT {op : CmpOp} {r : R2} {f : MV → MV → MH → OV} (ho : OpR X (compareOp op) r) (hs : R2S X.K G r f) (ha : PE X a (RE X.K G W ma)) (hb : PE X b (RE X.K G W mb)) (hm : behindInMarks op b = false) : PT X (.Compare a [op] [b] pos) (RT X.K G W (bB (e2 f ma mb))) := by
  refine pt_imp (pt_cmpR ho ha hb hm) fun σ H Q h => ?_
  have h' := bB_re σ H Q h
  exact op_re hs σ H _ h'
theorem m_truth {m : ME} (ha : PE X a (RE X.K G W m)) (he : ∀ whole, isTrue a X.env whole = (do let v ← whole; standAt a.pos; holding [v] (truthy v))) : PT X a (RT X.K G W (bT m)) := by
  refine pt_imp (pt_truth ha he) fun σ H Q ⟨ρ, sm, mh, r0, q⟩ => ?_
  refine re_bnd r0 q fun x ρ1 H1 mh1 v x1 r1 rv q1 => ?_
  cases e : tru mh1 x with
  | none => rw [e] at q1; exact False.elim q1
  | some k =>

    rw [e] at q1
    refine ⟨k, ?_, RO.ok (P := PB Q) q1 r1.hr⟩
    cases x with
    | non => simp only [VR] at rv; subst rv; simp [tru] at e; exact e
    | bl b => simp only [VR] at rv; subst rv; simp [tru] at e; exact e.symm
    | int i => simp only [VR] at rv; subst rv; simp only [tru, Option.some.injEq] at e; exact e.symm
    | str y =>
      simp only [VR] at rv; subst rv
      simp only [tru] at e
      split at e
      · rename_i hy
        exact ⟨by rw [SZ_eq]; exact hy, (Option.some.inj e).symm⟩
      · simp at e
    | tup xs =>
      obtain ⟨p, vs, rfl, h1, h2⟩ := rv.tup rfl
      simp only [tru, Option.some.injEq] at e
      refine .inr (.inl ⟨vs, h1, ?_⟩)
      rw [← e]
      have := h2.length
      cases xs <;> cases vs <;> simp at this <;> rfl
    | ktp xs =>
      obtain ⟨p, vs, rfl, h1, h2⟩ := rv.tup rfl
      simp only [tru, Option.some.injEq] at e
      refine .inr (.inl ⟨vs, h1, ?_⟩)
      rw [← e]
      have := h2.length
      cases xs <;> cases vs <;> simp at this <;> rfl
    | ref i =>
      simp only [tru] at e
      split at e
      · rename_i xs q2
        obtain ⟨p, vs, rfl, _, h1, h2⟩ := r1.hr.lst q2 rv
        refine .inl ⟨vs, SqL.of h1, ?_⟩
        rw [← Option.some.inj e]
        have := h2.length
        cases xs <;> cases vs <;> simp at this <;> rfl
      · rename_i kvs q2
        simp only [VR] at rv
        obtain ⟨p, rfl, hp⟩ := rv
        obtain ⟨vs, h1, h2⟩ := r1.hr.get q2 hp
        refine .inr (.inr ⟨vs, h1, ?_⟩)
        rw [← Option.some.inj e]
        cases kvs with
        | nil => simp only [KRs] at h2; subst h2; rfl
        | cons p r => simp only [KRs] at h2; obtain ⟨_, _, rfl, _⟩ := h2; rfl
      · simp at e
    | _ => simp [tru] at e
variable {tA tB : MB} {rest : List Expr}
theorem m_and1 (ha : PT X a (RT X.K G W tA)) : PW X (.BoolOp .And [a] pos) (RT X.K G W tA) := pw_and1 ha
theorem m_or1 (ha : PT X a (RT X.K G W tA)) : PW X (.BoolOp .Or [a] pos) (RT X.K G W tA) := pw_or1 ha
theorem pw_imp {e : Expr} {t t' : TT} (h : PW X e t) (i : ∀ σ H Q, t' σ H Q → t σ H Q) : PW X e t' := ⟨fun wh pins s σ H Q I q => h.run wh pins s σ H Q I (i σ H Q q)⟩
theorem m_and (ha : PT X a (RT X.K G W tA)) (hb : PW X (.BoolOp .And (b :: rest) pos) (RT X.K G W tB)) : PW X (.BoolOp .And (a :: b :: rest) pos) (RT X.K G W (bAnd tA tB)) := by
  refine pw_imp (pw_and ha hb) fun σ H Q ⟨ρ, sm, mh, r0, q⟩ => ?_
  refine rt_bnd r0 q fun k ρ1 H1 mh1 x1 r1 q1 => ?_
  cases k with
  | true => rw [if_pos rfl] at q1 ⊢; exact ⟨_, _, _, r1, q1⟩
  | false => rw [if_neg Bool.false_ne_true] at q1 ⊢; exact RO.ok (P := PB Q) q1 r1.hr
theorem m_or (ha : PT X a (RT X.K G W tA)) (hb : PW X (.BoolOp .Or (b :: rest) pos) (RT X.K G W tB)) : PW X (.BoolOp .Or (a :: b :: rest) pos) (RT X.K G W (bOr tA tB)) := by
  refine pw_imp (pw_or ha hb) fun σ H Q ⟨ρ, sm, mh, r0, q⟩ => ?_
  refine rt_bnd r0 q fun k ρ1 H1 mh1 x1 r1 q1 => ?_
  cases k with
  | true => rw [if_pos rfl] at q1 ⊢; exact RO.ok (P := PB Q) q1 r1.hr
  | false => rw [if_neg Bool.false_ne_true] at q1 ⊢; exact ⟨_, _, _, r1, q1⟩
theorem m_not (ha : PT X a (RT X.K G W tA)) : PT X (.UnaryOp .Not a pos) (RT X.K G W (bNot tA)) := by
  refine pt_imp (pt_not ha) fun σ H Q ⟨ρ, sm, mh, r0, q⟩ => ?_
  exact rt_bnd r0 q fun k ρ1 H1 mh1 x1 r1 q1 => RO.ok (P := PB Q) q1 r1.hr
theorem m_eone {op} {m : ME} (h : PE X a (RE X.K G W m)) : PE X (.BoolOp op [a] pos) (RE X.K G W m) := pe_one h
theorem m_eand (ha : PE X a (RE X.K G W ma)) (hb : PE X (.BoolOp .And (b :: rest) pos) (RE X.K G W mb)) : PE X (.BoolOp .And (a :: b :: rest) pos) (RE X.K G W (eAnd ma mb)) := by
  refine pe_imp (pe_and ha hb) fun σ H Q ⟨ρ, sm, mh, r0, q⟩ => ?_
  refine re_bnd r0 q fun x ρ1 H1 mh1 v x1 r1 rv q1 => ?_
  cases x with
  | bl k =>
    simp only [VR] at rv
    refine ⟨k, rv, ?_⟩
    cases k with
    | true => rw [if_pos rfl]; exact ⟨_, _, _, r1, q1⟩
    | false => rw [if_neg Bool.false_ne_true]; exact RO.ok (P := PV X.K G Q) q1 r1.hr _ (by simp [VR])
  | _ => exact False.elim q1
theorem m_eor (ha : PE X a (RE X.K G W ma)) (hb : PE X (.BoolOp .Or (b :: rest) pos) (RE X.K G W mb)) : PE X (.BoolOp .Or (a :: b :: rest) pos) (RE X.K G W (eOr ma mb)) := by
  refine pe_imp (pe_or ha hb) fun σ H Q ⟨ρ, sm, mh, r0, q⟩ => ?_
  refine re_bnd r0 q fun x ρ1 H1 mh1 v x1 r1 rv q1 => ?_
  cases x with
  | bl k =>
    simp only [VR] at rv
    refine ⟨k, rv, ?_⟩
    cases k with
    | true => rw [if_pos rfl]; exact RO.ok (P := PV X.K G Q) q1 r1.hr _ (by simp [VR])
    | false => rw [if_neg Bool.false_ne_true]; exact ⟨_, _, _, r1, q1⟩
  | _ => exact False.elim q1
theorem m_enot (ha : PE X a (RE X.K G W ma)) : PE X (.UnaryOp .Not a pos) (RE X.K G W (eNot ma)) := by
  refine pe_imp (pe_not ha) fun σ H Q ⟨ρ, sm, mh, r0, q⟩ => ?_
  refine re_bnd r0 q fun x ρ1 H1 mh1 v x1 r1 rv q1 => ?_
  cases x with
  | bl k =>
    simp only [VR] at rv
    exact ⟨k, rv, RO.ok (P := PV X.K G Q) q1 r1.hr _ (by simp [VR])⟩
  | _ => exact False.elim q1
end
section
variable {X : Cx} {G : String → Option V} {W : WX} {e : Expr} {es : List Expr} {m : ME} {ms : MEs} {pos : Pos}
theorem m_anil : PA X [] (RA X.K G W aNil) := pa_imp pa_nil fun σ H Q ⟨ρ, sm, mh, r, q⟩ => RO.ok (P := PVs X.K G Q) q r.hr _ VRs.nil
theorem m_acons (ha : PE X e (RE X.K G W m)) (hr : PA X es (RA X.K G W ms)) (hs : starEach (e :: es) X.env = (false, eval e X.env) :: starEach es X.env := by rfl) : PA X (e :: es) (RA X.K G W (aCons m ms)) := by
  refine pa_imp (pa_cons ha hr hs) fun σ H Q ⟨ρ, sm, mh, r0, q⟩ => ?_
  refine re_bnd r0 q fun x ρ1 H1 mh1 v x1 r1 rv q1 => ?_
  exact ra_bnd r1 q1 fun xs ρ2 H2 mh2 vs x2 r2 rvs q2 => RO.ok (P := PVs X.K G Q) q2 r2.hr _ (VRs.cons (rv.ext x2) rvs)
end
def fLst (xs : List MV) (h : MH) : OV := if xs.length ≤ SZ then some (.ref h.length, h ++ [.lst xs]) else none
def fTup (xs : List MV) (h : MH) : OV := if xs.length ≤ SZ then some (.tup xs, h) else none
section
variable {X : Cx} {G : String → Option V} {W : WX} {e : Expr} {es : List Expr} {m : ME} {ms : MEs} {pos : Pos} {ρ : List Addr} {H : Hp} {mh : MH}
theorem new_lst {K : PySem.W.Frag} {xs : List MV} {vs : List V} {p : Addr} (hr : HR K G ρ H mh) (r : VRs K G ρ H xs vs) (hp : H p = none) :
    HR K G (ρ ++ [p]) (upd H p (.lst vs)) (mh ++ [.lst xs]) ∧ Ext K ρ H (ρ ++ [p]) (upd H p (.lst vs)) ∧ VR K G (ρ ++ [p]) (upd H p (.lst vs)) (.ref mh.length) (.ref p) := by
  have x : Ext K ρ H (ρ ++ [p]) (upd H p (.lst vs)) := ext_new hp
  obtain ⟨h1, h2⟩ := hr.new (u := .lst vs) (o := .lst xs) hp ⟨vs, upd_same, r.ext x⟩
  exact ⟨h1, h2, by simp only [VR]; exact ⟨p, rfl, by rw [← hr.len]; simp⟩⟩
theorem m_lst (h : PA X es (RA X.K G W ms)) : PE X (.List es pos) (RE X.K G W (eA fLst ms)) := by
  refine pe_imp (pe_lst h) fun σ H Q ⟨ρ, sm, mh, r0, q⟩ => ?_
  refine ra_bnd r0 q fun xs ρ1 H1 mh1 vs x1 r1 rvs q1 => ?_
  obtain ⟨z, h1, e, k⟩ := ro_lift q1
  unfold fLst at e
  split at e
  · rename_i hl
    obtain ⟨rfl, rfl⟩ := Prod.mk.inj (Option.some.inj e)
    refine ⟨by rw [SZ_eq, ← rvs.length]; exact hl, fun p hp => ?_⟩
    obtain ⟨a1, a2, a3⟩ := new_lst r1.hr rvs hp
    exact k _ _ a2 a1 _ a3
  · cases e
theorem new_tup {K : PySem.W.Frag} {xs : List MV} {vs : List V} {p : Addr} (hr : HR K G ρ H mh) (r : VRs K G ρ H xs vs) (hp : H p = none) :
    HR K G ρ (upd H p (.tup vs)) mh ∧ Ext K ρ H ρ (upd H p (.tup vs)) ∧ VR K G ρ (upd H p (.tup vs)) (.tup xs) (.ref p) := by
  have x : Ext K ρ H ρ (upd H p (.tup vs)) := ext_new0 hp
  refine ⟨⟨hr.len, hr.nd, fun i o e => ?_⟩, x, by simp only [VR]; exact ⟨p, vs, rfl, upd_same, r.ext x⟩⟩
  obtain ⟨a, ha, q⟩ := hr.obj i o e
  refine ⟨a, ha, q.keep x fun u hu => ?_⟩
  rw [upd_ne (ne_of_none hu hp)]
  exact hu
theorem m_tup {x1} (h : PA X es (RA X.K G W ms)) : PE X (.Tuple es x1 pos) (RE X.K G W (eA fTup ms)) := by
  refine pe_imp (pe_tup h) fun σ H Q ⟨ρ, sm, mh, r0, q⟩ => ?_
  refine ra_bnd r0 q fun xs ρ1 H1 mh1 vs x1 r1 rvs q1 => ?_
  obtain ⟨z, h1, e, k⟩ := ro_lift q1
  unfold fTup at e
  split at e
  · rename_i hl
    obtain ⟨rfl, rfl⟩ := Prod.mk.inj (Option.some.inj e)
    refine ⟨by rw [SZ_eq, ← rvs.length]; exact hl, fun p hp => ?_⟩
    obtain ⟨a1, a2, a3⟩ := new_tup r1.hr rvs hp
    exact k _ _ a2 a1 _ a3
  · cases e
end
end Mo
namespace Mo
open PySem L2
section
variable {X : Cx}
def InW (K : PySem.W.Frag) (x y : V) (H : Hp) (r : Bool) : Prop := ∃ (p : Addr) (ys : List V) (bs : List Bool), y = .ref p ∧ (SqL K H p ys ∨ SqT K H p ys) ∧ bs.length = ys.length ∧
  (∀ (j : Nat) (y : V) (b : Bool), ys[j]? = some y → bs[j]? = some b → EqW K H 7 y x b) ∧ r = bs.any id
def rInM (K : PySem.W.Frag) (neg : Bool) : R2 := fun x y H Q => ∃ r, InW K x y H r ∧ Q (.bl (if neg then !r else r)) H
open Classical in
noncomputable def evU (ys : List V) (bs : List Bool) (u : Value) : Bool := decide (∃ (j : Nat) (y : V), ys[j]? = some y ∧ RelV y u ∧ bs[j]? = some true)
open Classical in
theorem any_evU {ys : List V} {bs : List Bool} {is : List Value} (r : Vals ys is) (hl : bs.length = ys.length) : is.any (evU ys bs) = bs.any id := by
  have l := r.length
  rw [Bool.eq_iff_iff, List.any_eq_true, List.any_eq_true]
  constructor
  · rintro ⟨u, hu, h⟩
    obtain ⟨j, y, h1, h2, h3⟩ := of_decide_eq_true h
    exact ⟨true, List.mem_of_getElem? h3, rfl⟩
  · rintro ⟨b, hb, h⟩
    have hb' : b = true := h
    subst hb'
    obtain ⟨j, hj, e⟩ := List.mem_iff_getElem.mp hb
    have h1 : ys[j]? = some ys[j] := List.getElem?_eq_getElem (by omega)
    obtain ⟨u, h2, h3⟩ := r.get h1
    exact ⟨u, List.mem_of_getElem? h2, decide_eq_true ⟨j, _, h1, h3, by rw [List.getElem?_eq_getElem hj, e]⟩⟩
open Classical in
theorem evU_at {pins : List (Addr × Obj)} {σ : St} {H : Hp} {s : Shared} {x : V} {v : Value} {ys : List V} {bs : List Bool} {is : List Value} (I : Inv X pins σ H s) (rx : RelV x v) (r : Vals ys is) (hl : bs.length = ys.length)
    (he : ∀ (j : Nat) (y : V) (b : Bool), ys[j]? = some y → bs[j]? = some b → EqW X.K H 7 y x b) {A : Around} (hu : A.units + 7 < cLine) : ∀ u ∈ is, SeqAt.EqAt A s u v (evU ys bs u) := fun u hm => by
  by_cases h : ∃ (j : Nat) (y : V), ys[j]? = some y ∧ RelV y u ∧ bs[j]? = some true
  · have e : evU ys bs u = true := decide_eq_true h
    rw [e]
    obtain ⟨j, y, h1, h2, h3⟩ := h
    exact (he j y true h1 h3).at I hu h2 rx
  · have e : evU ys bs u = false := decide_eq_false h
    rw [e]
    obtain ⟨j, hj, q⟩ := List.mem_iff_getElem.mp hm
    have l := r.length
    have h1 : ys[j]? = some ys[j] := List.getElem?_eq_getElem (by omega)
    obtain ⟨w, h2, h3⟩ := r.get h1
    rw [List.getElem?_eq_getElem hj, q] at h2
    cases h2
    have h4 : bs[j]? = some bs[j] := List.getElem?_eq_getElem (by omega)
    have h5 : bs[j] = false := by
      cases q : bs[j] with
      | false => rfl
      | true => exact absurd ⟨j, _, h1, h3, by rw [h4, q]⟩ h
    rw [h5] at h4
    exact (he j _ false h1 h4).at I hu h3 rx
theorem op_inM (hu : X.A.units + 64 < cLine) : OpR X (compareOp .In) (rInM X.K false) := by
  intro pins s σ H x y v u Q I rx ry h
  obtain ⟨r, ⟨p, ys, bs, rfl, hq, hl, he, rfl⟩, q⟩ := h
  cases ry
  rcases hq with hq | hq
  · obtain ⟨its, r, pl, hz⟩ := I.list hq
    refine SeqAt.in_listAt (evU ys bs) pl.isList (fun w hw => evU_at I rx r hl he (by show X.A.units + 1 + 7 < cLine; omega) w (by simpa using hw)) ⟨.bl _, H, I, rfl, ?_⟩
    rw [show its.toArray.any (evU ys bs) = its.any (evU ys bs) by simp, any_evU r hl]
    exact q
  · obtain ⟨its, r, pl, hz⟩ := I.tuple hq
    refine SeqAt.in_tupleAt (evU ys bs) pl (fun w hw => evU_at I rx r hl he (by show X.A.units + 1 + 7 < cLine; omega) w (by simpa using hw)) ⟨.bl _, H, I, rfl, ?_⟩
    rw [show its.toArray.any (evU ys bs) = its.any (evU ys bs) by simp, any_evU r hl]
    exact q
theorem op_notInM (hu : X.A.units + 64 < cLine) : OpR X (compareOp .NotIn) (rInM X.K true) := by
  intro pins s σ H x y v u Q I rx ry h
  obtain ⟨r, ⟨p, ys, bs, rfl, hq, hl, he, rfl⟩, q⟩ := h
  cases ry
  rcases hq with hq | hq
  · obtain ⟨its, r, pl, hz⟩ := I.list hq
    refine SeqAt.notIn_listAt (evU ys bs) pl.isList (fun w hw => evU_at I rx r hl he (by show X.A.units + 1 + 7 < cLine; omega) w (by simpa using hw)) ⟨.bl _, H, I, rfl, ?_⟩
    rw [show its.toArray.any (evU ys bs) = its.any (evU ys bs) by simp, any_evU r hl]
    exact q
  · obtain ⟨its, r, pl, hz⟩ := I.tuple hq
    refine SeqAt.notIn_tupleAt (evU ys bs) pl (fun w hw => evU_at I rx r hl he (by show X.A.units + 1 + 7 < cLine; omega) w (by simpa using hw)) ⟨.bl _, H, I, rfl, ?_⟩
    rw [show its.toArray.any (evU ys bs) = its.any (evU ys bs) by simp, any_evU r hl]
    exact q
end
def insM (f : MV → Option Bool) : List MV → Option (List Bool)
  | [] => some []
  | y :: ys => match f y, insM f ys with
    | some b, some bs => some (b :: bs)
    | _, _ => none
def seqOf (h : MH) : MV → Option (List MV)
  | .ref i => match h[i]? with
    | some (.lst xs) => some xs
    | _ => none
  | .tup xs => some xs
  | .ktp xs => some xs
  | .frl xs => some xs
  | _ => none
def mIn (h : MH) (x y : MV) : Option Bool := match y with
  | .str z => match x with
    | .str c => match c.cps with
      | ⟨[n]⟩ => some (decide (n ∈ z.cps.toList))
      | _ => none
    | _ => none
  | y => match seqOf h y with
    | some ys => (insM (fun y => mEq 7 h y x) ys).map fun bs => bs.any id
    | none => none
section
variable {K : PySem.W.Frag} {G : String → Option V} {ρ : List Addr} {H : Hp} {mh : MH}
theorem seq_V (hr : HR K G ρ H mh) {y : MV} {v : V} {ys : List MV} (e : seqOf mh y = some ys) (r : VR K G ρ H y v) : ∃ p vs, v = .ref p ∧ (SqL K H p vs ∨ SqT K H p vs) ∧ VRs K G ρ H ys vs := by
  unfold seqOf at e
  split at e
  · split at e
    · rename_i q
      cases e
      obtain ⟨a, vs, rfl, _, h1, h2⟩ := hr.lst q r
      exact ⟨a, vs, rfl, .inl (SqL.of h1), h2⟩
    · cases e
  · cases e
    obtain ⟨a, vs, rfl, h1, h2⟩ := r.tup rfl
    exact ⟨a, vs, rfl, .inr h1, h2⟩
  · cases e
    obtain ⟨a, vs, rfl, h1, h2⟩ := r.tup rfl
    exact ⟨a, vs, rfl, .inr h1, h2⟩
  · cases e
    simp only [VR] at r
    obtain ⟨a, vs, rfl, h1, h2⟩ := r
    exact ⟨a, vs, rfl, .inl h1.sq, h2⟩
  · cases e
theorem insM_sound {f : MV → Option Bool} {P : V → Bool → Prop} (hf : ∀ {y v b}, f y = some b → VR K G ρ H y v → P v b) : ∀ {ys : List MV} {vs : List V} {bs : List Bool}, insM f ys = some bs → VRs K G ρ H ys vs →
    bs.length = vs.length ∧ ∀ (j : Nat) (y : V) (b : Bool), vs[j]? = some y → bs[j]? = some b → P y b
  | [], _, _, h, r => by simp only [VRs] at r; subst r; cases h; exact ⟨rfl, fun j y b e => by simp at e⟩
  | y :: ys, _, bs, h, r => by
    simp only [VRs] at r
    obtain ⟨v, vs, rfl, q, t⟩ := r
    simp only [insM] at h
    cases h1 : f y with
    | none => rw [h1] at h; simp at h
    | some a =>
      cases h2 : insM f ys with
      | none => rw [h1, h2] at h; simp at h
      | some cs =>
        rw [h1, h2] at h
        cases h
        obtain ⟨i1, i2⟩ := insM_sound hf h2 t
        refine ⟨by simp [i1], fun j y' b e1 e2 => ?_⟩
        cases j with
        | zero => simp at e1 e2; subst e1 e2; exact hf h1 q
        | succ j => simp at e1 e2; exact i2 j _ _ e1 e2
end
def ob (b : Option Bool) (h : MH) : OV := b.map fun b => (.bl b, h)
def fAdd (x y : MV) (h : MH) : OV := match x, y with
  | .int i, .int j => some (.int (i + j), h)
  | .str a, .str b => if a.length + b.length ≤ SZ then some (.str (a ++ b), h) else none
  | .ref i, .ref j => match h[i]?, h[j]? with
    | some (.lst xs), some (.lst ys) => if xs.length + ys.length ≤ SZ then some (.ref h.length, h ++ [.lst (xs ++ ys)]) else none
    | _, _ => none
  | _, _ => none
def fSub (x y : MV) (h : MH) : OV := match x, y with
  | .int i, .int j => some (.int (i - j), h)
  | _, _ => none
def fMul (x y : MV) (h : MH) : OV := match x, y with
  | .int i, .int j => if (-(2 ^ 64) < i ∧ i < 2 ^ 64) ∨ (-(2 ^ 64) < j ∧ j < 2 ^ 64) then some (.int (i * j), h) else none
  | _, _ => none
def fMod (x y : MV) (h : MH) : OV := match x, y with
  | .int i, .int j => if 0 < j then some (.int (i % j), h) else none
  | _, _ => none
def fDiv (x y : MV) (h : MH) : OV := match x, y with
  | .int i, .int j => if 0 < j ∧ j < 1073741824 then some (.int (i / j), h) else none
  | _, _ => none
def fPow (x y : MV) (h : MH) : OV := match x, y with
  | .int i, .int j => if 0 ≤ j ∧ j ≤ 1000000 ∧ i.natAbs < 2 ^ 64 then some (.int (i ^ j.toNat), h) else none
  | _, _ => none
def fNeg (x : MV) (h : MH) : OV := match x with
  | .int i => some (.int (-i), h)
  | _ => none
def fEq (x y : MV) (h : MH) : OV := ob (mRc h x y) h
def fNe (x y : MV) (h : MH) : OV := ob ((mRc h x y).map not) h
def fIn (x y : MV) (h : MH) : OV := ob (mIn h x y) h
def fNotIn (x y : MV) (h : MH) : OV := ob ((mIn h x y).map not) h
def fCmp (p : Int → Int → Bool) (x y : MV) (h : MH) : OV := match x, y with
  | .int i, .int j => some (.bl (p i j), h)
  | _, _ => none
abbrev fLt := fCmp fun i j => decide (i < j)
abbrev fLe := fCmp fun i j => decide (i ≤ j)
abbrev fGt := fCmp fun i j => decide (j < i)
def isN : MV → Bool | .non => true | _ => false
def fIsN (x y : MV) (h : MH) : OV := match y with
  | .non => some (.bl (isN x), h)
  | _ => none
def fNotN (x y : MV) (h : MH) : OV := match y with
  | .non => some (.bl (!isN x), h)
  | _ => none
section
variable {X : Cx} {G : String → Option V}
theorem s_add : R2S X.K G (fun x y H Q => (rI0 fun i j => .int (i + j)) x y H Q ∨ (fun x y H Q => ∃ i j, x = .str i ∧ y = .str j ∧ i.length + j.length ≤ sizeLine ∧ Q (.str (i ++ j)) H : R2) x y H Q ∨ rCat x y H Q) fAdd := by
  intro ρ H mh mh1 x y z v w Q hr rx ry e k
  unfold fAdd at e
  split at e
  · simp only [VR] at rx ry; subst rx ry; cases e
    exact .inl ⟨_, _, rfl, rfl, k _ _ Ext.refl hr _ (by simp [VR])⟩
  · split at e
    · simp only [VR] at rx ry; subst rx ry; cases e
      rename_i hz
      exact .inr (.inl ⟨_, _, rfl, rfl, by rw [SZ_eq]; exact hz, k _ _ Ext.refl hr _ (by simp [VR])⟩)
    · cases e
  · split at e
    · split at e
      · rename_i e1 e2 hz
        cases e
        obtain ⟨a, vs, rfl, _, h1, r1⟩ := hr.lst e1 rx
        obtain ⟨b, ws, rfl, _, h2, r2⟩ := hr.lst e2 ry
        refine .inr (.inr ⟨_, _, _, _, rfl, rfl, h1, h2, by rw [SZ_eq, ← r1.length, ← r2.length]; exact hz, fun p hp => ?_⟩)
        obtain ⟨a1, a2, a3⟩ := new_lst hr (r1.append r2) hp
        exact k _ _ a2 a1 _ a3
      · cases e
    · cases e
  · cases e
theorem o_add : OpR X (binaryOp .Add) (fun x y H Q => (rI0 fun i j => .int (i + j)) x y H Q ∨ (fun x y H Q => ∃ i j, x = .str i ∧ y = .str j ∧ i.length + j.length ≤ sizeLine ∧ Q (.str (i ++ j)) H : R2) x y H Q ∨ rCat x y H Q) := op_add.or (op_add_str.or op_cat)
theorem s_ints {C : Int → Int → Prop} {g : Int → Int → Int} {f : MV → MV → MH → OV} (hf : ∀ x y h z h1, f x y h = some (z, h1) → ∃ i j, x = .int i ∧ y = .int j ∧ C i j ∧ z = .int (g i j) ∧ h1 = h) : R2S X.K G (rI C fun i j => .int (g i j)) f := by
  intro ρ H mh mh1 x y z v w Q hr rx ry e k
  obtain ⟨i, j, rfl, rfl, hc, rfl, rfl⟩ := hf _ _ _ _ _ e
  simp only [VR] at rx ry; subst rx ry
  exact ⟨_, _, rfl, rfl, hc, k _ _ Ext.refl hr _ (by simp [VR])⟩
theorem s_sub : R2S X.K G (rI0 fun i j => .int (i - j)) fSub := by
  intro ρ H mh mh1 x y z v w Q hr rx ry e k
  unfold fSub at e
  split at e
  · simp only [VR] at rx ry; subst rx ry; cases e
    exact ⟨_, _, rfl, rfl, k _ _ Ext.refl hr _ (by simp [VR])⟩
  · cases e
theorem s_mul : R2S X.K G (rI CMul fun i j => .int (i * j)) fMul := s_ints fun x y h z h1 e => by
  unfold fMul at e
  split at e
  · split at e
    · rename_i hc; cases e; exact ⟨_, _, rfl, rfl, hc, rfl, rfl⟩
    · cases e
  · cases e
theorem s_mod : R2S X.K G (rI (fun _ j => 0 < j) fun i j => .int (i % j)) fMod := s_ints fun x y h z h1 e => by
  unfold fMod at e
  split at e
  · split at e
    · rename_i hc; cases e; exact ⟨_, _, rfl, rfl, hc, rfl, rfl⟩
    · cases e
  · cases e
theorem s_div : R2S X.K G (rI CDiv fun i j => .int (i / j)) fDiv := s_ints fun x y h z h1 e => by
  unfold fDiv at e
  split at e
  · split at e
    · rename_i hc; cases e; exact ⟨_, _, rfl, rfl, hc, rfl, rfl⟩
    · cases e
  · cases e
theorem s_pow : R2S X.K G (rI CPow fun i j => .int (i ^ j.toNat)) fPow := s_ints fun x y h z h1 e => by
  unfold fPow at e
  split at e
  · split at e
    · rename_i hc; cases e; exact ⟨_, _, rfl, rfl, hc, rfl, rfl⟩
    · cases e
  · cases e
theorem s_cmp {p : Int → Int → Bool} : R2S X.K G (rI0 fun i j => .bl (p i j)) (fCmp p) := by
  intro ρ H mh mh1 x y z v w Q hr rx ry e k
  unfold fCmp at e
  split at e
  · simp only [VR] at rx ry; subst rx ry; cases e
    exact ⟨_, _, rfl, rfl, k _ _ Ext.refl hr _ (by simp [VR])⟩
  · cases e
theorem s_eq : R2S X.K G (rEqM X.K) fEq := by
  intro ρ H mh mh1 x y z v w Q hr rx ry e k
  unfold fEq ob at e
  cases h : mRc mh x y with
  | none => rw [h] at e; cases e
  | some b =>
    rw [h] at e; cases e
    exact ⟨b, mRc_sound hr h rx ry, k _ _ Ext.refl hr _ (by simp [VR])⟩
theorem s_ne : R2S X.K G (rNeM X.K) fNe := by
  intro ρ H mh mh1 x y z v w Q hr rx ry e k
  unfold fNe ob at e
  cases h : mRc mh x y with
  | none => rw [h] at e; cases e
  | some b =>
    rw [h] at e; cases e
    exact ⟨b, mRc_sound hr h rx ry, k _ _ Ext.refl hr _ (by simp [VR])⟩
theorem mIn_sound {K : PySem.W.Frag} {ρ : List Addr} {H : Hp} {mh : MH} {x y : MV} {v w : V} {b : Bool} (hr : HR K G ρ H mh) (e : mIn mh x y = some b) (rx : VR K G ρ H x v) (ry : VR K G ρ H y w) :
    (∃ (c : Nat) (z : Str), v = .str ⟨#[c]⟩ ∧ w = .str z ∧ b = decide (c ∈ z.cps.toList)) ∨ InW K v w H b := by
  unfold mIn at e
  split at e
  · split at e
    · split at e
      · rename_i z0 c n hn
        cases e
        simp only [VR] at rx ry
        subst ry
        refine .inl ⟨n, _, ?_, rfl, rfl⟩
        rw [rx]
        cases z0 with
        | mk cps =>
          have hn' : cps = #[n] := hn
          rw [hn']
      · cases e
    · cases e
  · split at e
    · rename_i ys hs
      cases hi : insM (fun y => mEq 7 mh y x) ys with
      | none => rw [hi] at e; cases e
      | some bs =>
        rw [hi] at e; cases e
        obtain ⟨p, vs, rfl, hq, r⟩ := seq_V hr hs ry
        obtain ⟨l, he⟩ := insM_sound (P := fun y b => EqW K H 7 y v b) (fun h r => mEq_sound hr h r rx) hi r
        exact .inr ⟨p, vs, bs, rfl, hq, l, he, rfl⟩
    · cases e
abbrev rInA (K : PySem.W.Frag) (neg : Bool) : R2 := fun x y H Q => (∃ (c : Nat) (z : Str), x = .str ⟨#[c]⟩ ∧ y = .str z ∧ Q (.bl (if neg then !decide (c ∈ z.cps.toList) else decide (c ∈ z.cps.toList))) H) ∨ rInM K neg x y H Q
theorem o_in (hu : X.A.units + 64 < cLine) : OpR X (compareOp .In) (rInA X.K false) := op_in_sign.or (op_inM hu)
theorem o_notIn (hu : X.A.units + 64 < cLine) : OpR X (compareOp .NotIn) (rInA X.K true) := op_notIn_sign.or (op_notInM hu)
theorem s_in : R2S X.K G (rInA X.K false) fIn := by
  intro ρ H mh mh1 x y z v w Q hr rx ry e k
  unfold fIn ob at e
  cases h : mIn mh x y with
  | none => rw [h] at e; cases e
  | some b =>
    rw [h] at e; cases e
    rcases mIn_sound hr h rx ry with ⟨c, z, rfl, rfl, rfl⟩ | q
    · exact .inl ⟨c, z, rfl, rfl, k _ _ Ext.refl hr _ (by simp [VR])⟩
    · exact .inr ⟨b, q, k _ _ Ext.refl hr _ (by simp [VR])⟩
theorem s_notIn : R2S X.K G (rInA X.K true) fNotIn := by
  intro ρ H mh mh1 x y z v w Q hr rx ry e k
  unfold fNotIn ob at e
  cases h : mIn mh x y with
  | none => rw [h] at e; cases e
  | some b =>
    rw [h] at e; cases e
    rcases mIn_sound hr h rx ry with ⟨c, z, rfl, rfl, rfl⟩ | q
    · exact .inl ⟨c, z, rfl, rfl, k _ _ Ext.refl hr _ (by simp [VR])⟩
    · exact .inr ⟨b, q, k _ _ Ext.refl hr _ (by simp [VR])⟩
theorem isN_V {K : PySem.W.Frag} {ρ : List Addr} {H : Hp} {x : MV} {v : V} (rx : VR K G ρ H x v) : isN x = decide (v = .non) := by
  cases x with
  | non => simp only [VR] at rx; subst rx; rfl
  | glo s => simp only [VR] at rx; obtain ⟨_, _, rfl⟩ := rx; simp [isN]
  | tup xs => obtain ⟨a, vs, rfl, _⟩ := rx.tup rfl; simp [isN]
  | ktp xs => obtain ⟨a, vs, rfl, _⟩ := rx.tup rfl; simp [isN]
  | frl xs => simp only [VR] at rx; obtain ⟨a, vs, rfl, _⟩ := rx; simp [isN]
  | ref i => simp only [VR] at rx; obtain ⟨a, rfl, _⟩ := rx; simp [isN]
  | bl _ => simp only [VR] at rx; subst rx; simp [isN]
  | int _ => simp only [VR] at rx; subst rx; simp [isN]
  | str _ => simp only [VR] at rx; subst rx; simp [isN]
  | byt _ => simp only [VR] at rx; subst rx; simp [isN]
  | ty _ => simp only [VR] at rx; subst rx; simp [isN]
  | exa _ _ _ => simp only [VR] at rx; obtain ⟨rfl, _⟩ := rx; simp [isN]
theorem s_isN : R2S X.K G (fun x y H Q => y = .non ∧ Q (.bl (decide (x = .non))) H) fIsN := by
  intro ρ H mh mh1 x y z v w Q hr rx ry e k
  unfold fIsN at e
  split at e
  · cases e
    simp only [VR] at ry
    refine ⟨ry, ?_⟩
    rw [← isN_V rx]
    exact k _ _ Ext.refl hr _ (by simp [VR])
  · cases e
theorem s_notN : R2S X.K G (fun x y H Q => y = .non ∧ Q (.bl (!decide (x = .non))) H) fNotN := by
  intro ρ H mh mh1 x y z v w Q hr rx ry e k
  unfold fNotN at e
  split at e
  · cases e
    simp only [VR] at ry
    refine ⟨ry, ?_⟩
    rw [← isN_V rx]
    exact k _ _ Ext.refl hr _ (by simp [VR])
  · cases e
end
end Mo
namespace Mo
open PySem L2
def keyM : MV → Option Key
  | .int i => some (.inl i)
  | .str x => some (.inr x)
  | _ => none
def keysM : List MV → Option (List Key)
  | [] => some []
  | x :: xs => match keyM x, keysM xs with
    | some k, some ks => some (k :: ks)
    | _, _ => none
def valM {κ : Type} [DecidableEq κ] (kvs : List (κ × MV)) (k : κ) : Option MV := (kvs.find? fun kv => decide (kv.1 = k)).map (·.2)
def putM {κ : Type} [DecidableEq κ] (kvs : List (κ × MV)) (k : κ) (v : MV) : List (κ × MV) :=
  if (kvs.any fun kv => decide (kv.1 = k)) = true then kvs.map (fun kv => if kv.1 = k then (kv.1, v) else kv) else kvs ++ [(k, v)]
section
variable {K : PySem.W.Frag} {G : String → Option V} {ρ : List Addr} {H : Hp} {mh : MH}
theorem keyM_V {x : MV} {v : V} {k : Key} (e : keyM x = some k) (r : VR K G ρ H x v) : v = kV k := by
  cases x <;> simp [keyM] at e <;> subst e <;> simp only [VR] at r <;> exact r
theorem keysM_V : ∀ {xs : List MV} {vs : List V} {ks : List Key}, keysM xs = some ks → VRs K G ρ H xs vs → vs = ks.map kV
  | [], _, _, e, r => by simp only [VRs] at r; subst r; cases e; rfl
  | x :: xs, _, ks, e, r => by
    simp only [VRs] at r
    obtain ⟨v, vs, rfl, q, t⟩ := r
    simp only [keysM] at e
    cases h1 : keyM x with
    | none => rw [h1] at e; simp at e
    | some a =>
      cases h2 : keysM xs with
      | none => rw [h1, h2] at e; simp at e
      | some b =>
        rw [h1, h2] at e; cases e
        rw [keyM_V h1 q, keysM_V h2 t]
        rfl
theorem KRs.length {κ : Type} : ∀ {xs : List (κ × MV)} {vs : List (κ × V)}, KRs K G ρ H id xs vs → xs.length = vs.length
  | [], _, h => by simp only [KRs] at h; subst h; rfl
  | x :: xs, _, h => by
    simp only [KRs] at h
    obtain ⟨v, r, rfl, _, t⟩ := h
    simp [KRs.length t]
theorem valM_V {κ : Type} [DecidableEq κ] {k : κ} : ∀ {xs : List (κ × MV)} {vs : List (κ × V)}, KRs K G ρ H id xs vs →
    (∀ x, valM xs k = some x → ∃ v, valV vs k = some v ∧ VR K G ρ H x v) ∧ (valM xs k = none → valV vs k = none)
  | [], _, h => by simp only [KRs] at h; subst h; exact ⟨fun x e => by simp [valM] at e, fun _ => rfl⟩
  | x :: xs, _, h => by
    simp only [KRs] at h
    obtain ⟨v, r, rfl, q, t⟩ := h
    obtain ⟨i1, i2⟩ := valM_V (k := k) t
    by_cases e : x.1 = k
    · have e1 : valM (x :: xs) k = some x.2 := by simp [valM, List.find?_cons, e]
      have e2 : valV ((id x.1, v) :: r) k = some v := valV_pos e
      rw [e1, e2]
      exact ⟨fun y h => by cases h; exact ⟨v, rfl, q⟩, fun h => by cases h⟩
    · have e1 : valM (x :: xs) k = valM xs k := by simp [valM, List.find?_cons, e]
      have e2 : valV ((id x.1, v) :: r) k = valV r k := valV_neg e
      rw [e1, e2]
      exact ⟨i1, i2⟩
theorem any_V {κ : Type} [DecidableEq κ] {k : κ} : ∀ {xs : List (κ × MV)} {vs : List (κ × V)}, KRs K G ρ H id xs vs → (xs.any fun kv => decide (kv.1 = k)) = (vs.any fun kv => decide (kv.1 = k))
  | [], _, h => by simp only [KRs] at h; subst h; rfl
  | x :: xs, _, h => by
    simp only [KRs] at h
    obtain ⟨v, r, rfl, q, t⟩ := h
    rw [List.any_cons, List.any_cons, any_V t]
    rfl
theorem map_V {κ : Type} [DecidableEq κ] {k : κ} {y : MV} {w : V} (hy : VR K G ρ H y w) : ∀ {xs : List (κ × MV)} {vs : List (κ × V)}, KRs K G ρ H id xs vs →
    KRs K G ρ H id (xs.map (fun kv => if kv.1 = k then (kv.1, y) else kv)) (vs.map (fun kv => if kv.1 = k then (kv.1, w) else kv))
  | [], _, h => by simp only [KRs] at h; subst h; rfl
  | x :: xs, _, h => by
    simp only [KRs] at h
    obtain ⟨v, r, rfl, q, t⟩ := h
    rw [List.map_cons, List.map_cons]
    refine ⟨if x.1 = k then w else v, _, ?_, ?_, map_V hy t⟩
    · by_cases e : x.1 = k
      · have e' : (id x.1, v).1 = k := e
        rw [if_pos e', if_pos e, if_pos e]
        first | done | rfl
      · have e' : ¬ (id x.1, v).1 = k := e
        rw [if_neg e', if_neg e, if_neg e]
        first | done | rfl
    · by_cases e : x.1 = k
      · rw [if_pos e, if_pos e]; exact hy
      · rw [if_neg e, if_neg e]; exact q
theorem KRs.append {κ κ' : Type} {j : κ → κ'} : ∀ {xs ys : List (κ × MV)} {vs ws : List (κ' × V)}, KRs K G ρ H j xs vs → KRs K G ρ H j ys ws → KRs K G ρ H j (xs ++ ys) (vs ++ ws)
  | [], _, _, _, h, k => by simp only [KRs] at h; subst h; exact k
  | x :: xs, _, _, _, h, k => by
    simp only [KRs] at h
    obtain ⟨v, r, rfl, q, t⟩ := h
    exact ⟨v, _, rfl, q, KRs.append t k⟩
theorem putM_V {κ : Type} [DecidableEq κ] {k : κ} {y : MV} {w : V} {xs : List (κ × MV)} {vs : List (κ × V)} (h : KRs K G ρ H id xs vs) (hy : VR K G ρ H y w) : KRs K G ρ H id (putM xs k y) (putK vs k w) := by
  unfold putM putK
  rw [any_V h]
  by_cases e : (vs.any fun kv => decide (kv.1 = k)) = true
  · rw [if_pos e, if_pos e]; exact map_V hy h
  · rw [if_neg e, if_neg e]; exact h.append ⟨w, [], rfl, hy, rfl⟩
theorem HR.dk (hr : HR K G ρ H mh) {i : Nat} {xs : List (Key × MV)} {v : V} (e : mh[i]? = some (.dk xs)) (r : VR K G ρ H (.ref i) v) : ∃ a vs, v = .ref a ∧ ρ[i]? = some a ∧ H a = some (.dK vs) ∧ KRs K G ρ H id xs vs := by
  simp only [VR] at r
  obtain ⟨a, rfl, ha⟩ := r
  obtain ⟨vs, h1, h2⟩ := hr.get e ha
  exact ⟨a, vs, rfl, ha, h1, h2⟩
theorem HR.dt (hr : HR K G ρ H mh) {i : Nat} {xs : List (List Key × MV)} {v : V} (e : mh[i]? = some (.dt xs)) (r : VR K G ρ H (.ref i) v) : ∃ a vs, v = .ref a ∧ ρ[i]? = some a ∧ H a = some (.dT vs) ∧ KRs K G ρ H id xs vs := by
  simp only [VR] at r
  obtain ⟨a, rfl, ha⟩ := r
  obtain ⟨vs, h1, h2⟩ := hr.get e ha
  exact ⟨a, vs, rfl, ha, h1, h2⟩
end
def fIx (x y : MV) (h : MH) : OV := match y with
  | .int i => match x with
    | .str z => if z.length ≤ SZ then (atI z.cps.toList i).map fun c => (.str ⟨#[c]⟩, h) else none
    | x => match seqOf h x with
      | some xs => (atI xs i).map fun v => (v, h)
      | none => none
  | _ => none
theorem atI_V {K : PySem.W.Frag} {G : String → Option V} {ρ : List Addr} {H : Hp} {xs : List MV} {vs : List V} {i : Int} {z : MV} (r : VRs K G ρ H xs vs) (e : atI xs i = some z) : ∃ v, atI vs i = some v ∧ VR K G ρ H z v := by
  unfold atI at e ⊢
  rw [← r.length]
  cases h : ixN xs.length i with
  | none => rw [h] at e; simp at e
  | some j => rw [h] at e; exact r.get e
section
variable {X : Cx} {G : String → Option V} {W : WX} {a b c : Expr} {ma mb mc : ME} {pos : Pos}
theorem s_ix : R2S X.K G (rIx X.K) fIx := by
  intro ρ H mh mh1 x y z v w Q hr rx ry e k
  unfold fIx at e
  split at e
  · rename_i i
    simp only [VR] at ry; subst ry
    split at e
    · rename_i z0
      simp only [VR] at rx; subst rx
      split at e
      · rename_i hz
        cases h : atI z0.cps.toList i with
        | none => rw [h] at e; cases e
        | some c =>
          rw [h] at e; cases e
          exact .inr (.inr ⟨_, _, c, rfl, rfl, by rw [SZ_eq]; exact hz, h, k _ _ Ext.refl hr _ (by simp [VR])⟩)
      · cases e
    · split at e
      · rename_i xs hs
        cases h : atI xs i with
        | none => rw [h] at e; cases e
        | some u =>
          rw [h] at e; cases e
          obtain ⟨p, vs, rfl, hq, r⟩ := seq_V hr hs rx
          obtain ⟨u1, h1, h2⟩ := atI_V r h
          rcases hq with hq | hq
          · exact .inl ⟨p, vs, i, u1, rfl, rfl, hq, h1, k _ _ Ext.refl hr _ h2⟩
          · exact .inr (.inl ⟨p, vs, i, u1, rfl, rfl, hq, h1, k _ _ Ext.refl hr _ h2⟩)
      · cases e
  · cases e
end
def dGet (h : MH) (x y : MV) : Option (Option MV) := match x with
  | .ref i => match h[i]? with
    | some (.dk kvs) => (keyM y).map fun k => valM kvs k
    | some (.fdk _ _ kvs) => (keyM y).map fun k => valM kvs k
    | some (.dt kvs) => match y with
      | .tup ys => (keysM ys).map fun k => valM kvs k
      | _ => none
    | _ => none
  | _ => none
def fDGet (x y : MV) (h : MH) : OV := match dGet h x y with
  | some (some v) => some (v, h)
  | _ => none
def fDIn (y x : MV) (h : MH) : OV := match dGet h x y with
  | some o => some (.bl o.isSome, h)
  | _ => none
def fDNotIn (y x : MV) (h : MH) : OV := match dGet h x y with
  | some o => some (.bl (!o.isSome), h)
  | _ => none
section
variable {X : Cx} {G : String → Option V} {W : WX} {a b c : Expr} {ma mb mc : ME} {pos : Pos}
theorem dGet_V {K : PySem.W.Frag} {ρ : List Addr} {H : Hp} {mh : MH} {x y : MV} {v w : V} {o : Option MV} (hr : HR K G ρ H mh) (e : dGet mh x y = some o) (rx : VR K G ρ H x v) (ry : VR K G ρ H y w) :
    ∃ a r, v = .ref a ∧ DGet H a w r ∧ (∀ z, o = some z → ∃ u, r = some u ∧ VR K G ρ H z u) ∧ (o = none → r = none) := by
  unfold dGet at e
  split at e
  · split at e
    · rename_i kvs h1
      obtain ⟨a, vs, rfl, _, h2, h3⟩ := hr.dk h1 rx
      cases h4 : keyM y with
      | none => rw [h4] at e; cases e
      | some k =>
        rw [h4] at e; cases e
        obtain ⟨q1, q2⟩ := valM_V (k := k) h3
        have := keyM_V h4 ry
        subst this
        exact ⟨a, _, rfl, DGet.k h2, q1, q2⟩
    · rename_i od vs kvs h1
      simp only [VR] at rx
      obtain ⟨a, rfl, ha⟩ := rx
      obtain ⟨h2, h3⟩ := hr.get h1 ha
      cases h4 : keyM y with
      | none => rw [h4] at e; cases e
      | some k =>
        rw [h4] at e; cases e
        obtain ⟨q1, q2⟩ := valM_V (k := k) h3
        have := keyM_V h4 ry
        subst this
        exact ⟨a, _, rfl, .inl ⟨_, k, .inr ⟨_, h2⟩, rfl, rfl⟩, q1, q2⟩
    · rename_i kvs h1
      obtain ⟨a, vs, rfl, _, h2, h3⟩ := hr.dt h1 rx
      split at e
      · rename_i ys
        cases h4 : keysM ys with
        | none => rw [h4] at e; cases e
        | some k =>
          rw [h4] at e; cases e
          obtain ⟨q1, q2⟩ := valM_V (k := k) h3
          simp only [VR] at ry
          obtain ⟨b, ws, rfl, h5, h6⟩ := ry
          have h7 := keysM_V h4 h6
          subst h7
          exact ⟨a, _, rfl, DGet.t h2 h5, q1, q2⟩
      · cases e
    · cases e
  · cases e
end
end Mo
namespace Mo
open PySem L2
def CallS (K : PySem.W.Frag) (G : String → Option V) (r : List V → Hp → VK → Prop) (f : List MV → MH → OV) : Prop :=
  ∀ {ρ : List Addr} {H : Hp} {mh mh1 : MH} {xs : List MV} {z : MV} {vs : List V} {Q : VK}, HR K G ρ H mh → VRs K G ρ H xs vs → f xs mh = some (z, mh1) →
    (∀ ρ1 H1, Ext K ρ H ρ1 H1 → HR K G ρ1 H1 mh1 → ∀ v1, VR K G ρ1 H1 z v1 → Q v1 H1) → r vs H Q
theorem VRs.one {K : PySem.W.Frag} {G : String → Option V} {ρ : List Addr} {H : Hp} {x : MV} {vs : List V} (h : VRs K G ρ H [x] vs) : ∃ v, vs = [v] ∧ VR K G ρ H x v := by
  simp only [VRs] at h
  obtain ⟨v, r, rfl, q, rfl⟩ := h
  exact ⟨v, rfl, q⟩
theorem VRs.two {K : PySem.W.Frag} {G : String → Option V} {ρ : List Addr} {H : Hp} {x y : MV} {vs : List V} (h : VRs K G ρ H [x, y] vs) : ∃ v w, vs = [v, w] ∧ VR K G ρ H x v ∧ VR K G ρ H y w := by
  simp only [VRs] at h
  obtain ⟨v, r, rfl, q, w, r', rfl, q', rfl⟩ := h
  exact ⟨v, w, rfl, q, q'⟩
section
variable {X : Cx} {G : String → Option V} {W : WX} {e : Expr} {es : List Expr} {ms : MEs} {x : Str} {p pos : Pos} {id T : String} {r : List V → Hp → VK → Prop} {f : List MV → MH → OV}
theorem cb_re (hs : CallS X.K G r f) (σ : St) (H : Hp) (Q : VK) (h : RE X.K G W (eA f ms) σ H Q) : tCB r (RA X.K G W ms) σ H Q := by
  obtain ⟨ρ, sm, mh, r0, q⟩ := h
  refine ra_bnd r0 q fun xs ρ1 H1 mh1 vs x1 r1 rvs q1 => ?_
  obtain ⟨z, h1, e, k⟩ := ro_lift q1
  exact hs r1.hr rvs e k
theorem m_callB (hc : CallR X (.builtin id) r) (hs : CallS X.K G r f) (hg : Gl X x) (hm : X.mg x = none) (hv : bootBuiltins x = some (.builtin id)) (ha : PA X (e :: es) (RA X.K G W ms)) (hn : x ≠ "__name__" := by decide) (hdb : (x == ("__debug__" : Str)) = false := by decide)
    (he : starEach (e :: es) X.env = (false, eval e X.env) :: starEach es X.env := by rfl) (hpl : (backTo pos (starEach es X.env)).any (·.1) = false := by rfl) : PE X (.Call (.Name x p) (e :: es) [] pos) (RE X.K G W (eA f ms)) :=
  pe_imp (pe_callB hc hg hm hv ha hn hdb he hpl) (cb_re hs)
theorem m_callTy (hc : CallR X (.type T) r) (hs : CallS X.K G r f) (hg : Gl X x) (hm : X.mg x = none) (hv : bootBuiltins x = some (.type T)) (ha : PA X (e :: es) (RA X.K G W ms)) (hn : x ≠ "__name__" := by decide) (hdb : (x == ("__debug__" : Str)) = false := by decide)
    (he : starEach (e :: es) X.env = (false, eval e X.env) :: starEach es X.env := by rfl) (hpl : (backTo pos (starEach es X.env)).any (·.1) = false := by rfl) : PE X (.Call (.Name x p) (e :: es) [] pos) (RE X.K G W (eA f ms)) :=
  pe_imp (pe_callTy hc hg hm hv ha hn hdb he hpl) (cb_re hs)
theorem CallR.or {fv : Value} {r r' : List V → Hp → VK → Prop} (h : CallR X fv r) (h' : CallR X fv r') : CallR X fv (fun xs H Q => r xs H Q ∨ r' xs H Q) := by
  intro pins s σ H xs us Q I rs q
  rcases q with q | q
  · exact h pins s σ H xs us Q I rs q
  · exact h' pins s σ H xs us Q I rs q
end
def fLen (xs : List MV) (h : MH) : OV := match xs with
  | [.str z] => if z.length ≤ SZ then some (.int z.length, h) else none
  | [.ref i] => match h[i]? with
    | some (.lst ys) => some (.int ys.length, h)
    | some (.dk ys) => some (.int ys.length, h)
    | _ => none
  | [.tup ys] => some (.int ys.length, h)
  | [.ktp ys] => some (.int ys.length, h)
  | [.frl ys] => some (.int ys.length, h)
  | _ => none
def fInt (xs : List MV) (h : MH) : OV := match xs with
  | [.int i] => some (.int i, h)
  | [.bl b] => some (.int (if b then 1 else 0), h)
  | _ => none
def fAbs (xs : List MV) (h : MH) : OV := match xs with
  | [.int i] => some (.int (if i < 0 then -i else i), h)
  | _ => none
section
variable {X : Cx} {G : String → Option V}
abbrev rLenA (K : PySem.W.Frag) : List V → Hp → VK → Prop := fun xs H Q => (∃ x n, xs = [x] ∧ LenV K x H n ∧ Q (.int n) H) ∨ ∃ a kvs, xs = [V.ref a] ∧ H a = some (.dK kvs) ∧ Q (.int kvs.length) H
theorem c_len : CallR X (.builtin "len") (rLenA X.K) := call_len.or call_lenD
theorem s_len : CallS X.K G (rLenA X.K) fLen := by
  intro ρ H mh mh1 xs z vs Q hr rvs e k
  unfold fLen at e
  split at e
  · obtain ⟨v, rfl, rv⟩ := rvs.one
    simp only [VR] at rv; subst rv
    split at e
    · rename_i hz
      cases e
      exact .inl ⟨_, _, rfl, ⟨by rw [SZ_eq]; exact hz, rfl⟩, k _ _ Ext.refl hr _ (by simp [VR])⟩
    · cases e
  · obtain ⟨v, rfl, rv⟩ := rvs.one
    split at e
    · rename_i q
      cases e
      obtain ⟨a, ws, rfl, _, h1, h2⟩ := hr.lst q rv
      exact .inl ⟨_, _, rfl, .inl ⟨_, SqL.of h1, h2.length⟩, k _ _ Ext.refl hr _ (by simp [VR])⟩
    · rename_i q
      cases e
      obtain ⟨a, ws, rfl, _, h1, h2⟩ := hr.dk q rv
      refine .inr ⟨_, _, rfl, h1, k _ _ Ext.refl hr _ ?_⟩
      simp only [VR]; rw [h2.length]
    · cases e
  · obtain ⟨v, rfl, rv⟩ := rvs.one
    cases e
    obtain ⟨a, ws, rfl, h1, h2⟩ := rv.tup rfl
    exact .inl ⟨_, _, rfl, .inr ⟨_, h1, h2.length⟩, k _ _ Ext.refl hr _ (by simp [VR])⟩
  · obtain ⟨v, rfl, rv⟩ := rvs.one
    cases e
    obtain ⟨a, ws, rfl, h1, h2⟩ := rv.tup rfl
    exact .inl ⟨_, _, rfl, .inr ⟨_, h1, h2.length⟩, k _ _ Ext.refl hr _ (by simp [VR])⟩
  · obtain ⟨v, rfl, rv⟩ := rvs.one
    cases e
    simp only [VR] at rv
    obtain ⟨a, ws, rfl, h1, h2⟩ := rv
    exact .inl ⟨_, _, rfl, .inl ⟨_, h1.sq, h2.length⟩, k _ _ Ext.refl hr _ (by simp [VR])⟩
  · cases e
theorem s_int : CallS X.K G (fun xs H Q => (∃ i, xs = [.int i] ∧ Q (.int i) H) ∨ ∃ k, xs = [.bl k] ∧ Q (.int (if k then 1 else 0)) H) fInt := by
  intro ρ H mh mh1 xs z vs Q hr rvs e k
  unfold fInt at e
  split at e
  · obtain ⟨v, rfl, rv⟩ := rvs.one
    simp only [VR] at rv; subst rv
    cases e
    exact .inl ⟨_, rfl, k _ _ Ext.refl hr _ (by simp [VR])⟩
  · obtain ⟨v, rfl, rv⟩ := rvs.one
    simp only [VR] at rv; subst rv
    cases e
    exact .inr ⟨_, rfl, k _ _ Ext.refl hr _ (by simp [VR])⟩
  · cases e
theorem s_abs : CallS X.K G (fun xs H Q => ∃ i, xs = [.int i] ∧ Q (.int (if i < 0 then -i else i)) H) fAbs := by
  intro ρ H mh mh1 xs z vs Q hr rvs e k
  unfold fAbs at e
  split at e
  · obtain ⟨v, rfl, rv⟩ := rvs.one
    simp only [VR] at rv; subst rv
    cases e
    exact ⟨_, rfl, k _ _ Ext.refl hr _ (by simp [VR])⟩
  · cases e
end
def tyM (h : MH) : MV → Option MV
  | .non => some (.ty "NoneType")
  | .bl _ => some (.ty "bool")
  | .int _ => some (.ty "int")
  | .str _ => some (.ty "str")
  | .byt _ => some (.ty "bytes")
  | .tup _ => some (.ty "tuple")
  | .ktp _ => some (.ty "tuple")
  | .ref i => match h[i]? with
    | some (.lst _) => some (.ty "list")
    | some (.dk _) => some (.ty "dict")
    | some (.dt _) => some (.ty "dict")
    | some (.ins c _) => some (.glo c)
    | _ => none
  | _ => none
def tabB (a b : String) : Option Bool := if a = b then some true else if a = "bool" ∧ b = "int" then some true else
  if ["NoneType", "bool", "int", "str", "bytes", "tuple", "list", "dict"].contains a ∧ ["bool", "int", "str", "bytes", "tuple", "list", "dict"].contains b then some false else none
abbrev Own := Bool × String → Bool × String → Option Bool
def isiM (own : Own) (t c : MV) : Option Bool := match t, c with
  | .ty a, .ty b => tabB a b
  | .ty a, .glo b => own (false, a) (true, b)
  | .glo a, .glo b => own (true, a) (true, b)
  | .glo a, .ty b => own (true, a) (false, b)
  | _, _ => none
def fIsi (own : Own) (xs : List MV) (h : MH) : OV := match xs with
  | [x, c] => match tyM h x with
    | some t => ob (isiM own t c) h
    | none => none
  | _ => none
def clsV (G : String → Option V) : MV → Option Value
  | .ty a => some (.type a)
  | .glo s => match G s with
    | some (.ref C) => some (.ref C)
    | _ => none
  | _ => none
structure IsiOk (K : PySem.W.Frag) (G : String → Option V) (own : Own) : Prop where
  gref : ∀ s v, G s = some v → ∃ C, v = .ref C
  ok : ∀ t c b tv cv, isiM own t c = some b → clsV G t = some tv → clsV G c = some cv → PySem.W.kitOne K tv cv = some b
  ins : ∀ s C c b, G s = some (.ref C) → isiM own (.glo s) c = some b → Cls K C ∧ PySem.W.findIn K (.ref C) "__class__" = some (some (.builtin "object.__class__")) ∧
    PySem.W.specialIn K (.builtin "object.__class__") "__get__" = some (some (.builtin "getset_descriptor.__get__")) ∧ PySem.W.takesIn K (.builtin "object.__class__") = some true ∧ PySem.W.mroIn K C (.type "object") = some true
section
variable {X : Cx} {G : String → Option V}
theorem cls_V {K : PySem.W.Frag} {own : Own} (T : IsiOk K G own) {ρ : List Addr} {H : Hp} {c : MV} {w : V} (hc : (∃ n, c = .ty n) ∨ ∃ s, c = .glo s) (r : VR K G ρ H c w) : ∃ cv, clsV G c = some cv ∧ ClsV w cv := by
  rcases hc with ⟨n, rfl⟩ | ⟨s, rfl⟩
  · simp only [VR] at r; subst r; exact ⟨_, rfl, .ty n⟩
  · simp only [VR] at r
    obtain ⟨C, rfl⟩ := T.gref s w r.1
    exact ⟨.ref C, by simp [clsV, r.1], .own C⟩
theorem isiM_cls {own : Own} {t c : MV} {b : Bool} (h : isiM own t c = some b) : (∃ n, c = .ty n) ∨ ∃ s, c = .glo s := by
  cases c with
  | ty n => exact .inl ⟨n, rfl⟩
  | glo s => exact .inr ⟨s, rfl⟩
  | _ => cases t <;> simp [isiM] at h
theorem ty_V {K : PySem.W.Frag} {own : Own} (T : IsiOk K G own) {ρ : List Addr} {H : Hp} {mh : MH} {x t c : MV} {v : V} {b : Bool} (hr : HR K G ρ H mh) (e : tyM mh x = some t) (rv : VR K G ρ H x v) (hb : isiM own t c = some b) :
    ∃ tv, clsV G t = some tv ∧ TyX K H v tv := by
  unfold tyM at e
  split at e
  · cases e; simp only [VR] at rv; subst rv; exact ⟨_, rfl, .base .non⟩
  · cases e; simp only [VR] at rv; subst rv; exact ⟨_, rfl, .base (.bl _)⟩
  · cases e; simp only [VR] at rv; subst rv; exact ⟨_, rfl, .base (.int _)⟩
  · cases e; simp only [VR] at rv; subst rv; exact ⟨_, rfl, .base (.str _)⟩
  · cases e; simp only [VR] at rv; subst rv; exact ⟨_, rfl, .byt _⟩
  · cases e; simp only [VR] at rv; obtain ⟨a, vs, rfl, h1, _⟩ := rv; exact ⟨_, rfl, .base (.tup h1)⟩
  · cases e; simp only [VR] at rv; obtain ⟨a, vs, rfl, h1, _⟩ := rv; obtain ⟨_, o, e1, e2, _⟩ := h1; exact ⟨_, rfl, .kTuple e1 e2⟩
  · split at e
    · rename_i q; cases e; obtain ⟨a, ws, rfl, _, h1, h2⟩ := hr.lst q rv; exact ⟨_, rfl, .base (.lst h1)⟩
    · rename_i q; cases e; obtain ⟨a, ws, rfl, _, h1, h2⟩ := hr.dk q rv; exact ⟨_, rfl, .base (.dK h1)⟩
    · rename_i q; cases e; obtain ⟨a, ws, rfl, _, h1, h2⟩ := hr.dt q rv; exact ⟨_, rfl, .base (.dT h1)⟩
    · rename_i q; cases e
      simp only [VR] at rv
      obtain ⟨a, rfl, ha⟩ := rv
      obtain ⟨C, dx, vs, h1, h2, _⟩ := hr.get q ha
      obtain ⟨i1, i2, i3, i4, i5⟩ := T.ins _ C c b h1 hb
      exact ⟨.ref C, by simp [clsV, h1], .base (.ins h2 i1 i2 i3 i4 i5)⟩
    · cases e
  · cases e
theorem s_isi {own : Own} (T : IsiOk X.K G own) : CallS X.K G (rIsi X.K) (fIsi own) := by
  intro ρ H mh mh1 xs z vs Q hr rvs e k
  unfold fIsi at e
  split at e
  · rename_i x c
    obtain ⟨v, w, rfl, rv, rw'⟩ := rvs.two
    cases h1 : tyM mh x with
    | none => rw [h1] at e; cases e
    | some t =>
      rw [h1] at e
      cases h2 : isiM own t c with
      | none => simp only [h2] at e; cases e
      | some b =>
        simp only [h2] at e; cases e
        obtain ⟨cv, c1, c2⟩ := cls_V T (isiM_cls h2) rw'
        obtain ⟨tv, t1, t2⟩ := ty_V T hr h1 rv h2
        exact ⟨v, w, tv, cv, b, rfl, c2, t2, T.ok t c b tv cv h2 t1 c1, k _ _ Ext.refl hr _ (by simp [VR])⟩
  · cases e
end
def call (n : Nat) (f : MF) (ms : MEs) : ME := fun s h => (ms s h).bnd fun xs h1 => if xs.length = n then f xs h1 else .no
theorem ro_any {α : Type} {K : PySem.W.Frag} {G : String → Option V} {W : WX} {σ : St} {P : α → List Addr → Hp → Prop} {ρ : List Addr} {H : Hp} {r : Rz α} (h : RO K G W σ P ρ H r) : RO K G (fun cls d _ H => W cls d σ H) [] P ρ H r := by
  cases r with
  | ok v m => exact h
  | err e m => exact h
  | no => exact h
section
variable {X : Cx} {G : String → Option V} {W : WX} {e : Expr} {es : List Expr} {ms : MEs} {x : Str} {p pos : Pos} {k n : Nat} {fa : Addr} {fd : FuncData} {ps : List Str} {f : MF}
theorem call_re {σ : St} {H : Hp} {Q : VK} (h : RE X.K G W (call n f ms) σ H Q) : RA X.K G W ms σ H fun vs H1 => SpM X.K G n f vs H1 Q (WE W σ) := by
  obtain ⟨ρ, sm, mh, r0, q⟩ := h
  refine ra_bnd r0 q fun xs ρ1 H1 mh1 vs x1 r1 rvs q1 => ?_
  by_cases hl : xs.length = n
  · rw [if_pos hl] at q1
    exact ⟨ρ1, xs, mh1, r1.hr, rvs, by rw [← rvs.length]; exact hl, ro_any q1⟩
  · rw [if_neg hl] at q1; exact False.elim q1
theorem m_call (F : FnOk X.prog X.w X.K X.mg X.base (L2.CX X.prog X.w) k fa fd ps (SpM X.K G n f)) (hr : Room k X.A) (hg : Gl X x) (hm : X.mg x = some (.ref fa)) (hk : PySem.W.keepIn X.K (.ref fa) = true) (hb : Binds X.K fd ps []) (tk : Takes X W)
    (ha : PA X (e :: es) (RA X.K G W ms)) (hdb : (x == ("__debug__" : Str)) = false := by decide) (he : starEach (e :: es) X.env = (false, eval e X.env) :: starEach es X.env := by rfl) (hpl : (backTo pos (starEach es X.env)).any (·.1) = false := by rfl) :
    PE X (.Call (.Name x p) (e :: es) [] pos) (RE X.K G W (call n f ms)) :=
  pe_imp (pe_callS F hr hg hm hk hb (fun σ => passAt tk σ) ha hdb he hpl) fun _ _ _ h => call_re h
end
def Rz.bnS {α : Type} (r : Rz α) (s : Lo) (k : α → MH → SR) : SR := match r with
  | .ok v h => k v h
  | .err e h => .err e s h
  | .no => .no
def sNx : MS := fun s h => .nx s h
def sSeq (a b : MS) : MS := fun s h => match a s h with
  | .nx s1 h1 => b s1 h1
  | r => r
abbrev MG := MV → Lo → Option Lo
def gN (i : Nat) : MG := fun v s => some (s.set i (some v))
def setAll : List Nat → List MV → Lo → Option Lo
  | [], [], s => some s
  | i :: is, v :: vs, s => setAll is vs (s.set i (some v))
  | _, _, _ => none
def gT (is : List Nat) : MG := fun v s => (asT v).bind fun xs => setAll is xs s
def sAsg (e : ME) (g : MG) : MS := fun s h => (e s h).bnS s fun v h1 => match g v s with
  | some s1 => .nx s1 h1
  | none => .no
def sExp (e : ME) : MS := fun s h => (e s h).bnS s fun _ h1 => .nx s h1
def sRet (e : ME) : MS := fun s h => (e s h).bnS s fun v h1 => .rt v h1
def sRetN : MS := fun _ h => .rt .non h
def sIf (c : MB) (a b : MS) : MS := fun s h => (c s h).bnS s fun k h1 => if k = true then a s h1 else b s h1
def sBrk : MS := fun s h => .bk s h
def sCnt : MS := fun s h => .ct s h
section
variable {K : PySem.W.Frag} {G : String → Option V} {W : WX} {D : Ends} {ρ : List Addr} {H : Hp} {sm : Lo} {σ : St} {mh : MH}
theorem res_bnd {m : ME} {k : MV → MH → SR} {Q : VK} (r : Rl K G ρ H sm σ mh) (h : RSE K G W D ρ H ((m sm mh).bnS sm k))
    (hq : ∀ v ρ1 H1 mh1 x, Ext K ρ H ρ1 H1 → Rl K G ρ1 H1 sm σ mh1 → VR K G ρ1 H1 v x → RSE K G W D ρ1 H1 (k v mh1) → Q x H1) : RE K G W m σ H Q := by
  refine ⟨ρ, sm, mh, r, ?_⟩
  cases e : m sm mh with
  | ok v m1 => rw [e] at h; exact fun ρ1 H1 x hr w rv => hq v ρ1 H1 m1 w x (r.at x hr) rv (h.mono x)
  | err v m1 => rw [e] at h; exact fun ρ1 H1 cls d x hr er => h ρ1 H1 σ cls d x hr (r.sr.ext x) er
  | no => rw [e] at h; exact h
theorem rts_bnd {m : MB} {k : Bool → MH → SR} {Q : Bool → Hp → Prop} (r : Rl K G ρ H sm σ mh) (h : RSE K G W D ρ H ((m sm mh).bnS sm k))
    (hq : ∀ v ρ1 H1 mh1, Ext K ρ H ρ1 H1 → Rl K G ρ1 H1 sm σ mh1 → RSE K G W D ρ1 H1 (k v mh1) → Q v H1) : RT K G W m σ H Q := by
  refine ⟨ρ, sm, mh, r, ?_⟩
  cases e : m sm mh with
  | ok v m1 => rw [e] at h; exact fun ρ1 H1 x hr => hq v ρ1 H1 m1 x (r.at x hr) (h.mono x)
  | err v m1 => rw [e] at h; exact fun ρ1 H1 cls d x hr er => h ρ1 H1 σ cls d x hr (r.sr.ext x) er
  | no => rw [e] at h; exact h
theorem ras_bnd {m : MEs} {k : List MV → MH → SR} {Q : List V → Hp → Prop} (r : Rl K G ρ H sm σ mh) (h : RSE K G W D ρ H ((m sm mh).bnS sm k))
    (hq : ∀ v ρ1 H1 mh1 x, Ext K ρ H ρ1 H1 → Rl K G ρ1 H1 sm σ mh1 → VRs K G ρ1 H1 v x → RSE K G W D ρ1 H1 (k v mh1) → Q x H1) : RA K G W m σ H Q := by
  refine ⟨ρ, sm, mh, r, ?_⟩
  cases e : m sm mh with
  | ok v m1 => rw [e] at h; exact fun ρ1 H1 x hr w rv => hq v ρ1 H1 m1 w x (r.at x hr) rv (h.mono x)
  | err v m1 => rw [e] at h; exact fun ρ1 H1 cls d x hr er => h ρ1 H1 σ cls d x hr (r.sr.ext x) er
  | no => rw [e] at h; exact h
theorem RSE.nx {s1 : Lo} {m1 : MH} {σ1 : St} (h : RSE K G W D ρ H (.nx s1 m1)) (hr : HR K G ρ H m1) (sr : SRl K G ρ H s1 σ1) : D.nx σ1 H := h ρ H σ1 Ext.refl hr sr
theorem RSE.rt {v : MV} {m1 : MH} {w : V} (h : RSE K G W D ρ H (.rt v m1)) (hr : HR K G ρ H m1) (rv : VR K G ρ H v w) : D.rt w H := h ρ H w Ext.refl hr rv
theorem SRl.set {i : Nat} {x : MV} {v : V} (h : SRl K G ρ H sm σ) (r : VR K G ρ H x v) : SRl K G ρ H (sm.set i (some x)) (σ.set i (some v)) := by
  refine ⟨by simp [h.1], fun j y e => ?_⟩
  by_cases hj : i = j
  · subst hj
    by_cases hl : i < sm.length
    · rw [List.getElem?_set_self hl] at e
      cases e
      exact ⟨v, List.getElem?_set_self (by rw [← h.1]; exact hl), r⟩
    · rw [List.getElem?_eq_none (by simp; omega)] at e; cases e
  · rw [List.getElem?_set_ne hj] at e
    obtain ⟨w, a, b⟩ := h.2 j y e
    exact ⟨w, by rw [List.getElem?_set_ne hj]; exact a, b⟩
end
def GS (K : PySem.W.Frag) (G : String → Option V) (t : TG) (g : MG) : Prop :=
  ∀ {ρ : List Addr} {H : Hp} {sm s1 : Lo} {σ : St} {x : MV} {v : V} {mh : MH} {Q : St → Hp → Prop}, HR K G ρ H mh → SRl K G ρ H sm σ → VR K G ρ H x v → g x sm = some s1 → (∀ σ1, SRl K G ρ H s1 σ1 → Q σ1 H) → t v σ H Q
def GSs (K : PySem.W.Frag) (G : String → Option V) (t : TGs) (is : List Nat) : Prop :=
  ∀ {ρ : List Addr} {H : Hp} {sm s1 : Lo} {σ : St} {xs : List MV} {vs : List V} {mh : MH} {Q : St → Hp → Prop}, HR K G ρ H mh → SRl K G ρ H sm σ → VRs K G ρ H xs vs → setAll is xs sm = some s1 → (∀ σ1, SRl K G ρ H s1 σ1 → Q σ1 H) → t vs σ H Q
section
variable {K : PySem.W.Frag} {G : String → Option V}
theorem gs_name {i : Nat} : GS K G (gName i) (gN i) := by
  intro ρ H sm s1 σ x v mh Q hr sr rv e k
  cases e
  exact k _ (sr.set rv)
theorem gss_nil : GSs K G gNil [] := by
  intro ρ H sm s1 σ xs vs mh Q hr sr rvs e k
  cases xs with
  | nil => simp only [VRs] at rvs; subst rvs; cases e; exact ⟨rfl, k _ sr⟩
  | cons x xs => cases e
theorem gss_cons {i : Nat} {is : List Nat} {u : TGs} (h : GSs K G u is) : GSs K G (gCons (gName i) u) (i :: is) := by
  intro ρ H sm s1 σ xs vs mh Q hr sr rvs e k
  cases xs with
  | nil => cases e
  | cons x xs =>
    simp only [VRs] at rvs
    obtain ⟨v, r, rfl, q, t⟩ := rvs
    exact ⟨v, r, rfl, h hr (sr.set q) t e k⟩
theorem setAll_len : ∀ {is : List Nat} {xs : List MV} {s s1 : Lo}, setAll is xs s = some s1 → xs.length = is.length
  | [], [], _, _, _ => rfl
  | i :: is, x :: xs, s, s1, h => by simp [setAll_len (is := is) (xs := xs) h]
  | [], _ :: _, _, _, h => by cases h
  | _ :: _, [], _, _, h => by cases h
theorem gs_tup {is : List Nat} {u : TGs} (h : GSs K G u is) : GS K G (gTup K is.length u) (gT is) := by
  intro ρ H sm s1 σ x v mh Q hr sr rv e k
  unfold gT at e
  cases e1 : asT x with
  | none => rw [e1] at e; cases e
  | some xs =>
    rw [e1] at e
    have e' : setAll is xs sm = some s1 := e
    obtain ⟨a, vs, rfl, h1, h2⟩ := rv.tup e1
    exact ⟨a, vs, rfl, h1, by rw [← h2.length, setAll_len e'], h hr sr h2 e' k⟩
end
section
variable {X : Cx} {G : String → Option V} {W : WX} {st : Stmt} {rest : List Stmt} {a b : MS} {e : Expr} {m : ME} {pos : Pos}
theorem m_snil : PSs X [] (RS X.K G W sNx) := pss_imp pss_nil fun D σ H ⟨ρ, sm, mh, r, q⟩ => RSE.nx (σ1 := σ) q r.hr r.sr
theorem m_scons (h1 : PS X st (RS X.K G W a)) (h2 : PSs X rest (RS X.K G W b)) : PSs X (st :: rest) (RS X.K G W (sSeq a b)) := by
  refine pss_imp (pss_cons h1 h2) fun D σ H ⟨ρ, sm, mh, r, q⟩ => ⟨ρ, sm, mh, r, ?_⟩
  unfold sSeq at q
  cases e : a sm mh with
  | nx s m => rw [e] at q; exact fun ρ1 H1 σ1 x hr sr => ⟨ρ1, s, m, ⟨hr, sr⟩, RSE.mono x q⟩
  | rt v m => rw [e] at q; exact q
  | bk s m => rw [e] at q; exact q
  | ct s m => rw [e] at q; exact q
  | err v s m => rw [e] at q; exact q
  | no => rw [e] at q; exact q
theorem m_sone (h1 : PS X st (RS X.K G W a)) : PSs X [st] (RS X.K G W a) := pss_one h1
theorem m_cont : PS X (.Continue pos) (RS X.K G W sCnt) := ps_imp ps_continue fun D σ H ⟨ρ, sm, mh, r, q⟩ => q ρ H σ Ext.refl r.hr r.sr
theorem m_expr (he : PE X e (RE X.K G W m)) (hs : swapsWith e none pos.line X.env = pure false := by rfl) : PS X (.Expr e pos) (RS X.K G W (sExp m)) :=
  ps_imp (ps_expr he hs) fun D σ H ⟨ρ, sm, mh, r, q⟩ => res_bnd r q fun v ρ1 H1 mh1 x x1 r1 rv q1 => RSE.nx (σ1 := σ) q1 r1.hr r1.sr
theorem m_ret (he : PE X e (RE X.K G W m)) : PS X (.Return (some e) pos) (RS X.K G W (sRet m)) :=
  ps_imp (ps_ret he) fun D σ H ⟨ρ, sm, mh, r, q⟩ => res_bnd r q fun v ρ1 H1 mh1 x x1 r1 rv q1 => RSE.rt q1 r1.hr rv
theorem m_if {c : Expr} {as bs : List Stmt} {mc : MB} (hc : PT X c (RT X.K G W mc)) (ha : PSs X as (RS X.K G W a)) (hb : PSs X bs (RS X.K G W b)) : PS X (.If c as bs pos) (RS X.K G W (sIf mc a b)) := by
  refine ps_imp (ps_if hc ha hb) fun D σ H ⟨ρ, sm, mh, r, q⟩ => rts_bnd r q fun k ρ1 H1 mh1 x1 r1 q1 => ?_
  cases k with
  | true => rw [if_pos rfl] at q1 ⊢; exact ⟨_, _, _, r1, q1⟩
  | false => rw [if_neg Bool.false_ne_true] at q1 ⊢; exact ⟨_, _, _, r1, q1⟩
theorem asg_re {te : TE} {t : TG} {g : MG} (hg : GS X.K G t g) (i : ∀ σ H Q, RE X.K G W m σ H Q → te σ H Q) (D : Ends) (σ : St) (H : Hp) (h : RS X.K G W (sAsg m g) D σ H) : tAsg te t D σ H := by
  obtain ⟨ρ, sm, mh, r, q⟩ := h
  refine i σ H _ (res_bnd r q fun v ρ1 H1 mh1 x x1 r1 rv q1 => ?_)
  cases e : g v sm with
  | none => rw [e] at q1; exact False.elim q1
  | some s1 =>
    rw [e] at q1
    exact hg r1.hr r1.sr rv e fun σ1 sr => RSE.nx (σ1 := σ1) q1 r1.hr sr
theorem m_set {i : Nat} {x : Str} {pos' : Pos} (hN : X.N.Nodup) (hi : X.N[i]? = some x) (hx : L2.Loc X.env.scope x) (he : PE X e (RE X.K G W m)) (hs : swapsWith e (some (.Name x pos')) pos.line X.env = pure false := by rfl) (hf : X.fn x = true ∨ X.env.scope.names.lookup x = some .local := by first | exact .inl rfl | exact .inr rfl | assumption) :
    PS X (.Assign [.Name x pos'] e pos) (RS X.K G W (sAsg m (gN i))) := ps_imp (ps_set hN hi hx he hs hf) fun D σ H h => asg_re gs_name (fun _ _ _ q => q) D σ H h
end
def mDef (n : Nat) (b : MS) : MF := fun xs h => match b (xs.map some ++ List.replicate (n - xs.length) none) h with
  | .nx _ h1 => .ok .non h1
  | .rt v h1 => .ok v h1
  | .err e _ h1 => .err e h1
  | _ => .no
section
variable {P : Program} {w : World} {K : PySem.W.Frag} {mg : Str → Option Value} {base : Heap} {G : String → Option V}
theorem VRs.at {ρ : List Addr} {H : Hp} {xs : List MV} {vs : List V} (r : VRs K G ρ H xs vs) {n : Nat} : SRl K G ρ H (xs.map some ++ List.replicate (n - xs.length) none) (vs.map some ++ List.replicate (n - vs.length) none) := by
  have hl := r.length
  refine ⟨by simp [hl], fun i x e => ?_⟩
  by_cases hi : i < xs.length
  · rw [List.getElem?_append_left (by simpa using hi), List.getElem?_map] at e
    cases e1 : xs[i]? with
    | none => rw [e1] at e; cases e
    | some y =>
      rw [e1] at e
      cases e
      obtain ⟨v, h1, h2⟩ := r.get e1
      exact ⟨v, by rw [List.getElem?_append_left (by rw [List.length_map]; omega), List.getElem?_map, h1]; rfl, h2⟩
  · rw [List.getElem?_append_right (by simpa using hi)] at e
    have := List.mem_of_getElem? e
    simp at this
end
end Mo
namespace Mo
open PySem L2
abbrev Itm := Nat → MH → Option (Option MV)
def forG (get : Itm) (g : MG) (b : MS) : Nat → Nat → MS
  | 0, _, _, _ => .no
  | n + 1, i, s, h => match get i h with
    | none => .no
    | some none => .nx s h
    | some (some x) => match g x s with
      | none => .no
      | some s1 => match b s1 h with
        | .nx s2 h2 => forG get g b n (i + 1) s2 h2
        | .ct s2 h2 => forG get g b n (i + 1) s2 h2
        | .bk s2 h2 => .nx s2 h2
        | r => r
def whileG (c : MB) (b : MS) : Nat → MS
  | 0, _, _ => .no
  | n + 1, s, h => (c s h).bnS s fun k h1 => if k = true then (match b s h1 with
      | .nx s2 h2 => whileG c b n s2 h2
      | .ct s2 h2 => whileG c b n s2 h2
      | .bk s2 h2 => .nx s2 h2
      | r => r) else .nx s h1
structure ItS (K : PySem.W.Frag) (G : String → Option V) (ρ0 : List Addr) (H0 : Hp) (J : It) (get : Itm) : Prop where
  stop : ∀ {i ρ H mh}, Ext K ρ0 H0 ρ H → HR K G ρ H mh → get i mh = some none → J.stop i H
  go : ∀ {i ρ H mh x}, Ext K ρ0 H0 ρ H → HR K G ρ H mh → get i mh = some (some x) → J.go i H
  yld : ∀ {i ρ H mh x y H'}, Ext K ρ0 H0 ρ H → HR K G ρ H mh → get i mh = some (some x) → J.yld i H y H' → ∃ ρ', Ext K ρ H ρ' H' ∧ HR K G ρ' H' mh ∧ VR K G ρ' H' x y
section
variable {K : PySem.W.Frag} {G : String → Option V} {W : WX}
theorem for_sim {ρ0 ρ : List Addr} {H0 H : Hp} {J : It} {get : Itm} {t : TG} {g : MG} {b : MS} {D : Ends} {n : Nat} {sm : Lo} {σ : St} {mh : MH} (T : ItS K G ρ0 H0 J get) (hg : GS K G t g) (x0 : Ext K ρ0 H0 ρ H) (r0 : Rl K G ρ H sm σ mh)
    (h : RSE K G W D ρ H (forG get g b n 0 sm mh)) :
    ∃ W' : Nat → Nat → St → Hp → Prop, (∃ m, W' 0 m σ H) ∧ ∀ i m σ H, W' i m σ H →
      (J.stop i H ∧ D.nx σ H) ∨ (J.go i H ∧ ∃ N : St → Hp → Prop, (∀ σ' H', N σ' H' → ∃ m', m' < m ∧ W' (i + 1) m' σ' H') ∧ ∀ x H', J.yld i H x H' → t x σ H' fun σ2 H2 => RS K G W b { D with nx := N, ct := N, bk := D.nx } σ2 H2) := by
  refine ⟨fun i m σ H => ∃ ρ sm mh, Ext K ρ0 H0 ρ H ∧ Rl K G ρ H sm σ mh ∧ RSE K G W D ρ H (forG get g b m i sm mh), ⟨n, ρ, sm, mh, x0, r0, h⟩, ?_⟩
  rintro i m σ H ⟨ρ, sm, mh, x, r, q⟩
  cases m with
  | zero => exact False.elim q
  | succ m =>
    unfold forG at q
    cases e : get i mh with
    | none => rw [e] at q; exact False.elim q
    | some o =>
      rw [e] at q
      cases o with
      | none => exact .inl ⟨T.stop x r.hr e, RSE.nx (σ1 := σ) q r.hr r.sr⟩
      | some v =>
        refine .inr ⟨T.go x r.hr e, fun σ' H' => ∃ ρ sm mh, Ext K ρ0 H0 ρ H' ∧ Rl K G ρ H' sm σ' mh ∧ RSE K G W D ρ H' (forG get g b m (i + 1) sm mh), fun σ' H' z => ⟨m, Nat.lt_succ_self _, z⟩, fun y H' hy => ?_⟩
        obtain ⟨ρ', x', hr', rv⟩ := T.yld x r.hr e hy
        dsimp only at q
        cases e2 : g v sm with
        | none => rw [e2] at q; exact False.elim q
        | some s1 =>
          rw [e2] at q
          refine hg hr' (r.sr.ext x') rv e2 fun σ1 sr1 => ⟨ρ', s1, mh, ⟨hr', sr1⟩, ?_⟩
          dsimp only at q
          cases e3 : b s1 mh with
          | nx s2 h2 => rw [e3] at q; exact fun ρ1 H1 σ2 x1 hr1 sr2 => ⟨ρ1, s2, h2, (x.trans x').trans x1, ⟨hr1, sr2⟩, (RSE.mono (x'.trans x1) q)⟩
          | ct s2 h2 => rw [e3] at q; exact fun ρ1 H1 σ2 x1 hr1 sr2 => ⟨ρ1, s2, h2, (x.trans x').trans x1, ⟨hr1, sr2⟩, (RSE.mono (x'.trans x1) q)⟩
          | bk s2 h2 => rw [e3] at q; exact fun ρ1 H1 σ2 x1 hr1 sr2 => q ρ1 H1 σ2 (x'.trans x1) hr1 sr2
          | rt v2 h2 => rw [e3] at q; exact fun ρ1 H1 σ2 x1 hr1 sr2 => q ρ1 H1 σ2 (x'.trans x1) hr1 sr2
          | err v2 s2 h2 => rw [e3] at q; exact fun ρ1 H1 σ2 c d x1 hr1 sr2 er => q ρ1 H1 σ2 c d (x'.trans x1) hr1 sr2 er
          | no => rw [e3] at q; exact False.elim q
theorem while_sim {ρ : List Addr} {H : Hp} {c : MB} {b : MS} {D : Ends} {n : Nat} {sm : Lo} {σ : St} {mh : MH} (r0 : Rl K G ρ H sm σ mh) (h : RSE K G W D ρ H (whileG c b n sm mh)) : tWhile (RT K G W c) (RS K G W b) D σ H := by
  refine ⟨fun m σ H => ∃ ρ sm mh, Rl K G ρ H sm σ mh ∧ RSE K G W D ρ H (whileG c b m sm mh), ⟨n, ρ, sm, mh, r0, h⟩, ?_⟩
  rintro m σ H ⟨ρ, sm, mh, r, q⟩
  cases m with
  | zero => exact False.elim q
  | succ m =>
    unfold whileG at q
    refine rts_bnd r q fun k ρ1 H1 mh1 x1 r1 q1 => ?_
    cases k with
    | false =>
      rw [if_neg Bool.false_ne_true] at q1 ⊢
      exact RSE.nx (σ1 := σ) q1 r1.hr r1.sr
    | true =>
      rw [if_pos rfl] at q1 ⊢
      refine ⟨fun σ' H' => ∃ ρ sm mh, Rl K G ρ H' sm σ' mh ∧ RSE K G W D ρ H' (whileG c b m sm mh), fun σ' H' z => ⟨m, Nat.lt_succ_self _, z⟩, ρ1, sm, mh1, r1, ?_⟩
      cases e3 : b sm mh1 with
      | nx s2 h2 => rw [e3] at q1; exact fun ρ1 H1 σ2 x1 hr1 sr2 => ⟨ρ1, s2, h2, ⟨hr1, sr2⟩, (RSE.mono x1 q1)⟩
      | ct s2 h2 => rw [e3] at q1; exact fun ρ1 H1 σ2 x1 hr1 sr2 => ⟨ρ1, s2, h2, ⟨hr1, sr2⟩, (RSE.mono x1 q1)⟩
      | bk s2 h2 => rw [e3] at q1; exact q1
      | rt v2 h2 => rw [e3] at q1; exact q1
      | err v2 s2 h2 => rw [e3] at q1; exact q1
      | no => rw [e3] at q1; exact False.elim q1
end
def getSeq (v : MV) : Itm := fun i h => (seqOf h v).map fun xs => xs[i]?
def getL (xs : List MV) : Itm := fun i _ => some xs[i]?
def getR (lo : Int) (n : Nat) : Itm := fun i _ => some (if i < n then some (.int (lo + i)) else none)
section
variable {K : PySem.W.Frag} {G : String → Option V} {ρ0 : List Addr} {H0 : Hp}
theorem its_list {v : MV} {a : Addr} (hv : VR K G ρ0 H0 v (.ref a)) (hn : asT v = none) : ItS K G ρ0 H0 (Itl K a) (getSeq v) := by
  have key : ∀ {ρ H mh xs}, Ext K ρ0 H0 ρ H → HR K G ρ H mh → seqOf mh v = some xs → ∃ vs, SqL K H a vs ∧ VRs K G ρ H xs vs := fun {ρ H mh xs} x hr e => by
    cases v with
    | ref i =>
      simp only [seqOf] at e
      split at e
      · rename_i q
        cases e
        obtain ⟨b, vs, e1, _, h1, h2⟩ := hr.lst q (hv.ext x)
        cases e1
        exact ⟨vs, SqL.of h1, h2⟩
      · cases e
    | frl ys =>
      simp only [seqOf] at e; cases e
      have := hv.ext x
      simp only [VR] at this
      obtain ⟨b, vs, e1, h1, h2⟩ := this
      cases e1
      exact ⟨vs, h1.sq, h2⟩
    | tup _ => simp [asT] at hn
    | ktp _ => simp [asT] at hn
    | _ => simp [seqOf] at e
  have get : ∀ {i mh o}, getSeq v i mh = some o → ∃ xs, seqOf mh v = some xs ∧ xs[i]? = o := fun {i mh o} e => by
    unfold getSeq at e
    cases h : seqOf mh v with
    | none => rw [h] at e; cases e
    | some xs => rw [h] at e; exact ⟨xs, rfl, Option.some.inj e⟩
  refine ⟨fun {i ρ H mh} x hr e => ?_, fun {i ρ H mh z} x hr e => ?_, fun {i ρ H mh z y H'} x hr e hy => ?_⟩
  · obtain ⟨xs, e1, e2⟩ := get e
    obtain ⟨vs, h1, h2⟩ := key x hr e1
    exact ⟨vs, h1, by rw [← h2.length]; exact List.getElem?_eq_none_iff.mp e2⟩
  · obtain ⟨xs, e1, e2⟩ := get e
    obtain ⟨vs, h1, h2⟩ := key x hr e1
    obtain ⟨u, h3, _⟩ := h2.get e2
    exact ⟨vs, u, h1, h3⟩
  · obtain ⟨xs, e1, e2⟩ := get e
    obtain ⟨vs, h1, h2⟩ := key x hr e1
    obtain ⟨u, h3, h4⟩ := h2.get e2
    obtain ⟨rfl, h5⟩ := hy
    have := h5 vs h1
    rw [h3] at this; cases this
    exact ⟨ρ, Ext.refl, hr, h4⟩
theorem its_tup {v : MV} {a : Addr} {xs : List MV} (hv : VR K G ρ0 H0 v (.ref a)) (hn : asT v = some xs) : ItS K G ρ0 H0 (Itt K a) (getL xs) := by
  have key : ∀ {ρ H}, Ext K ρ0 H0 ρ H → ∃ vs, SqT K H a vs ∧ VRs K G ρ H xs vs := fun {ρ H} x => by
    obtain ⟨b, vs, e, h1, h2⟩ := (hv.ext x).tup hn
    cases e
    exact ⟨vs, h1, h2⟩
  refine ⟨fun {i ρ H mh} x hr e => ?_, fun {i ρ H mh z} x hr e => ?_, fun {i ρ H mh z y H'} x hr e hy => ?_⟩
  · obtain ⟨vs, h1, h2⟩ := key x
    exact ⟨vs, h1, by rw [← h2.length]; exact List.getElem?_eq_none_iff.mp (Option.some.inj e)⟩
  · obtain ⟨vs, h1, h2⟩ := key x
    obtain ⟨u, h3, _⟩ := h2.get (Option.some.inj e)
    exact ⟨vs, u, h1, h3⟩
  · obtain ⟨vs, h1, h2⟩ := key x
    obtain ⟨u, h3, h4⟩ := h2.get (Option.some.inj e)
    obtain ⟨rfl, h5⟩ := hy
    have := h5 vs h1
    rw [h3] at this; cases this
    exact ⟨ρ, Ext.refl, hr, h4⟩
theorem its_rng {lo : Int} {n : Nat} : ItS K G ρ0 H0 (Itr lo n) (getR lo n) := by
  refine ⟨fun {i ρ H mh} x hr e => ?_, fun {i ρ H mh z} x hr e => ?_, fun {i ρ H mh z y H'} x hr e hy => ?_⟩
  · unfold getR at e
    split at e
    · cases e
    · rename_i h; exact Nat.le_of_not_lt h
  · unfold getR at e
    split at e
    · rename_i h; exact h
    · cases e
  · unfold getR at e
    split at e
    · cases e
      obtain ⟨rfl, rfl⟩ := hy
      exact ⟨ρ, Ext.refl, hr, by simp [VR]⟩
    · cases e
def chars (z : Str) : List MV := z.cps.toList.map fun c => .str ⟨#[c]⟩
theorem its_str {z : Str} : ItS K G ρ0 H0 (Its z) (getL (chars z)) := by
  have ln : (chars z).length = z.cps.size := by simp [chars]
  refine ⟨fun {i ρ H mh} x hr e => ?_, fun {i ρ H mh u} x hr e => ?_, fun {i ρ H mh u y H'} x hr e hy => ?_⟩
  · have h := List.getElem?_eq_none_iff.mp (Option.some.inj e)
    rw [ln] at h; exact h
  · have h := (List.getElem?_eq_some_iff.mp (Option.some.inj e)).1
    rw [ln] at h; exact h
  · have e' := Option.some.inj e
    obtain ⟨rfl, c, h1, rfl⟩ := hy
    refine ⟨ρ, Ext.refl, hr, ?_⟩
    unfold chars at e'
    rw [List.getElem?_map, Array.getElem?_toList, h1] at e'
    cases e'
    simp [VR]
end
def sFor (it : ME) (g : MG) (b : MS) : MS := fun s h => (it s h).bnS s fun v h1 => match v with
  | .str z => forG (getL (chars z)) g b (z.length + 1) 0 s h1
  | v => match asT v with
    | some xs => forG (getL xs) g b (xs.length + 1) 0 s h1
    | none => match seqOf h1 v with
      | some xs => forG (getSeq v) g b (xs.length + 1) 0 s h1
      | none => .no
def rng1 (xs : List MV) : Option (Int × Nat) := match xs with
  | [.int j] => if -(2 ^ 62) ≤ j ∧ j < 2 ^ 62 then some (0, j.toNat) else none
  | _ => none
def sForR (rg : List MV → Option (Int × Nat)) (as : MEs) (g : MG) (b : MS) : MS := fun s h => (as s h).bnS s fun xs h1 => match rg xs with
  | some (lo, n) => forG (getR lo n) g b (n + 1) 0 s h1
  | none => .no
def sWhile (n : Nat) (c : MB) (b : MS) : MS := whileG c b n
section
variable {X : Cx} {G : String → Option V} {W : WX} {tg iter a b' : Expr} {body : List Stmt} {m : ME} {ms : MEs} {t : TG} {g : MG} {b : MS} {mc : MB} {pos p cpos : Pos}
theorem ps_alt {st : Stmt} {t t' : TS} (h : PS X st t) (h' : PS X st t') : PS X st (fun D σ H => t D σ H ∨ t' D σ H) :=
  ⟨fun pins s σ H D I q => q.elim (fun q => h.run pins s σ H D I q) fun q => h'.run pins s σ H D I q⟩
theorem m_for (hp : PassesOwn (model X.prog X.w) X.A X.env X.xe) (hc : X.calm = true) (hi : PE X iter (RE X.K G W m)) (hg : PG X tg t) (hgs : GS X.K G t g) (hb : PSs X body (RS X.K G W b))
    (hs : ∀ x, foldedSetIterable iter X.env x = pure x := by intro _; rfl) : PS X (.For tg iter body [] pos) (RS X.K G W (sFor m g b)) := by
  refine ps_imp (ps_alt (ps_for hp hc (pi_list hi) hg hb hs) (ps_alt (ps_for hp hc (pi_tup hi) hg hb hs) (ps_for hp hc (pi_str hi) hg hb hs))) fun D σ H ⟨ρ, sm, mh, r, q⟩ => ?_
  unfold sFor at q
  cases e : m sm mh with
  | no => rw [e] at q; exact False.elim q
  | err v m1 =>
    rw [e] at q
    refine .inl ⟨ρ, sm, mh, r, ?_⟩
    rw [e]
    exact fun ρ1 H1 cls d x hr er => q ρ1 H1 σ cls d x hr (r.sr.ext x) er
  | ok v m1 =>
    have run : ∀ {Q : VK}, (∀ ρ1 H1 w, Ext X.K ρ H ρ1 H1 → Rl X.K G ρ1 H1 sm σ m1 → VR X.K G ρ1 H1 v w → Q w H1) → RE X.K G W m σ H Q := fun {Q} k => by
      refine ⟨ρ, sm, mh, r, ?_⟩
      rw [e]
      exact fun ρ1 H1 x hr w rv => k ρ1 H1 w x (r.at x hr) rv
    rw [e] at q
    dsimp only [Rz.bnS] at q
    split at q
    · rename_i z
      refine .inr (.inr (run fun ρ1 H1 w x1 r1 rv => ?_))
      simp only [VR] at rv
      subst rv
      exact ⟨z, rfl, for_sim its_str hgs (Ext.refl (ρ := ρ1)) r1 (RSE.mono x1 q)⟩
    · split at q
      · rename_i xs hx
        refine .inr (.inl (run fun ρ1 H1 w x1 r1 rv => ?_))
        obtain ⟨a, vs, rfl, h1, h2⟩ := rv.tup hx
        exact ⟨a, rfl, ⟨vs, h1⟩, for_sim (its_tup rv hx) hgs (Ext.refl (ρ := ρ1)) r1 (RSE.mono x1 q)⟩
      · rename_i hx
        split at q
        · rename_i xs hq
          refine .inl (run fun ρ1 H1 w x1 r1 rv => ?_)
          obtain ⟨a, vs, rfl, h1, h2⟩ := seq_V r1.hr hq rv
          refine ⟨a, rfl, ?_, for_sim (its_list rv hx) hgs (Ext.refl (ρ := ρ1)) r1 (RSE.mono x1 q)⟩
          rcases h1 with h1 | h1
          · exact ⟨vs, h1⟩
          · have z : ∃ vs, SqL X.K H1 a vs := by
              cases v with
              | ref i =>
                simp only [seqOf] at hq
                split at hq
                · rename_i q2
                  obtain ⟨b, ws, e1, _, h3, _⟩ := r1.hr.lst q2 rv
                  cases e1
                  exact ⟨ws, SqL.of h3⟩
                · cases hq
              | frl ys =>
                simp only [VR] at rv
                obtain ⟨b, ws, e1, h3, _⟩ := rv
                cases e1
                exact ⟨ws, h3.sq⟩
              | tup _ => simp [asT] at hx
              | ktp _ => simp [asT] at hx
              | _ => simp [seqOf] at hq
            exact z
        · exact False.elim q
theorem m_forR1 (hp : PassesOwn (model X.prog X.w) X.A X.env X.xe) (hc : X.calm = true) (hgl : Gl X "range") (hm : X.mg "range" = none) (ha : PA X [a] (RA X.K G W ms)) (hg : PG X tg t) (hgs : GS X.K G t g) (hb : PSs X body (RS X.K G W b))
    (hs : starEach [a] X.env = [(false, eval a X.env)] := by rfl) (hs2 : ∀ x, foldedSetIterable (.Call (.Name "range" p) [a] [] cpos) X.env x = pure x := by intro _; rfl) :
    PS X (.For tg (.Call (.Name "range" p) [a] [] cpos) body [] pos) (RS X.K G W (sForR rng1 ms g b)) := by
  refine ps_imp (ps_for hp hc (pi_range1 hgl hm ha hs) hg hb hs2) fun D σ H ⟨ρ, sm, mh, r, q⟩ => ?_
  refine ras_bnd r q fun xs ρ1 H1 mh1 vs x1 r1 rvs q1 => ?_
  unfold rng1 at q1
  split at q1
  · rename_i e
    split at e
    · rename_i j
      obtain ⟨v, rfl, rv⟩ := rvs.one
      simp only [VR] at rv
      subst rv
      split at e
      · rename_i hj
        cases e
        exact ⟨j, rfl, hj.1, hj.2, for_sim its_rng hgs (Ext.refl (ρ := ρ1)) r1 q1⟩
      · cases e
    · cases e
  · exact False.elim q1
theorem m_while {c : Expr} {n : Nat} (hp : PassesOwn (model X.prog X.w) X.A X.env X.xe) (hc : PT X c (RT X.K G W mc)) (hb : PSs X body (RS X.K G W b)) : PS X (.While c body [] pos) (RS X.K G W (sWhile n mc b)) :=
  ps_imp (ps_while hp hc hb) fun D σ H ⟨ρ, sm, mh, r, q⟩ => while_sim r q
end
theorem law_sp {K : PySem.W.Frag} {G : String → Option V} {f : MF} {H : Hp} {a : Addr} {ns : List Int} (hO : Only H) (hS : SqL K H a (ns.map V.int)) (h : ∃ h1, f [.frl (ns.map MV.int)] [] = .ok (.bl true) h1) :
    SpM K G 1 f [.ref a] H (fun v _ => v = .bl true) fun _ _ _ => False := by
  obtain ⟨h1, e⟩ := h
  have allI : ∀ (ns : List Int), VRs K G [] H (ns.map MV.int) (ns.map V.int) := by
    intro ns
    induction ns with
    | nil => exact VRs.nil
    | cons n ns ih => exact VRs.cons (by simp [VR]) ih
  have fr : FrL K H a (ns.map V.int) := by
    rcases hS with (q | q) | q
    · rcases hO a with z | ⟨o, xs, z⟩
      · rw [z] at q; cases q
      · rw [z] at q; cases q
    · exact .inl q
    · exact .inr q
  refine ⟨[], [.frl (ns.map MV.int)], [], ⟨rfl, List.nodup_nil, fun i o e => by simp at e⟩, VRs.cons (by simp only [VR]; exact ⟨a, _, rfl, fr, allI ns⟩) VRs.nil, rfl, ?_⟩
  rw [e]
  exact fun ρ1 H1 x hr v rv => by simpa [VR] using rv
end Mo
namespace Mo
open PySem L2
def eMt (g : MV → MH → Bool) (f : MV → List MV → MH → OV) (a : ME) (as : MEs) : ME := fun s h => (a s h).bnd fun x h1 => if g x h1 = true then (as s h1).bnd fun xs h2 => lift (f x xs h2) else .no
def MtS (K : PySem.W.Frag) (G : String → Option V) (r : V → List V → Hp → VK → Prop) (f : MV → List MV → MH → OV) : Prop :=
  ∀ {ρ : List Addr} {H : Hp} {mh mh1 : MH} {x z : MV} {xs : List MV} {v : V} {vs : List V} {Q : VK}, HR K G ρ H mh → VR K G ρ H x v → VRs K G ρ H xs vs → f x xs mh = some (z, mh1) →
    (∀ ρ1 H1, Ext K ρ H ρ1 H1 → HR K G ρ1 H1 mh1 → ∀ v1, VR K G ρ1 H1 z v1 → Q v1 H1) → r v vs H Q
def TyS (K : PySem.W.Frag) (G : String → Option V) (T : String) (g : MV → MH → Bool) : Prop := ∀ {ρ : List Addr} {H : Hp} {mh : MH} {x : MV} {v : V}, HR K G ρ H mh → VR K G ρ H x v → g x mh = true → tyV K T v H
def isL (x : MV) (h : MH) : Bool := match x with
  | .ref i => match h[i]? with
    | some (.lst _) => true
    | _ => false
  | .frl _ => true
  | _ => false
def isS (x : MV) (_ : MH) : Bool := match x with
  | .str _ => true
  | _ => false
section
variable {X : Cx} {G : String → Option V} {W : WX} {o e : Expr} {es : List Expr} {mo : ME} {ms : MEs} {name : Str} {apos cpos : Pos} {T id : String} {r : V → List V → Hp → VK → Prop} {f : MV → List MV → MH → OV} {g : MV → MH → Bool}
theorem t_lst {K : PySem.W.Frag} : TyS K G "list" isL := by
  intro ρ H mh x v hr rv h
  unfold isL at h
  split at h
  · split at h
    · rename_i q
      obtain ⟨a, vs, rfl, _, h1, _⟩ := hr.lst q rv
      exact .inl ⟨rfl, _, SqL.of h1⟩
    · cases h
  · simp only [VR] at rv
    obtain ⟨a, vs, rfl, h1, _⟩ := rv
    exact .inl ⟨rfl, _, h1.sq⟩
  · cases h
theorem t_str {K : PySem.W.Frag} : TyS K G "str" isS := by
  intro ρ H mh x v hr rv h
  unfold isS at h
  split at h
  · simp only [VR] at rv; subst rv; exact rfl
  · cases h
theorem bm_run {σ : St} {H : Hp} {Q : VK} {P : V → Hp → Prop} (hT : TyS X.K G T g) (h : RE X.K G W (eMt g f mo ms) σ H Q)
    (k : ∀ ρ H mh sm x v, Rl X.K G ρ H sm σ mh → VR X.K G ρ H x v → tyV X.K T v H → RO X.K G W σ (PV X.K G Q) ρ H ((ms sm mh).bnd fun xs h2 => lift (f x xs h2)) → P v H) : RE X.K G W mo σ H P := by
  obtain ⟨ρ, sm, mh, r0, q⟩ := h
  refine re_bnd r0 q fun x ρ1 H1 mh1 v x1 r1 rv q1 => ?_
  by_cases hg : g x mh1 = true
  · rw [if_pos hg] at q1; exact k ρ1 H1 mh1 sm x v r1 rv (hT r1.hr rv hg) q1
  · rw [if_neg hg] at q1; exact False.elim q1
theorem m_bm (pa : PlainAttrs T) (slot : Slot T name id) (hty : typeOf (.builtin id) = pure (.type "method_descriptor")) (hm : MtR X id r) (hT : TyS X.K G T g) (hs : MtS X.K G r f) (ho : PE X o (RE X.K G W mo)) (ha : PA X (e :: es) (RA X.K G W ms))
    (hbase : attributeBase o name X.env (eval o X.env) = eval o X.env := by rfl)
    (hfew : ((backTo cpos (starEach (e :: es) X.env)).all (fun x => !x.1) && (backToKw cpos (keywordEach [] X.env)).all (fun x => x.1.isSome)
      && decide ((e :: es).length + ([] : List Keyword).length + (if ([] : List Keyword).isEmpty then 0 else 1) < 30)) = true := by rfl)
    (hline : (apos.endLine == cpos.line) = true := by rfl) (hst : starEach (e :: es) X.env = (false, eval e X.env) :: starEach es X.env := by rfl) (hplain : (backTo cpos (starEach es X.env)).any (·.1) = false := by rfl) :
    PE X (.Call (.Attribute o name apos) (e :: es) [] cpos) (RE X.K G W (eMt g f mo ms)) := by
  refine pe_imp (pe_bm pa slot hty hm ho ha hbase hfew hline hst hplain) fun σ H Q h => ?_
  refine bm_run hT h fun ρ1 H1 mh1 sm x v r1 rv ty q1 => ⟨ty, ?_⟩
  refine ra_bnd r1 q1 fun xs ρ2 H2 mh2 vs x2 r2 rvs q2 => ?_
  obtain ⟨z, h1, e, k⟩ := ro_lift q2
  exact hs r2.hr (rv.ext x2) rvs e k
end
def lstOp (f : List MV → List MV → Option (MV × List MV)) (x : MV) (xs : List MV) (h : MH) : OV := match x with
  | .ref i => match h[i]? with
    | some (.lst ys) => (f ys xs).map fun p => (p.1, h.set i (.lst p.2))
    | _ => none
  | _ => none
def oAppend (ys xs : List MV) : Option (MV × List MV) := match xs with
  | [y] => if ys.length < SZ then some (.non, ys ++ [y]) else none
  | _ => none
abbrev fAppend := lstOp oAppend
def fExtend (x : MV) (xs : List MV) (h : MH) : OV := match x, xs with
  | .ref i, [.ref j] => match h[i]?, h[j]? with
    | some (.lst ys), some (.lst zs) => if ys.length + zs.length ≤ SZ then some (.non, h.set i (.lst (ys ++ zs))) else none
    | _, _ => none
  | _, _ => none
section
variable {K : PySem.W.Frag} {G : String → Option V} {ρ : List Addr} {H : Hp} {mh : MH}
theorem put_lst (hr : HR K G ρ H mh) {i : Nat} {ys zs : List MV} {a : Addr} {vs ws : List V} (e : mh[i]? = some (.lst ys)) (ha : ρ[i]? = some a) (hH : H a = some (.lst vs)) (r : VRs K G ρ H zs ws) :
    HR K G ρ (upd H a (.lst ws)) (mh.set i (.lst zs)) ∧ Ext K ρ H ρ (upd H a (.lst ws)) :=
  hr.write e ha ⟨ws, upd_same, r.ext (ext_write hH (by simp [Plain]))⟩
theorem s_append : MtS K G rAppend fAppend := by
  intro ρ H mh mh1 x z xs v vs Q hr rv rvs e k
  unfold fAppend lstOp at e
  split at e
  · split at e
    · rename_i ys q
      cases h : oAppend ys xs with
      | none => rw [h] at e; cases e
      | some p =>
        rw [h] at e; cases e
        unfold oAppend at h
        split at h
        · split at h
          · rename_i hl
            cases h
            obtain ⟨w, rfl, rw'⟩ := rvs.one
            obtain ⟨a, us, rfl, ha, h1, h2⟩ := hr.lst q rv
            obtain ⟨a1, a2⟩ := put_lst hr q ha h1 (h2.append (VRs.cons rw' VRs.nil))
            exact ⟨a, us, w, rfl, rfl, h1, by rw [SZ_eq, ← h2.length]; exact hl, k _ _ a2 a1 _ (by simp [VR])⟩
          · cases h
        · cases h
    · cases e
  · cases e
theorem s_extend : MtS K G rExtend fExtend := by
  intro ρ H mh mh1 x z xs v vs Q hr rv rvs e k
  unfold fExtend at e
  split at e
  · split at e
    · split at e
      · rename_i q1 q2 hl
        cases e
        obtain ⟨w, rfl, rw'⟩ := rvs.one
        obtain ⟨a, us, rfl, ha, h1, h2⟩ := hr.lst q1 rv
        obtain ⟨b, ws, rfl, hb, h3, h4⟩ := hr.lst q2 rw'
        obtain ⟨a1, a2⟩ := put_lst hr q1 ha h1 (h2.append h4)
        exact ⟨a, b, us, ws, rfl, rfl, h1, h3, by rw [SZ_eq, ← h2.length, ← h4.length]; exact hl, k _ _ a2 a1 _ (by simp [VR])⟩
      · cases e
    · cases e
  · cases e
end
end Mo
namespace Mo
open PySem L2
section
variable {s s1 : Lo} {h h1 : MH} {x y v : MV} {e : MX}
def K2 (r : Rz MV) (f : MV → MV → MH → OV) (b : ME) (s : Lo) : Rz MV := r.bnd fun x h1 => (b s h1).bnd fun y h2 => lift (f x y h2)
def K3 (r : Rz MV) (f : MV → MV → MH → OV) (x : MV) : Rz MV := r.bnd fun y h2 => lift (f x y h2)
def KA (r : Rz (List MV)) (f : List MV → MH → OV) : Rz MV := r.bnd fun xs h => lift (f xs h)
def KC (r : Rz MV) (t : MEs) (s : Lo) : Rz (List MV) := r.bnd fun x h1 => (t s h1).bnd fun xs h2 => .ok (x :: xs) h2
def KC2 (r : Rz (List MV)) (x : MV) : Rz (List MV) := r.bnd fun xs h2 => .ok (x :: xs) h2
def KM (r : Rz MV) (g : MV → MH → Bool) (f : MV → List MV → MH → OV) (as : MEs) (s : Lo) : Rz MV := r.bnd fun x h1 => if g x h1 = true then (as s h1).bnd fun xs h2 => lift (f x xs h2) else .no
def KM2 (r : Rz (List MV)) (f : MV → List MV → MH → OV) (x : MV) : Rz MV := r.bnd fun xs h2 => lift (f x xs h2)
def KCl (r : Rz (List MV)) (n : Nat) (f : MF) : Rz MV := r.bnd fun xs h1 => if xs.length = n then f xs h1 else .no
def KBB (r : Rz MV) : Rz Bool := r.bnd fun x h1 => match asB x with
  | some b => .ok b h1
  | none => .no
def KBT (r : Rz MV) : Rz Bool := r.bnd fun x h1 => match tru h1 x with
  | some b => .ok b h1
  | none => .no
def KIf (r : Rz Bool) (a b : ME) (s : Lo) : Rz MV := r.bnd fun k h1 => if k = true then a s h1 else b s h1
def KAn (r : Rz Bool) (b : MB) (s : Lo) : Rz Bool := r.bnd fun k h1 => if k = true then b s h1 else .ok false h1
def KOr (r : Rz Bool) (b : MB) (s : Lo) : Rz Bool := r.bnd fun k h1 => if k = true then .ok true h1 else b s h1
def KNo (r : Rz Bool) : Rz Bool := r.bnd fun k h1 => .ok (!k) h1
def KEA (r : Rz MV) (b : ME) (s : Lo) : Rz MV := r.bnd fun x h1 => match asB x with
  | some k => if k = true then b s h1 else .ok (.bl false) h1
  | none => .no
def KEO (r : Rz MV) (b : ME) (s : Lo) : Rz MV := r.bnd fun x h1 => match asB x with
  | some k => if k = true then .ok (.bl true) h1 else b s h1
  | none => .no
def KEN (r : Rz MV) : Rz MV := r.bnd fun x h1 => match asB x with
  | some k => .ok (.bl (!k)) h1
  | none => .no
@[simp] theorem eC_ev : eC v s h = .ok v h := rfl
@[simp] theorem e2_ev {f a b} : e2 f a b s h = K2 (a s h) f b s := rfl
@[simp] theorem K2_ok {f b} : K2 (.ok x h) f b s = K3 (b s h) f x := rfl
@[simp] theorem K2_err {f b} : K2 (.err e h) f b s = .err e h := rfl
@[simp] theorem K3_ok {f} : K3 (.ok y h) f x = lift (f x y h) := rfl
@[simp] theorem K3_err {f} : K3 (.err e h) f x = .err e h := rfl
@[simp] theorem lift_some : lift (some (v, h)) = .ok v h := rfl
@[simp] theorem eA_ev {f as} : eA f as s h = KA (as s h) f := rfl
@[simp] theorem KA_ok {f xs} : KA (.ok xs h) f = lift (f xs h) := rfl
@[simp] theorem KA_err {f} : KA (.err e h) f = .err e h := rfl
@[simp] theorem aNil_ev : aNil s h = .ok [] h := rfl
@[simp] theorem aCons_ev {a r} : aCons a r s h = KC (a s h) r s := rfl
@[simp] theorem KC_ok {t} : KC (.ok x h) t s = KC2 (t s h) x := rfl
@[simp] theorem KC_err {t} : KC (.err e h) t s = .err e h := rfl
@[simp] theorem KC2_ok {xs} : KC2 (.ok xs h) x = .ok (x :: xs) h := rfl
@[simp] theorem KC2_err : KC2 (.err e h) x = .err e h := rfl
@[simp] theorem eMt_ev {g f a as} : eMt g f a as s h = KM (a s h) g f as s := rfl
@[simp] theorem KM_ok {g f as} : KM (.ok x h) g f as s = if g x h = true then KM2 (as s h) f x else .no := rfl
@[simp] theorem KM2_ok {f xs} : KM2 (.ok xs h) f x = lift (f x xs h) := rfl
@[simp] theorem call_ev {n f ms} : call n f ms s h = KCl (ms s h) n f := rfl
@[simp] theorem KCl_ok {n f xs} : KCl (.ok xs h) n f = if xs.length = n then f xs h else .no := rfl
@[simp] theorem KCl_err {n f} : KCl (.err e h) n f = .err e h := rfl
@[simp] theorem bB_ev {a} : bB a s h = KBB (a s h) := rfl
@[simp] theorem KBB_ok {b} : KBB (.ok (.bl b) h) = .ok b h := rfl
@[simp] theorem KBB_err : KBB (.err e h) = .err e h := rfl
@[simp] theorem bT_ev {a} : bT a s h = KBT (a s h) := rfl
@[simp] theorem KBT_bl {b} : KBT (.ok (.bl b) h) = .ok b h := rfl
@[simp] theorem KBT_non : KBT (.ok .non h) = .ok false h := rfl
@[simp] theorem KBT_err : KBT (.err e h) = .err e h := rfl
@[simp] theorem eIf_ev {c a b} : eIf c a b s h = KIf (c s h) a b s := rfl
@[simp] theorem KIf_ok {k a b} : KIf (.ok k h) a b s = if k = true then a s h else b s h := rfl
@[simp] theorem bAnd_ev {a b} : bAnd a b s h = KAn (a s h) b s := rfl
@[simp] theorem KAn_ok {k b} : KAn (.ok k h) b s = if k = true then b s h else .ok false h := rfl
@[simp] theorem bOr_ev {a b} : bOr a b s h = KOr (a s h) b s := rfl
@[simp] theorem KOr_ok {k b} : KOr (.ok k h) b s = if k = true then .ok true h else b s h := rfl
@[simp] theorem bNot_ev {a} : bNot a s h = KNo (a s h) := rfl
@[simp] theorem KNo_ok {k} : KNo (.ok k h) = .ok (!k) h := rfl
@[simp] theorem eAnd_ev {a b} : eAnd a b s h = KEA (a s h) b s := rfl
@[simp] theorem KEA_ok {k b} : KEA (.ok (.bl k) h) b s = if k = true then b s h else .ok (.bl false) h := rfl
@[simp] theorem eOr_ev {a b} : eOr a b s h = KEO (a s h) b s := rfl
@[simp] theorem KEO_ok {k b} : KEO (.ok (.bl k) h) b s = if k = true then .ok (.bl true) h else b s h := rfl
@[simp] theorem eNot_ev {a} : eNot a s h = KEN (a s h) := rfl
@[simp] theorem KEN_ok {k} : KEN (.ok (.bl k) h) = .ok (.bl (!k)) h := rfl
def SR.nxt (r : SR) (b : MS) : SR := match r with
  | .nx s1 h1 => b s1 h1
  | r => r
def KSet (r : Rz MV) (s : Lo) (i : Nat) : SR := r.bnS s fun v h1 => .nx (s.set i (some v)) h1
def KAsg (r : Rz MV) (s : Lo) (g : MG) : SR := r.bnS s fun v h1 => match g v s with
  | some s1 => .nx s1 h1
  | none => .no
def KExp (r : Rz MV) (s : Lo) : SR := r.bnS s fun _ h1 => .nx s h1
def KRet (r : Rz MV) (s : Lo) : SR := r.bnS s fun v h1 => .rt v h1
def KSIf (r : Rz Bool) (s : Lo) (a b : MS) : SR := r.bnS s fun k h1 => if k = true then a s h1 else b s h1
@[simp] theorem sNx_ev : sNx s h = .nx s h := rfl
@[simp] theorem sSeq_ev {a b} : sSeq a b s h = (a s h).nxt b := by unfold sSeq SR.nxt; cases a s h <;> rfl
@[simp] theorem nxt_nx {b} : (SR.nx s h).nxt b = b s h := rfl
@[simp] theorem nxt_rt {b} : (SR.rt v h).nxt b = .rt v h := rfl
@[simp] theorem nxt_bk {b} : (SR.bk s h).nxt b = .bk s h := rfl
@[simp] theorem nxt_ct {b} : (SR.ct s h).nxt b = .ct s h := rfl
@[simp] theorem nxt_err {b} : (SR.err e s h).nxt b = .err e s h := rfl
@[simp] theorem sAsgN_ev {a i} : sAsg a (gN i) s h = KSet (a s h) s i := rfl
@[simp] theorem KSet_ok {i} : KSet (.ok v h) s i = .nx (s.set i (some v)) h := rfl
@[simp] theorem KSet_err {i} : KSet (.err e h) s i = .err e s h := rfl
@[simp] theorem sAsgT_ev {a is} : sAsg a (gT is) s h = KAsg (a s h) s (gT is) := rfl
@[simp] theorem KAsgT_tup {xs is} : KAsg (.ok (.tup xs) h) s (gT is) = match setAll is xs s with
  | some s1 => .nx s1 h
  | none => .no := rfl
@[simp] theorem KAsgT_ktp {xs is} : KAsg (.ok (.ktp xs) h) s (gT is) = match setAll is xs s with
  | some s1 => .nx s1 h
  | none => .no := rfl
@[simp] theorem sExp_ev {a} : sExp a s h = KExp (a s h) s := rfl
@[simp] theorem KExp_ok : KExp (.ok v h) s = .nx s h := rfl
@[simp] theorem KExp_err : KExp (.err e h) s = .err e s h := rfl
@[simp] theorem sRet_ev {a} : sRet a s h = KRet (a s h) s := rfl
@[simp] theorem KRet_ok : KRet (.ok v h) s = .rt v h := rfl
@[simp] theorem KRet_err : KRet (.err e h) s = .err e s h := rfl
@[simp] theorem sRetN_ev : sRetN s h = .rt .non h := rfl
@[simp] theorem sIf_ev {c a b} : sIf c a b s h = KSIf (c s h) s a b := rfl
@[simp] theorem KSIf_ok {k a b} : KSIf (.ok k h) s a b = if k = true then a s h else b s h := rfl
@[simp] theorem KSIf_err {a b} : KSIf (.err e h) s a b = .err e s h := rfl
@[simp] theorem sBrk_ev : sBrk s h = .bk s h := rfl
@[simp] theorem sCnt_ev : sCnt s h = .ct s h := rfl
def KF (o : Option (Option MV)) (get : Itm) (g : MG) (b : MS) (n i : Nat) (s : Lo) (h : MH) : SR := match o with
  | none => .no
  | some none => .nx s h
  | some (some x) => match g x s with
    | none => .no
    | some s1 => match b s1 h with
      | .nx s2 h2 => forG get g b n (i + 1) s2 h2
      | .ct s2 h2 => forG get g b n (i + 1) s2 h2
      | .bk s2 h2 => .nx s2 h2
      | r => r
def KFB (r : SR) (get : Itm) (g : MG) (b : MS) (n i : Nat) : SR := match r with
  | .nx s2 h2 => forG get g b n (i + 1) s2 h2
  | .ct s2 h2 => forG get g b n (i + 1) s2 h2
  | .bk s2 h2 => .nx s2 h2
  | r => r
theorem forG_ev {get g b n i} : forG get g b (n + 1) i s h = KF (get i h) get g b n i s h := rfl
@[simp] theorem KF_stop {get g b n i} : KF (some none) get g b n i s h = .nx s h := rfl
@[simp] theorem KF_go {get j b n i} : KF (some (some x)) get (gN j) b n i s h = KFB (b (s.set j (some x)) h) get (gN j) b n i := by
  show (match b (s.set j (some x)) h with
      | .nx s2 h2 => forG get (gN j) b n (i + 1) s2 h2
      | .ct s2 h2 => forG get (gN j) b n (i + 1) s2 h2
      | .bk s2 h2 => .nx s2 h2
      | r => r) = _
  unfold KFB
  cases b (s.set j (some x)) h <;> rfl
@[simp] theorem KFB_nx {get g b n i} : KFB (.nx s h) get g b n i = forG get g b n (i + 1) s h := rfl
@[simp] theorem KFB_ct {get g b n i} : KFB (.ct s h) get g b n i = forG get g b n (i + 1) s h := rfl
@[simp] theorem KFB_bk {get g b n i} : KFB (.bk s h) get g b n i = .nx s h := rfl
@[simp] theorem KFB_rt {get g b n i} : KFB (.rt v h) get g b n i = .rt v h := rfl
@[simp] theorem KFB_err {get g b n i} : KFB (.err e s h) get g b n i = .err e s h := rfl
def KFR (r : Rz (List MV)) (rg : List MV → Option (Int × Nat)) (g : MG) (b : MS) (s : Lo) : SR := r.bnS s fun xs h1 => match rg xs with
  | some (lo, n) => forG (getR lo n) g b (n + 1) 0 s h1
  | none => .no
@[simp] theorem sForR_ev {rg as g b} : sForR rg as g b s h = KFR (as s h) rg g b s := rfl
theorem KFR_1 {g b j} : KFR (.ok [.int j] h) rng1 g b s = if -(2 ^ 62) ≤ j ∧ j < 2 ^ 62 then forG (getR 0 j.toNat) g b (j.toNat + 1) 0 s h else .no := by
  unfold KFR rng1 Rz.bnS
  by_cases c : -(2 ^ 62) ≤ j ∧ j < 2 ^ 62
  · simp only [if_pos c]
  · simp only [if_neg c]
@[simp] theorem getR_ev {lo : Int} {n i : Nat} : getR lo n i h = some (if i < n then some (.int (lo + i)) else none) := rfl
@[simp] theorem getL_ev {xs : List MV} {i : Nat} : getL xs i h = some xs[i]? := rfl
def KD (r : SR) : Rz MV := match r with
  | .nx _ h1 => .ok .non h1
  | .rt v h1 => .ok v h1
  | .err e _ h1 => .err e h1
  | _ => .no
theorem mDef_ev {n b xs} : mDef n b xs h = KD (b (xs.map some ++ List.replicate (n - xs.length) none) h) := by unfold mDef KD; rfl
@[simp] theorem KD_nx : KD (.nx s h) = .ok .non h := rfl
@[simp] theorem KD_rt : KD (.rt v h) = .ok v h := rfl
@[simp] theorem KD_err : KD (.err e s h) = .err e h := rfl
@[simp] theorem fAdd_int {i j} : fAdd (.int i) (.int j) h = some (.int (i + j), h) := rfl
@[simp] theorem fSub_int {i j} : fSub (.int i) (.int j) h = some (.int (i - j), h) := rfl
@[simp] theorem fCmp_int {p i j} : fCmp p (.int i) (.int j) h = some (.bl (p i j), h) := rfl
@[simp] theorem fInt_int {i} : fInt [.int i] h = some (.int i, h) := rfl
@[simp] theorem fAbs_int {i} : fAbs [.int i] h = some (.int (if i < 0 then -i else i), h) := rfl
@[simp] theorem fLen_frl {ys} : fLen [.frl ys] h = some (.int ys.length, h) := rfl
@[simp] theorem fLen_tup {ys} : fLen [.tup ys] h = some (.int ys.length, h) := rfl
@[simp] theorem fLen_ktp {ys} : fLen [.ktp ys] h = some (.int ys.length, h) := rfl
theorem fMod_int {i j : Int} (hj : 0 < j) : fMod (.int i) (.int j) h = some (.int (i % j), h) := by simp [fMod, hj]
@[simp] theorem fMod_lit {i : Int} {n : Nat} [NeZero n] : fMod (.int i) (.int (no_index (OfNat.ofNat n))) h = some (.int (i % (OfNat.ofNat n)), h) := fMod_int (by
  have : n ≠ 0 := NeZero.ne n
  show (0 : Int) < ((n : Nat) : Int)
  omega)
@[simp] theorem ob_some {b} : ob (some b) h = some (.bl b, h) := rfl
@[simp] theorem mEq_ss {n a b} : mEq n h (.str a) (.str b) = some (a == b) := by cases n <;> rfl
@[simp] theorem mEq_ii {n a b} : mEq n h (.int a) (.int b) = some (a == b) := by cases n <;> rfl
@[simp] theorem mEq_bb {n a b} : mEq n h (.bl a) (.bl b) = some (a == b) := by cases n <;> rfl
@[simp] theorem mEq_nn {n} : mEq n h .non .non = some true := by cases n <;> rfl
@[simp] theorem mEq_ns {n a} : mEq n h .non (.str a) = some false := by cases n <;> rfl
@[simp] theorem mEq_sn {n a} : mEq n h (.str a) .non = some false := by cases n <;> rfl
@[simp] theorem mEq_ni {n a} : mEq n h .non (.int a) = some false := by cases n <;> rfl
@[simp] theorem mEq_in {n a} : mEq n h (.int a) .non = some false := by cases n <;> rfl
@[simp] theorem mEq_is {n a b} : mEq n h (.int a) (.str b) = some false := by cases n <;> rfl
@[simp] theorem mEq_si {n a b} : mEq n h (.str a) (.int b) = some false := by cases n <;> rfl
@[simp] theorem mEq_tt {n xs ys} : mEq (n + 1) h (.tup xs) (.tup ys) = eqs (mEq n h) xs ys := rfl
@[simp] theorem mEq_kt {n xs ys} : mEq (n + 1) h (.ktp xs) (.tup ys) = eqs (mEq n h) xs ys := rfl
@[simp] theorem mEq_tk {n xs ys} : mEq (n + 1) h (.tup xs) (.ktp ys) = eqs (mEq n h) xs ys := rfl
@[simp] theorem mRc_ss {a b} : mRc h (.str a) (.str b) = some (a == b) := rfl
@[simp] theorem mRc_ii {a b} : mRc h (.int a) (.int b) = some (a == b) := rfl
@[simp] theorem mRc_bb {a b} : mRc h (.bl a) (.bl b) = some (a == b) := rfl
@[simp] theorem mRc_nn : mRc h .non .non = some true := rfl
@[simp] theorem mRc_ns {a} : mRc h .non (.str a) = some false := rfl
@[simp] theorem mRc_sn {a} : mRc h (.str a) .non = some false := rfl
@[simp] theorem mRc_tt {xs ys} : mRc h (.tup xs) (.tup ys) = eqs (mEq 7 h) xs ys := rfl
@[simp] theorem mRc_kt {xs ys} : mRc h (.ktp xs) (.tup ys) = eqs (mEq 7 h) xs ys := rfl
@[simp] theorem mRc_tk {xs ys} : mRc h (.tup xs) (.ktp ys) = eqs (mEq 7 h) xs ys := rfl
def KQ (o r : Option Bool) : Option Bool := match o, r with
  | some a, some b => some (a && b)
  | _, _ => none
@[simp] theorem eqs_nil {f} : eqs f [] [] = some true := rfl
@[simp] theorem eqs_cons {f ys} {xs : List MV} : eqs f (x :: xs) (y :: ys) = KQ (f x y) (eqs f xs ys) := rfl
@[simp] theorem eqs_nc {f ys} : eqs f [] (y :: ys) = some false := rfl
@[simp] theorem eqs_cn {f} {xs : List MV} : eqs f (x :: xs) [] = some false := rfl
@[simp] theorem KQ_some {a b} : KQ (some a) (some b) = some (a && b) := rfl
def KI (o r : Option Bool) : Option Bool := match o, r with
  | some a, some b => some (a || b)
  | _, _ => none
def inL (f : MV → Option Bool) (ys : List MV) : Option Bool := (insM f ys).map fun bs => bs.any id
@[simp] theorem KI_some {a b} : KI (some a) (some b) = some (a || b) := rfl
@[simp] theorem inL_nil {f} : inL f [] = some false := rfl
@[simp] theorem inL_cons {f ys} : inL f (y :: ys) = KI (f y) (inL f ys) := by
  unfold inL KI
  simp only [insM]
  cases f y <;> cases insM f ys <;> simp
@[simp] theorem fEq_ev : fEq x y h = ob (mRc h x y) h := rfl
@[simp] theorem fNe_ev : fNe x y h = ob ((mRc h x y).map not) h := rfl
@[simp] theorem fIn_ktp {ys} : fIn x (.ktp ys) h = ob (inL (fun y => mEq 7 h y x) ys) h := rfl
@[simp] theorem fIn_tup {ys} : fIn x (.tup ys) h = ob (inL (fun y => mEq 7 h y x) ys) h := rfl
@[simp] theorem fNotIn_ktp {ys} : fNotIn x (.ktp ys) h = ob ((inL (fun y => mEq 7 h y x) ys).map not) h := rfl
@[simp] theorem fNotIn_tup {ys} : fNotIn x (.tup ys) h = ob ((inL (fun y => mEq 7 h y x) ys).map not) h := rfl
theorem fNotIn_ref {i ys} (e : h[i]? = some (.lst ys)) : fNotIn x (.ref i) h = ob ((inL (fun y => mEq 7 h y x) ys).map not) h := by
  simp [fNotIn, mIn, seqOf, e, inL]
@[simp] theorem fIsN_non : fIsN .non .non h = some (.bl true, h) := rfl
@[simp] theorem fIsN_str {a} : fIsN (.str a) .non h = some (.bl false, h) := rfl
@[simp] theorem fIsN_tup {a} : fIsN (.tup a) .non h = some (.bl false, h) := rfl
@[simp] theorem fIsN_ref {a} : fIsN (.ref a) .non h = some (.bl false, h) := rfl
@[simp] theorem fIsN_glo {a} : fIsN (.glo a) .non h = some (.bl false, h) := rfl
@[simp] theorem fNotN_glo {a} : fNotN (.glo a) .non h = some (.bl true, h) := rfl
@[simp] theorem fIsN_int {a} : fIsN (.int a) .non h = some (.bl false, h) := rfl
@[simp] theorem fNotN_non : fNotN .non .non h = some (.bl false, h) := rfl
@[simp] theorem fNotN_str {a} : fNotN (.str a) .non h = some (.bl true, h) := rfl
@[simp] theorem fNotN_tup {a} : fNotN (.tup a) .non h = some (.bl true, h) := rfl
@[simp] theorem fNotN_ref {a} : fNotN (.ref a) .non h = some (.bl true, h) := rfl
@[simp] theorem fNotN_int {a} : fNotN (.int a) .non h = some (.bl true, h) := rfl
theorem atI_ofNat {α : Type} {xs : List α} {n : Nat} : atI xs (n : Int) = xs[n]? := by
  unfold atI ixN
  by_cases hn : n < xs.length
  · rw [if_pos (by omega), if_pos (by omega)]; simp
  · rw [if_pos (by omega), if_neg (by omega), List.getElem?_eq_none (by omega)]; rfl
@[simp] theorem atI_lit {α : Type} {xs : List α} {n : Nat} : atI xs (no_index (OfNat.ofNat n : Int)) = xs[(OfNat.ofNat n : Nat)]? := atI_ofNat
@[simp] theorem atI_0 {α : Type} {xs : List α} : atI xs (0 : Int) = xs[0]? := atI_ofNat (n := 0)
@[simp] theorem atI_1 {α : Type} {xs : List α} : atI xs (1 : Int) = xs[1]? := atI_ofNat (n := 1)
def KX (o : Option MV) (h : MH) : OV := o.map fun v => (v, h)
@[simp] theorem KX_some : KX (some v) h = some (v, h) := rfl
@[simp] theorem fIx_frl {xs i} : fIx (.frl xs) (.int i) h = KX (atI xs i) h := rfl
@[simp] theorem fIx_tup {xs i} : fIx (.tup xs) (.int i) h = KX (atI xs i) h := rfl
@[simp] theorem fIx_ktp {xs i} : fIx (.ktp xs) (.int i) h = KX (atI xs i) h := rfl
theorem fIx_ref {xs j i} (e : h[j]? = some (.lst xs)) : fIx (.ref j) (.int i) h = KX (atI xs i) h := by
  simp [fIx, seqOf, e, KX]
@[simp] theorem fLst_0 : fLst [] h = some (.ref h.length, h ++ [.lst []]) := rfl
@[simp] theorem fLst_c {xs} : fLst (x :: xs) h = if (x :: xs).length ≤ SZ then some (.ref h.length, h ++ [.lst (x :: xs)]) else none := rfl
@[simp] theorem fTup_c {xs} : fTup (x :: xs) h = if (x :: xs).length ≤ SZ then some (.tup (x :: xs), h) else none := rfl
theorem isL_ref {i ys} (e : h[i]? = some (.lst ys)) : isL (.ref i) h = true := by simp [isL, e]
theorem fAppend_ref {i ys} (e : h[i]? = some (.lst ys)) (hl : ys.length < SZ) : fAppend (.ref i) [y] h = some (.non, h.set i (.lst (ys ++ [y]))) := by
  simp [fAppend, lstOp, oAppend, e, hl]
theorem at_app {α : Type} {h l : List α} {k : Nat} : (h ++ l)[h.length + k]? = l[k]? := by
  rw [List.getElem?_append_right (by omega)]; congr 1; omega
theorem at_app0 {α : Type} {h l : List α} : (h ++ l)[h.length]? = l[0]? := by simpa using at_app (h := h) (l := l) (k := 0)
theorem set_app {α : Type} {h l : List α} {k : Nat} {o : α} : (h ++ l).set (h.length + k) o = h ++ l.set k o := by
  rw [List.set_append_right _ _ (by omega)]; congr 2; omega
theorem set_app0 {α : Type} {h l : List α} {o : α} : (h ++ l).set h.length o = h ++ l.set 0 o := by simpa using set_app (h := h) (l := l) (k := 0) (o := o)
end
end Mo
namespace Mo
open PySem L2
def spLaw (K : PySem.W.Frag) : Sp := fun vs H Q _ => ∃ (a : Addr) (ns : List Int), vs = [.ref a] ∧ Only H ∧ SqL K H a (ns.map V.int) ∧ ns.length ≤ 63 ∧ ∀ v H', v = .bl true → Q v H'
theorem spLaw_of {K : PySem.W.Frag} {G : String → Option V} {f : MF} (h : ∀ ns : List Int, ns.length ≤ 63 → ∃ h1, f [.frl (ns.map MV.int)] [] = .ok (.bl true) h1) (vs : List V) (H : Hp) (Q : VK) (E : XK) (q : spLaw K vs H Q E) : SpM K G 1 f vs H Q E := by
  obtain ⟨a, ns, rfl, hO, hS, hl, k⟩ := q
  obtain ⟨ρ, xs, mh, h1, h2, h3, h4⟩ := law_sp (G := G) (f := f) hO hS (h ns hl)
  refine ⟨ρ, xs, mh, h1, h2, h3, ?_⟩
  cases e : f xs mh with
  | ok v m => rw [e] at h4; exact fun ρ1 H1 x hr v1 rv => k v1 H1 (h4 ρ1 H1 x hr v1 rv)
  | err v m => rw [e] at h4; exact fun ρ1 H1 c d x hr er => (h4 ρ1 H1 c d x hr er).elim
  | no => rw [e] at h4; exact h4
theorem no_out {P : Program} {w : World} {H : Hp} {s : Shared} {e : Value} {s' : Shared} (h : L2.CX P w [] H s (fun _ _ _ => False) e s') : False := by
  obtain ⟨_, _, _, _, _, _, _, _, _, _, _, _, z⟩ := h
  exact z
def tyNames : List String := ["NoneType", "bool", "int", "str", "bytes", "tuple", "list", "dict"]
theorem tabB_all : (tyNames.all fun a => tyNames.all fun b => match tabB a b with
    | some r => kitB a b == some r
    | none => true) = true := by decide +kernel
theorem tabB_dom {a b : String} {r : Bool} (h : tabB a b = some r) : a = b ∨ (a ∈ tyNames ∧ b ∈ tyNames) := by
  unfold tabB at h
  split at h
  · exact .inl (by assumption)
  · split at h
    · rename_i q
      exact .inr (by rw [q.1, q.2]; decide)
    · split at h
      · rename_i q
        refine .inr ⟨?_, ?_⟩
        · exact List.contains_iff_mem.mp q.1
        · have := List.contains_iff_mem.mp q.2
          exact List.mem_cons_of_mem _ this
      · cases h
theorem tabB_ok {K : PySem.W.Frag} {a b : String} {r : Bool} (h : tabB a b = some r) : PySem.W.kitOne K (.type a) (.type b) = some r := by
  rcases tabB_dom h with e | ⟨ha, hb⟩
  · subst e
    have : r = true := by
      unfold tabB at h
      rw [if_pos rfl] at h
      exact (Option.some.inj h).symm
    subst this
    unfold PySem.W.kitOne
    rw [if_pos (by simp)]
  · have h1 := List.all_eq_true.mp tabB_all a ha
    have h2 := List.all_eq_true.mp h1 b hb
    rw [h] at h2
    exact kit_ty (beq_iff_eq.mp h2)
def ownOf (tab : OTab) : Own := fun t c => (tab.find? fun e => decide (e.1 = t ∧ e.2.1 = c)).map (·.2.2)
def gOf (K : PySem.W.Frag) : String → Option V := fun s => some (.ref (He.ga K (Str.ofString s)))
theorem ownOf_mem {tab : OTab} {t c : Bool × String} {b : Bool} (h : ownOf tab t c = some b) : (t, c, b) ∈ tab := by
  unfold ownOf at h
  cases e : tab.find? (fun e => decide (e.1 = t ∧ e.2.1 = c)) with
  | none => rw [e] at h; cases h
  | some q =>
    rw [e] at h
    have h1 := List.find?_some e
    have h2 := List.mem_of_find?_eq_some e
    simp only [decide_eq_true_eq] at h1
    obtain ⟨rfl, rfl⟩ := h1
    cases h
    exact h2
theorem isi_tab {K : PySem.W.Frag} {tab : OTab} (h : isiB K tab = true) : IsiOk K (gOf K) (ownOf tab) := by
  have hk : ∀ t c b, ownOf tab t c = some b → PySem.W.kitOne K (valT K t) (valT K c) = some b := fun t c b e => by
    have := List.all_eq_true.mp h _ (ownOf_mem e)
    simp only [Bool.and_eq_true, decide_eq_true_eq] at this
    exact this.1
  refine ⟨fun s v h => ⟨_, (Option.some.inj h).symm⟩, fun t c b tv cv e ht hc => ?_, fun s C c b hs e => ?_⟩
  · cases t with
    | ty a =>
      simp only [clsV, Option.some.injEq] at ht
      subst ht
      cases c with
      | ty n =>
        simp only [clsV, Option.some.injEq] at hc
        subst hc
        exact tabB_ok e
      | glo n =>
        simp only [clsV, gOf, Option.some.injEq] at hc
        subst hc
        exact hk (false, a) (true, n) b e
      | _ => simp [isiM] at e
    | glo a =>
      simp only [clsV, gOf, Option.some.injEq] at ht
      subst ht
      cases c with
      | ty n =>
        simp only [clsV, Option.some.injEq] at hc
        subst hc
        exact hk (true, a) (false, n) b e
      | glo n =>
        simp only [clsV, gOf, Option.some.injEq] at hc
        subst hc
        exact hk (true, a) (true, n) b e
      | _ => simp [isiM] at e
    | _ => cases c <;> simp [isiM] at e
  · have he : ∃ c', ownOf tab (true, s) c' = some b := by
      cases c with
      | ty n => exact ⟨_, e⟩
      | glo n => exact ⟨_, e⟩
      | _ => simp [isiM] at e
    obtain ⟨c', e'⟩ := he
    have := List.all_eq_true.mp h _ (ownOf_mem e')
    simp only [gOf, Option.some.injEq, V.ref.injEq] at hs
    subst hs
    simp only [Bool.and_eq_true, decide_eq_true_eq, Bool.not_true, Bool.false_or] at this
    obtain ⟨_, a1, a2, ⟨⟨⟨⟨a3, a4⟩, a5⟩, a6⟩, a7⟩, a8⟩ := this
    exact ⟨⟨a1, a2, a3, He.eqO_ok a4⟩, He.eqO_ok a5, He.eqO_ok a6, a7, a8⟩
theorem tup_kt {K : PySem.W.Frag} {x : Str} {vs : List He.Dv} (h : tupBD K x vs = true) : KtT K (He.ga K x) (vs.map (He.Dv.v K)) := by
  obtain ⟨h1, h2⟩ := He.ba h
  refine ⟨?_, ?_⟩
  · rcases He.tupB_ok h1 (fun _ => none) with q | q
    · rcases q with q | ⟨o, q⟩ <;> cases q
    · exact q
  · unfold tupD at h2
    split at h2
    · rename_i o e
      obtain ⟨h3, h4⟩ := He.ba h2
      exact ⟨o, e, of_decide_eq_true h3, by simpa using h4⟩
    · cases h2
end Mo
namespace Mo
open PySem L2
def putFM (f : Str) (v : MV) : List (Str × MV) → List (Str × MV)
  | [] => [(f, v)]
  | (g, x) :: r => if g = f then (g, v) :: r else (g, x) :: putFM f v r
section
variable {K : PySem.W.Frag} {G : String → Option V} {ρ : List Addr} {H : Hp} {mh : MH}
theorem lookupF_V {f : Str} : ∀ {xs : List (Str × MV)} {vs : List (Str × V)}, FRs K G ρ H xs vs →
    (∀ x, xs.lookup f = some x → ∃ v, vs.lookup f = some v ∧ VR K G ρ H x v) ∧ (xs.lookup f = none → vs.lookup f = none)
  | [], _, h => by simp only [FRs, KRs] at h; subst h; exact ⟨fun x e => by simp at e, fun _ => rfl⟩
  | x :: xs, _, h => by
    simp only [FRs, KRs] at h
    obtain ⟨v, r, rfl, q, t⟩ := h
    obtain ⟨i1, i2⟩ := lookupF_V (f := f) t
    obtain ⟨g, y⟩ := x
    cases e : f == g with
    | true =>
      simp only [List.lookup, id, e]
      exact ⟨fun z h => by cases h; exact ⟨v, rfl, q⟩, fun h => by cases h⟩
    | false =>
      simp only [List.lookup, id, e]
      exact ⟨i1, i2⟩
theorem putF_V {f : Str} {y : MV} {w : V} (hy : VR K G ρ H y w) : ∀ {xs : List (Str × MV)} {vs : List (Str × V)}, FRs K G ρ H xs vs → FRs K G ρ H (putFM f y xs) (putF f w vs)
  | [], _, h => by simp only [FRs, KRs] at h; subst h; exact ⟨w, [], rfl, hy, rfl⟩
  | (g, x) :: xs, _, h => by
    simp only [FRs, KRs] at h
    obtain ⟨v, r, rfl, q, t⟩ := h
    by_cases e : g = f
    · subst e
      simp only [putFM, putF, id, if_true]
      exact ⟨w, r, rfl, hy, t⟩
    · simp only [putFM, putF, id, if_neg e]
      exact ⟨v, _, rfl, q, putF_V hy t⟩
theorem HR.ins (hr : HR K G ρ H mh) {i : Nat} {c : String} {fs : List (Str × MV)} {v : V} (e : mh[i]? = some (.ins c fs)) (r : VR K G ρ H (.ref i) v) :
    ∃ a C dx vs, v = .ref a ∧ ρ[i]? = some a ∧ G c = some (.ref C) ∧ H a = some (.ins C dx vs) ∧ FRs K G ρ H fs vs := by
  simp only [VR] at r
  obtain ⟨a, rfl, ha⟩ := r
  obtain ⟨C, dx, vs, h1, h2, h3⟩ := hr.get e ha
  exact ⟨a, C, dx, vs, rfl, ha, h1, h2, h3⟩
end
def FldOk (K : PySem.W.Frag) (G : String → Option V) (f : Str) (cs : List String) : Prop := ∀ c ∈ cs, ∀ C, G c = some (.ref C) → Cls K C ∧ NoAttr K C f
def fFld (f : Str) (cs : List String) (x : MV) (h : MH) : OV := match x with
  | .ref i => match h[i]? with
    | some (.ins c fs) => if c ∈ cs then (fs.lookup f).map fun v => (v, h) else none
    | _ => none
  | _ => none
def putI (f : Str) (cs : List String) (o v : MV) (h : MH) : Option MH := match o with
  | .ref i => match h[i]? with
    | some (.ins c fs) => if c ∈ cs ∧ fs.length < 1000 then some (h.set i (.ins c (putFM f v fs))) else none
    | _ => none
  | _ => none
def sFldM (o e : ME) (f : Str) (cs : List String) : MS := fun s h => (e s h).bnS s fun v h1 => (o s h1).bnS s fun x h2 => match putI f cs x v h2 with
  | some h3 => .nx s h3
  | none => .no
section
variable {X : Cx} {G : String → Option V} {W : WX} {o e value : Expr} {f : Str} {cs : List String} {pos pos' : Pos} {mo me : ME} {D : Ends}
theorem m_fld (hC : FldOk X.K G f cs) (he : PE X e (RE X.K G W me)) (hb : attributeBase e f X.env (eval e X.env) = eval e X.env := by rfl) : PE X (.Attribute e f pos) (RE X.K G W (e1 (fFld f cs) me)) := by
  refine pe_imp (pe_fld he hb) fun σ H Q ⟨ρ, sm, mh, r0, q⟩ => ?_
  refine re_bnd r0 q fun x ρ1 H1 mh1 v x1 r1 rv q1 => ?_
  obtain ⟨z, h1, e1, k⟩ := ro_lift q1
  unfold fFld at e1
  split at e1
  · split at e1
    · rename_i c fs q2
      split at e1
      · rename_i hc
        obtain ⟨a, C, dx, vs, rfl, ha, g1, g2, g3⟩ := r1.hr.ins q2 rv
        obtain ⟨c1, c2⟩ := hC c hc C g1
        cases h : fs.lookup f with
        | none => rw [h] at e1; cases e1
        | some y =>
          rw [h] at e1; cases e1
          obtain ⟨w, l1, l2⟩ := (lookupF_V g3).1 _ h
          exact ⟨a, C, dx, vs, w, rfl, g2, c1, c2, l1, k _ _ Ext.refl r1.hr _ l2⟩
      · cases e1
    · cases e1
  · cases e1
theorem m_sfld (hC : FldOk X.K G f cs) (ho : PE X o (RE X.K G W mo)) (hv : PE X value (RE X.K G W me)) (hs : swapsWith value (some (.Attribute o f pos')) pos.line X.env = pure false := by rfl) : PS X (.Assign [.Attribute o f pos'] value pos) (RS X.K G W (sFldM mo me f cs)) := by
  refine ps_imp (ps_fld ho hv hs) fun D σ H ⟨ρ, sm, mh, r0, q⟩ => ?_
  refine res_bnd r0 q fun y ρ1 H1 mh1 w x1 r1 rw1 q1 => ?_
  refine res_bnd r1 q1 fun x ρ2 H2 mh2 v x2 r2 rv q2 => ?_
  have rw2 := rw1.ext x2
  unfold putI at q2
  split at q2
  · rename_i h3 e1
    split at e1
    · split at e1
      · rename_i c fs q3
        split at e1
        · rename_i hc
          cases e1
          obtain ⟨a, C, dx, vs, rfl, ha, g1, g2, g3⟩ := r2.hr.ins q3 rv
          obtain ⟨c1, c2⟩ := hC c hc.1 C g1
          have hx : Ext X.K ρ2 H2 ρ2 (upd H2 a (.ins C dx (putF f w vs))) := ext_write g2 (by simp [Plain])
          obtain ⟨a1, a2⟩ := r2.hr.write (u := .ins C dx (putF f w vs)) (o1 := .ins c (putFM f y fs)) q3 ha ⟨C, dx, _, g1, upd_same, (putF_V rw2 g3).ext hx⟩
          refine ⟨a, C, dx, vs, rfl, g2, c1, c2, by rw [← KRs.length g3]; exact hc.2, q2 _ _ _ a2 a1 (r2.sr.ext a2)⟩
        · cases e1
      · cases e1
    · cases e1
  · exact False.elim q2
end
end Mo
namespace Mo
open PySem L2
def pickL {α : Type} (pat : List (Nat × Nat)) (us mv ws : List α) : List α := pat.filterMap fun p => match p.1 with
  | 0 => us[p.2]?
  | 1 => mv[p.2]?
  | _ => ws[p.2]?
theorem Vals.none_of {xs : List V} {us : List Value} (r : Vals xs us) {i : Nat} (h : xs[i]? = none) : us[i]? = none := by
  rw [List.getElem?_eq_none_iff] at h ⊢
  rw [← r.length]; exact h
theorem Vals.pick {vs mz zs : List V} {us mv ws : List Value} (a : Vals vs us) (b : Vals mz mv) (c : Vals zs ws) : ∀ (pat : List (Nat × Nat)), Vals (pickL pat vs mz zs) (pickL pat us mv ws)
  | [] => .nil
  | (k, i) :: r => by
    have ih := Vals.pick a b c r
    unfold pickL at ih ⊢
    rw [List.filterMap_cons, List.filterMap_cons]
    have key : ∀ {xs : List V} {ys : List Value}, Vals xs ys → (xs[i]? = none ∧ ys[i]? = none) ∨ ∃ x y, xs[i]? = some x ∧ ys[i]? = some y ∧ RelV x y := fun {xs ys} q => by
      cases h : xs[i]? with
      | none => exact .inl ⟨rfl, Vals.none_of q h⟩
      | some x => obtain ⟨y, h1, h2⟩ := Vals.get q h; exact .inr ⟨x, y, rfl, h1, h2⟩
    match k with
    | 0 => rcases key a with ⟨h1, h2⟩ | ⟨x, y, h1, h2, h3⟩ <;> simp only [h1, h2] <;> first | exact ih | exact .cons h3 ih
    | 1 => rcases key b with ⟨h1, h2⟩ | ⟨x, y, h1, h2, h3⟩ <;> simp only [h1, h2] <;> first | exact ih | exact .cons h3 ih
    | n + 2 => rcases key c with ⟨h1, h2⟩ | ⟨x, y, h1, h2, h3⟩ <;> simp only [h1, h2] <;> first | exact ih | exact .cons h3 ih
section
variable {K : PySem.W.Frag} {G : String → Option V} {ρ : List Addr} {H : Hp}
theorem VRs.none_of {xs : List MV} {us : List V} (r : VRs K G ρ H xs us) {i : Nat} (h : xs[i]? = none) : us[i]? = none := by
  rw [List.getElem?_eq_none_iff] at h ⊢
  rw [← r.length]; exact h
theorem VRs.pick {vs mz zs : List MV} {us mv ws : List V} (a : VRs K G ρ H vs us) (b : VRs K G ρ H mz mv) (c : VRs K G ρ H zs ws) : ∀ (pat : List (Nat × Nat)), VRs K G ρ H (pickL pat vs mz zs) (pickL pat us mv ws)
  | [] => VRs.nil
  | (k, i) :: r => by
    have ih := VRs.pick a b c r
    unfold pickL at ih ⊢
    rw [List.filterMap_cons, List.filterMap_cons]
    have key : ∀ {xs : List MV} {ys : List V}, VRs K G ρ H xs ys → (xs[i]? = none ∧ ys[i]? = none) ∨ ∃ x y, xs[i]? = some x ∧ ys[i]? = some y ∧ VR K G ρ H x y := fun {xs ys} q => by
      cases h : xs[i]? with
      | none => exact .inl ⟨rfl, VRs.none_of q h⟩
      | some x => obtain ⟨y, h1, h2⟩ := VRs.get q h; exact .inr ⟨x, y, rfl, h1, h2⟩
    match k with
    | 0 => rcases key a with ⟨h1, h2⟩ | ⟨x, y, h1, h2, h3⟩ <;> simp only [h1, h2] <;> first | exact ih | exact VRs.cons h3 ih
    | 1 => rcases key b with ⟨h1, h2⟩ | ⟨x, y, h1, h2, h3⟩ <;> simp only [h1, h2] <;> first | exact ih | exact VRs.cons h3 ih
    | n + 2 => rcases key c with ⟨h1, h2⟩ | ⟨x, y, h1, h2, h3⟩ <;> simp only [h1, h2] <;> first | exact ih | exact VRs.cons h3 ih
end
structure GR (K : PySem.W.Frag) (G : String → Option V) (gM : List MV → List MV → List MV) (gV : List V → List V → List V) : Prop where
  rel : ∀ {ρ : List Addr} {H : Hp} {xs ys : List MV} {vs zs : List V}, VRs K G ρ H xs vs → VRs K G ρ H ys zs → VRs K G ρ H (gM xs ys) (gV vs zs)
def gPos : List MV → List MV → List MV := fun xs _ => xs
theorem GR.pos {K : PySem.W.Frag} {G : String → Option V} : GR K G gPos fun vs _ => vs := ⟨fun a _ => a⟩
def gPat (pat : List (Nat × Nat)) (ds : List MV) : List MV → List MV → List MV := fun xs ys => pickL pat xs ds ys
theorem GR.pat {K : PySem.W.Frag} {G : String → Option V} {pat : List (Nat × Nat)} {ds : List MV} {vs : List V} (h : ∀ ρ H, VRs K G ρ H ds vs) : GR K G (gPat pat ds) fun us ws => pickL pat us vs ws := ⟨fun a b => VRs.pick a (h _ _) b pat⟩
theorem KBn.pos {K : PySem.W.Frag} {fd : FuncData} {ps : List Str} {n : Nat} (h : Binds K fd ps []) (hn : ps.length = n) : KBn K fd ps n [] (fun us _ => us) fun vs _ => vs :=
  ⟨fun s us ws X l1 l2 => by
    have := h s us X (by rw [List.append_nil, l1, hn])
    rw [List.append_nil] at this
    exact this, fun a _ => a⟩
section
variable {X : Cx} {G : String → Option V} {W : WX} {e : Expr} {es : List Expr} {kws : List Keyword} {m : ME} {ms mk : MEs} {pos kpos : Pos} {nm : Option Str}
theorem pk_imp {t t' : TA} (h : PK X kws t) (i : ∀ σ H Q, t' σ H Q → t σ H Q) : PK X kws t' := ⟨fun pos pins s σ H Q I q => h.run pos pins s σ H Q I (i σ H Q q)⟩
theorem m_pknil : PK X [] (RA X.K G W aNil) := pk_imp pk_nil fun σ H Q ⟨ρ, sm, mh, r, q⟩ => RO.ok (P := PVs X.K G Q) q r.hr _ VRs.nil
theorem m_pkcons (ha : PE X e (RE X.K G W m)) (hr : PK X kws (RA X.K G W ms)) : PK X (⟨nm, e, kpos⟩ :: kws) (RA X.K G W (aCons m ms)) := by
  refine pk_imp (pk_cons ha hr) fun σ H Q ⟨ρ, sm, mh, r0, q⟩ => ?_
  refine re_bnd r0 q fun x ρ1 H1 mh1 v x1 r1 rv q1 => ?_
  exact ra_bnd r1 q1 fun xs ρ2 H2 mh2 vs x2 r2 rvs q2 => RO.ok (P := PVs X.K G Q) q2 r2.hr _ (VRs.cons (rv.ext x2) rvs)
end
def tMakeS (C : Addr) (n m : Nat) (sp : Sp) (gV : List V → List V → List V) (W : WX) (t tk : TA) : TE := fun σ H Q => t σ H fun vs H1 => tk σ H1 fun zs H2 => vs.length = n ∧ zs.length = m ∧ ∀ x dx, H2 x = none → H2 dx = none → dx ≠ x →
  sp (gV (.ref x :: vs) zs) (upd (upd H2 dx (.own x)) x (.ins C dx [])) (fun v H3 => v = .non ∧ Q (.ref x) H3) (WE W σ)
section
variable {X : Cx} {CX : CXT} {k n : Nat} {f C : Addr} {fd : FuncData} {ps ks : List Str} {sp : Sp} {W : WX} {x : Str} {p pos : Pos} {e : Expr} {es : List Expr} {kws : List Keyword} {t tk : TA} {g : List Value → List Value → List Value} {gV : List V → List V → List V}
theorem run_makeS {E : XK} {pins : List (Addr × Obj)} {σ : St} {H : Hp} {s : Shared} {Q : VK} {us ws : List Value} {vs zs : List V} (M : Mk X.K C f) (F : FnOk X.prog X.w X.K X.mg X.base CX k f fd ps sp) (hr : Room (k + 1) X.A) (hb : KBn X.K fd ps (n + 1) ks g gV) (hx : PassesAt CX X σ E)
    (I : Inv X pins σ H s) (r : Vals vs us) (rz : Vals zs ws) (l1 : vs.length = n) (l2 : zs.length = ks.length)
    (h : ∀ x dx, H x = none → H dx = none → dx ≠ x → sp (gV (.ref x :: vs) zs) (upd (upd H dx (.own x)) x (.ins C dx [])) (fun v H2 => v = .non ∧ Q (.ref x) H2) E) :
    PySem.wpAny (model X.prog X.w) X.A (PySem.call (.ref C) us (ks.zip ws)) (EP X pins σ Q) X.xe s := by
  have hq := h (s.heap.objs.size + 1) s.heap.objs.size (I.hok.fresh (Nat.le_succ _)) (I.hok.fresh (Nat.le_refl _)) (Nat.ne_of_lt (Nat.lt_succ_self _))
  have I2 := Inv.made (C := C) I
  have r1 : Vals (V.ref (s.heap.objs.size + 1) :: vs) (Value.ref (s.heap.objs.size + 1) :: us) := .cons rfl r
  have r2 := hb.rel r1 rz
  have n1 : (Value.ref (s.heap.objs.size + 1) :: us).length = n + 1 := by
    rw [List.length_cons, ← r.length, l1]
  refine PySem.wpAny_call (L2.make_map (f := f) I.kIn M.makes M.init (beq_iff_eq.mp M.fn) (PySem.codeAny_mono (F.run _ X.stack _ _ ⟨Value.ref (s.heap.objs.size + 1) :: us, ks.zip ws⟩ (g (Value.ref (s.heap.objs.size + 1) :: us) ws) _ _ E (hr.make C us (ks.zip ws))
    (I2.env0.make C us (ks.zip ws)) (hb.to _ (Value.ref (s.heap.objs.size + 1) :: us) ws I2.kIn n1 (rz.length.symm.trans l2)) r2 hq) fun r s' hq' => ?_))
  cases r with
  | error e => exact hx pins _ _ e s' I2 hq'
  | ok fl =>
    cases fl with
    | ret u =>
      obtain ⟨v, H', I3, rv, ev, q3⟩ := I2.after hq'
      subst ev
      exact ⟨rv, ⟨V.ref (s.heap.objs.size + 1), H', I3, rfl, q3⟩⟩
    | next => exact False.elim hq'
    | brk => exact False.elim hq'
    | cont => exact False.elim hq'
theorem pe_makeS (M : Mk X.K C f) (F : FnOk X.prog X.w X.K X.mg X.base CX k f fd ps sp) (hr : Room (k + 1) X.A) (hg : Gl X x) (hm : X.mg x = some (.ref C)) (hb : KBn X.K fd ps (n + 1) [] g gV) (hx : ∀ σ, PassesAt CX X σ (WE W σ)) (ha : PA X (e :: es) t)
    (hdb : (x == ("__debug__" : Str)) = false := by decide) (he : starEach (e :: es) X.env = (false, eval e X.env) :: starEach es X.env := by rfl) (hpl : (backTo pos (starEach es X.env)).any (·.1) = false := by rfl) :
    PE X (.Call (.Name x p) (e :: es) [] pos) (tMakeS C n 0 sp gV W t tNil) := by
  refine ⟨fun pins s σ H Q I h => ?_⟩
  refine wpAny_Call_Name_kw (ld_glob I hg hm ?_ hdb)
  refine PySem.W.callWith_K (h₀ := X.base) I.ok.mod.kin M.kp (thn (ha.run pos pins s σ H _ I h) fun us s1 ⟨vs, H1, I1, r, q⟩ => ⟨I1.kIn, ?_⟩) he hpl
  exact run_makeS (ks := []) (us := us) (ws := []) (vs := vs) (zs := []) M F hr hb (hx σ) I1 r .nil q.1 rfl q.2.2
theorem pe_makeSK0 (M : Mk X.K C f) (F : FnOk X.prog X.w X.K X.mg X.base CX k f fd ps sp) (hr : Room (k + 1) X.A) (hg : Gl X x) (hm : X.mg x = some (.ref C)) (hb : KBn X.K fd ps 1 ks g gV) (hx : ∀ σ, PassesAt CX X σ (WE W σ)) (hkw : PK X kws tk)
    (hall : (backToKw pos (keywordEach kws X.env)).all (·.1.isSome) = true := by rfl) (hks : (backToKw pos (keywordEach kws X.env)).filterMap (·.1) = ks := by rfl) (hdb : (x == ("__debug__" : Str)) = false := by decide)
    (hpl : ((backTo pos (starEach [] X.env)).any (·.1) || (backToKw pos (keywordEach kws X.env)).any (·.1.isNone)) = false := by rfl) :
    PE X (.Call (.Name x p) [] kws pos) (tMakeS C 0 ks.length sp gV W tNil tk) := by
  refine ⟨fun pins s σ H Q I h => ?_⟩
  refine wpAny_Call_Name_kw (ld_glob I hg hm ?_ hdb)
  refine PySem.W.callWith_KW0 (h₀ := X.base) I.ok.mod.kin M.kp hall ?_ hpl
  refine thn (hkw.run pos pins s σ H _ I h) fun ws s2 ⟨zs, H2, I2, rz, l1, l2, q2⟩ => ⟨I2.kIn, ?_⟩
  rw [hks]
  exact run_makeS (us := []) (vs := []) M F hr hb (hx σ) I2 .nil rz rfl l2 q2
end
def eMk (c : String) (n l N : Nat) (f : MF) (g : List MV → List MV → List MV) (ms mk : MEs) : ME := fun s h => (ms s h).bnd fun xs h1 => (mk s h1).bnd fun ys h2 =>
  if xs.length = n ∧ ys.length = l ∧ (g (.ref h2.length :: xs) ys).length = N then (f (g (.ref h2.length :: xs) ys) (h2 ++ [.ins c []])).bnd fun v h3 => match v with
    | .non => .ok (.ref h2.length) h3
    | _ => .no
  else .no
section
variable {X : Cx} {G : String → Option V} {W : WX} {e : Expr} {es : List Expr} {ms mk : MEs} {x : Str} {p pos : Pos} {k n l : Nat} {fa C : Addr} {fd : FuncData} {ps ks : List Str} {f : MF} {c : String} {kws : List Keyword} {g : List Value → List Value → List Value} {gM : List MV → List MV → List MV} {gV : List V → List V → List V}
theorem new_ins {K : PySem.W.Frag} {ρ : List Addr} {H : Hp} {mh : MH} {p dx : Addr} (hr : HR K G ρ H mh) (hG : G c = some (.ref C)) (hp : H p = none) (hd : H dx = none) (hn : dx ≠ p) :
    HR K G (ρ ++ [p]) (upd (upd H dx (.own p)) p (.ins C dx [])) (mh ++ [.ins c []]) ∧ Ext K ρ H (ρ ++ [p]) (upd (upd H dx (.own p)) p (.ins C dx [])) ∧ VR K G (ρ ++ [p]) (upd (upd H dx (.own p)) p (.ins C dx [])) (.ref mh.length) (.ref p) := by
  have x0 : Ext K ρ H ρ (upd H dx (.own p)) := ext_new0 hd
  have h0 : HR K G ρ (upd H dx (.own p)) mh := ⟨hr.len, hr.nd, fun i o e => by
    obtain ⟨a, ha, q⟩ := hr.obj i o e
    exact ⟨a, ha, q.keep x0 fun u hu => by rw [upd_ne (ne_of_none hu hd)]; exact hu⟩⟩
  have hp' : upd H dx (.own p) p = none := by rw [upd_ne (Ne.symm hn)]; exact hp
  have x1 : Ext K ρ (upd H dx (.own p)) (ρ ++ [p]) (upd (upd H dx (.own p)) p (.ins C dx [])) := ext_new hp'
  obtain ⟨h1, h2⟩ := h0.new (u := .ins C dx []) (o := .ins c []) hp' ⟨C, dx, [], hG, upd_same, rfl⟩
  exact ⟨h1, x0.trans h2, by simp only [VR]; exact ⟨p, rfl, by rw [← hr.len]; simp⟩⟩
theorem ro_anyS {α : Type} {K : PySem.W.Frag} {G : String → Option V} {W : WX} {σ : St} {P : α → List Addr → Hp → Prop} {ρ : List Addr} {H : Hp} {r : Rz α} (h : RO K G W σ P ρ H r) : RO K G (fun cls d _ H => WE W σ cls d H) [] P ρ H r := by
  cases r with
  | ok v m => exact h
  | err e m => exact h
  | no => exact h
theorem make_re {σ : St} {H : Hp} {Q : VK} (hG : G c = some (.ref C)) (hg : GR X.K G gM gV) (h : RE X.K G W (eMk c n l ps.length f gM ms mk) σ H Q) :
    tMakeS C n l (SpM X.K G ps.length f) gV W (RA X.K G W ms) (RA X.K G W mk) σ H Q := by
  obtain ⟨ρ, sm, mh, r0, q⟩ := h
  refine ra_bnd r0 q fun xs ρ1 H1 mh1 vs x1 r1 rvs q1 => ?_
  refine ra_bnd r1 q1 fun ys ρ2 H2 mh2 zs x2 r2 rzs q2 => ?_
  split at q2
  · rename_i hl
    obtain ⟨l1, l2, l3⟩ := hl
    refine ⟨by rw [← rvs.length]; exact l1, by rw [← rzs.length]; exact l2, fun a dx ha hd hn => ?_⟩
    obtain ⟨a1, a2, a3⟩ := new_ins r2.hr hG ha hd hn
    have rel := hg.rel (VRs.cons a3 ((rvs.ext x2).ext a2)) (rzs.ext a2)
    refine ⟨_, _, _, a1, rel, by rw [← rel.length]; exact l3, ?_⟩
    have q3 := RO.ext q2 a2
    refine (ro_anyS q3.bnd).mono Ext.refl fun v ρ3 H3 z w rv => ?_
    obtain ⟨mh3, x3, hr3, z⟩ := z
    split at z
    · simp only [VR] at rv
      exact ⟨rv, RO.ok (P := PV X.K G Q) z hr3 _ (VR.ext x3 a3)⟩
    · exact z.elim
  · exact q2.elim
theorem ra_nil {σ : St} {H : Hp} {Q : List V → Hp → Prop} (h : RA X.K G W aNil σ H Q) : tNil σ H Q := by
  obtain ⟨ρ, sm, mh, r0, q⟩ := h
  exact RO.ok (P := PVs X.K G Q) q r0.hr _ VRs.nil
theorem m_make (hG : G c = some (.ref C)) (hgr : GR X.K G gM gV) (M : Mk X.K C fa) (F : FnOk X.prog X.w X.K X.mg X.base (L2.CX X.prog X.w) k fa fd ps (SpM X.K G ps.length f)) (hr : Room (k + 1) X.A) (hg : Gl X x) (hm : X.mg x = some (.ref C)) (hb : KBn X.K fd ps (n + 1) [] g gV) (tk : Takes X W)
    (ha : PA X (e :: es) (RA X.K G W ms)) (hdb : (x == ("__debug__" : Str)) = false := by decide) (he : starEach (e :: es) X.env = (false, eval e X.env) :: starEach es X.env := by rfl) (hpl : (backTo pos (starEach es X.env)).any (·.1) = false := by rfl) :
    PE X (.Call (.Name x p) (e :: es) [] pos) (RE X.K G W (eMk c n 0 ps.length f gM ms aNil)) :=
  pe_imp (pe_makeS M F hr hg hm hb (fun σ => passAt tk σ) ha hdb he hpl) fun σ H Q h => by
    have := make_re hG hgr h
    obtain ⟨ρ, sm, mh, r0, q⟩ := this
    exact ⟨ρ, sm, mh, r0, q.mono Ext.refl fun v ρ H z vs rv => ra_nil (z vs rv)⟩
theorem m_makeK0 (hG : G c = some (.ref C)) (hgr : GR X.K G gM gV) (M : Mk X.K C fa) (F : FnOk X.prog X.w X.K X.mg X.base (L2.CX X.prog X.w) k fa fd ps (SpM X.K G ps.length f)) (hr : Room (k + 1) X.A) (hg : Gl X x) (hm : X.mg x = some (.ref C)) (hb : KBn X.K fd ps 1 ks g gV) (tk : Takes X W) (hkw : PK X kws (RA X.K G W mk))
    (hall : (backToKw pos (keywordEach kws X.env)).all (·.1.isSome) = true := by rfl) (hks : (backToKw pos (keywordEach kws X.env)).filterMap (·.1) = ks := by rfl) (hdb : (x == ("__debug__" : Str)) = false := by decide)
    (hpl : ((backTo pos (starEach [] X.env)).any (·.1) || (backToKw pos (keywordEach kws X.env)).any (·.1.isNone)) = false := by rfl) :
    PE X (.Call (.Name x p) [] kws pos) (RE X.K G W (eMk c 0 ks.length ps.length f gM aNil mk)) :=
  pe_imp (pe_makeSK0 M F hr hg hm hb (fun σ => passAt tk σ) hkw hall hks hdb hpl) fun σ H Q h => ra_nil (make_re hG hgr h)
end
section
variable {X : Cx} {CX : CXT} {k n : Nat} {f C : Addr} {fd : FuncData} {ps : List Str} {sp : Sp} {E : St → XK} {x m : Str} {p pos apos : Pos} {o e : Expr} {es : List Expr} {ta : TE} {t : TA}
end
def eMeth (c : String) (m : Str) (n : Nat) (f : MF) (a : ME) (as : MEs) : ME := fun s h => (a s h).bnd fun x h1 => match x with
  | .ref i => match h1[i]? with
    | some (.ins c' fs) => if c' = c ∧ fs.lookup m = none then (as s h1).bnd fun xs h2 => if xs.length + 1 = n then f (x :: xs) h2 else .no else .no
    | _ => .no
  | _ => .no
section
variable {X : Cx} {G : String → Option V} {W : WX} {o e : Expr} {es : List Expr} {mo : ME} {ms : MEs} {x m : Str} {p pos apos : Pos} {k : Nat} {fa C : Addr} {fd : FuncData} {ps : List Str} {f : MF} {c : String}
end
end Mo
namespace Mo
open PySem L2
def sNo : MS := fun _ _ => .no
def eNo : ME := fun _ _ => .no
theorem m_never {X : Cx} {G : String → Option V} {W : WX} {st : Stmt} : PS X st (RS X.K G W sNo) := ⟨fun pins s σ H D I h => by
  obtain ⟨ρ, sm, mh, r, q⟩ := h
  exact q.elim⟩
section
variable {X : Cx} {G : String → Option V} {W : WX} {a : Expr} {ma : ME} {pos : Pos}
theorem m_neg (ha : PE X a (RE X.K G W ma)) : PE X (.UnaryOp .USub a pos) (RE X.K G W (e1 fNeg ma)) := by
  refine pe_imp (pe_un un_neg ha) fun σ H Q ⟨ρ, sm, mh, r0, q⟩ => ?_
  refine re_bnd r0 q fun x ρ1 H1 mh1 v x1 r1 rv q1 => ?_
  obtain ⟨z, h1, e, k⟩ := ro_lift q1
  unfold fNeg at e
  split at e
  · cases e; simp only [VR] at rv; exact ⟨_, rv, k _ _ Ext.refl r1.hr _ (by simp [VR])⟩
  · cases e
end
abbrev MP := Lo → MH → Rz (Option Int)
def pNo : MP := fun _ h => .ok none h
def pIs (e : ME) : MP := fun s h => (e s h).bnd fun v h1 => match v with
  | .int i => .ok (some i) h1
  | _ => .no
def cutM (xs : List MV) (lo hi : Option Int) : List MV := (xs.drop (HT.sIx xs.length 0 lo)).take (HT.sIx xs.length xs.length hi - HT.sIx xs.length 0 lo)
def fSl (x : MV) (lo hi : Option Int) (h : MH) : OV := match x with
  | .str z => if z.length ≤ SZ then some (.str (cutS z lo hi), h) else none
  | .ref i => match h[i]? with
    | some (.lst xs) => some (.ref h.length, h ++ [.lst (cutM xs lo hi)])
    | _ => none
  | .frl xs => some (.ref h.length, h ++ [.lst (cutM xs lo hi)])
  | .tup xs => if ¬ (HT.sIx xs.length 0 lo = 0 ∧ HT.sIx xs.length xs.length hi = xs.length) then some (.tup (cutM xs lo hi), h) else none
  | .ktp xs => if ¬ (HT.sIx xs.length 0 lo = 0 ∧ HT.sIx xs.length xs.length hi = xs.length) then some (.tup (cutM xs lo hi), h) else none
  | _ => none
def eSl (a : ME) (l u : MP) : ME := fun s h => (a s h).bnd fun x h1 => (l s h1).bnd fun lo h2 => (u s h2).bnd fun hi h3 => lift (fSl x lo hi h3)
def RP (K : PySem.W.Frag) (G : String → Option V) (W : WX) (m : MP) : TO := fun σ H Q => ∃ ρ sm mh, Rl K G ρ H sm σ mh ∧ RO K G W σ (fun o _ H1 => Q o H1) ρ H (m sm mh)
section
variable {X : Cx} {G : String → Option V} {W : WX} {a e : Expr} {ma m : ME} {lo hi : Option Expr} {l u : MP} {pos p2 : Pos}
theorem po_imp {e : Option Expr} {t t' : TO} (h : PO X e t) (i : ∀ σ H Q, t' σ H Q → t σ H Q) : PO X e t' := ⟨fun pins s σ H Q I q => h.run pins s σ H Q I (i σ H Q q)⟩
theorem rp_bnd {K : PySem.W.Frag} {ρ : List Addr} {H : Hp} {sm : Lo} {σ : St} {mh : MH} {β : Type} {P : β → List Addr → Hp → Prop} {m : MP} {k : Option Int → MH → Rz β} {Q : Option Int → Hp → Prop} (r : Rl K G ρ H sm σ mh) (h : RO K G W σ P ρ H ((m sm mh).bnd k))
    (hq : ∀ v ρ1 H1 mh1, Ext K ρ H ρ1 H1 → Rl K G ρ1 H1 sm σ mh1 → RO K G W σ P ρ1 H1 (k v mh1) → Q v H1) : RP K G W m σ H Q :=
  ⟨ρ, sm, mh, r, h.bnd.mono Ext.refl fun v ρ1 H1 ⟨mh1, x, hr, z⟩ => hq v ρ1 H1 mh1 x (r.at x hr) z⟩
theorem m_pno : PO X none (RP X.K G W pNo) := po_imp po_none fun σ H Q ⟨ρ, sm, mh, r, q⟩ => RO.ok (P := fun o _ H1 => Q o H1) q r.hr
theorem m_pis (h : PE X e (RE X.K G W m)) : PO X (some e) (RP X.K G W (pIs m)) := by
  refine po_imp (po_some h) fun σ H Q ⟨ρ, sm, mh, r, q⟩ => ?_
  refine re_bnd r q fun x ρ1 H1 mh1 v x1 r1 rv q1 => ?_
  cases x with
  | int i => simp only [VR] at rv; exact ⟨i, rv, RO.ok (P := fun o _ H1 => Q o H1) q1 r1.hr⟩
  | _ => exact q1.elim
theorem cutM_V {K : PySem.W.Frag} {ρ : List Addr} {H : Hp} {xs : List MV} {vs : List V} {lo hi : Option Int} (r : VRs K G ρ H xs vs) : VRs K G ρ H (cutM xs lo hi) (cutV vs lo hi) := by
  unfold cutM cutV
  rw [r.length]
  exact VRs.take _ (VRs.drop _ r)
abbrev rSlA (K : PySem.W.Frag) : V → Option Int → Option Int → Hp → VK → Prop := fun x lo hi H Q => rSlL K x lo hi H Q ∨ (fun x lo hi H Q => rSlT K x lo hi H Q ∨ rSlS x lo hi H Q : V → Option Int → Option Int → Hp → VK → Prop) x lo hi H Q
theorem sl_all : SlR X (rSlA X.K) := sl_list.or (sl_tup.or sl_str)
theorem m_slice (ha : PE X a (RE X.K G W ma)) (hl : PO X lo (RP X.K G W l)) (hu : PO X hi (RP X.K G W u)) : PE X (.Subscript a (.Slice lo hi none p2) pos) (RE X.K G W (eSl ma l u)) := by
  refine pe_imp (pe_slice sl_all ha hl hu) fun σ H Q ⟨ρ, sm, mh, r0, q⟩ => ?_
  refine re_bnd r0 q fun x ρ1 H1 mh1 v x1 r1 rv q1 => ?_
  refine rp_bnd r1 q1 fun lo ρ2 H2 mh2 x2 r2 q2 => ?_
  refine rp_bnd r2 q2 fun hi ρ3 H3 mh3 x3 r3 q3 => ?_
  have rv3 := (rv.ext x2).ext x3
  obtain ⟨z, h1, e, k⟩ := ro_lift q3
  unfold fSl at e
  split at e
  · split at e
    · rename_i hz
      cases e
      simp only [VR] at rv3
      exact .inr (.inr ⟨_, rv3, by rw [SZ_eq]; exact hz, k _ _ Ext.refl r3.hr _ (by simp [VR])⟩)
    · cases e
  · split at e
    · rename_i xs q4
      cases e
      obtain ⟨p, vs, rfl, _, g1, g2⟩ := r3.hr.lst q4 rv3
      refine .inl ⟨p, vs, rfl, SqL.of g1, fun p hp => ?_⟩
      obtain ⟨a1, a2, a3⟩ := new_lst r3.hr (cutM_V g2) hp
      exact k _ _ a2 a1 _ a3
    · cases e
  · cases e
    simp only [VR] at rv3
    obtain ⟨p, vs, rfl, g1, g2⟩ := rv3
    refine .inl ⟨p, vs, rfl, g1.sq, fun p hp => ?_⟩
    obtain ⟨a1, a2, a3⟩ := new_lst r3.hr (cutM_V g2) hp
    exact k _ _ a2 a1 _ a3
  · split at e
    · rename_i hc
      cases e
      obtain ⟨p, vs, rfl, g1, g2⟩ := VR.tup rfl rv3
      refine .inr (.inl ⟨p, vs, rfl, g1, by rw [← g2.length]; exact hc, fun p hp => ?_⟩)
      obtain ⟨a1, a2, a3⟩ := new_tup r3.hr (cutM_V g2) hp
      exact k _ _ a2 a1 _ a3
    · cases e
  · split at e
    · rename_i hc
      cases e
      obtain ⟨p, vs, rfl, g1, g2⟩ := VR.tup rfl rv3
      refine .inr (.inl ⟨p, vs, rfl, g1, by rw [← g2.length]; exact hc, fun p hp => ?_⟩)
      obtain ⟨a1, a2, a3⟩ := new_tup r3.hr (cutM_V g2) hp
      exact k _ _ a2 a1 _ a3
    · cases e
  · cases e
end
def fList (xs : List MV) (h : MH) : OV := match xs with
  | [x] => match seqOf h x with
    | some ys => some (.ref h.length, h ++ [.lst ys])
    | none => none
  | _ => none
section
variable {X : Cx} {G : String → Option V}
theorem s_list : CallS X.K G (fun xs H Q => ∃ p ys, xs = [.ref p] ∧ (SqL X.K H p ys ∨ SqT X.K H p ys) ∧ ∀ l, H l = none → Q (.ref l) (upd H l (.lst ys))) fList := by
  intro ρ H mh mh1 xs z vs Q hr rvs e k
  unfold fList at e
  split at e
  · obtain ⟨v, rfl, rv⟩ := rvs.one
    split at e
    · rename_i ys q
      cases e
      obtain ⟨p, ws, rfl, g1, g2⟩ := seq_V hr q rv
      refine ⟨p, ws, rfl, g1, fun l hl => ?_⟩
      obtain ⟨a1, a2, a3⟩ := new_lst hr g2 hl
      exact k _ _ a2 a1 _ a3
    · cases e
  · cases e
end
theorem new_dk {K : PySem.W.Frag} {G : String → Option V} {ρ : List Addr} {H : Hp} {mh : MH} {kvs : List (Key × MV)} {vs : List (Key × V)} {p : Addr} (hr : HR K G ρ H mh) (r : KRs K G ρ H id kvs vs) (hp : H p = none) :
    HR K G (ρ ++ [p]) (upd H p (.dK vs)) (mh ++ [.dk kvs]) ∧ Ext K ρ H (ρ ++ [p]) (upd H p (.dK vs)) ∧ VR K G (ρ ++ [p]) (upd H p (.dK vs)) (.ref mh.length) (.ref p) := by
  have x : Ext K ρ H (ρ ++ [p]) (upd H p (.dK vs)) := ext_new hp
  obtain ⟨h1, h2⟩ := hr.new (u := .dK vs) (o := .dk kvs) hp ⟨vs, upd_same, r.ext x⟩
  exact ⟨h1, h2, by simp only [VR]; exact ⟨p, rfl, by rw [← hr.len]; simp⟩⟩
def eDk : ME := fun _ h => .ok (.ref h.length) (h ++ [.dk []])
def eDt : ME := fun _ h => .ok (.ref h.length) (h ++ [.dt []])
section
variable {X : Cx} {G : String → Option V} {W : WX} {o i e f value : Expr} {mo mi me mf : ME} {pos pos' apos cpos : Pos}
def mergeM (kvs more : List (Key × MV)) : List (Key × MV) := more.foldl (fun acc kv => putM acc kv.1 kv.2) kvs
abbrev MPs := Lo → MH → Rz (List (MV × MV))
def dNil : MPs := fun _ h => .ok [] h
def dCons (a b : ME) (r : MPs) : MPs := fun s h => (a s h).bnd fun x h1 => (b s h1).bnd fun y h2 => (r s h2).bnd fun ps h3 => .ok ((x, y) :: ps) h3
def pairsK : List (MV × MV) → Option (List (Key × MV))
  | [] => some []
  | (x, y) :: r => match keyM x, pairsK r with
    | some k, some ks => some ((k, y) :: ks)
    | _, _ => none
def eDisp (ps : MPs) : ME := fun s h => (ps s (h ++ [.dk []])).bnd fun ps h1 => match pairsK ps, h1[h.length]? with
  | some kvs, some (.dk []) => if kvs.length ≤ 15 then .ok (.ref h.length) (h1.set h.length (.dk (mergeM [] kvs))) else .no
  | _, _ => .no
inductive TPs (X : Cx) (G : String → Option V) (W : WX) (pos : Pos) : List (Option Expr) → List Expr → List (TE × TE) → MPs → Prop
  | nil : TPs X G W pos [] [] [] dNil
  | cons {k v : Expr} {ks : List (Option Expr)} {vs : List Expr} {mk mv : ME} {trs : List (TE × TE)} {m : MPs} : PE X k (RE X.K G W mk) → PE X v (RE X.K G W mv) → TPs X G W pos ks vs trs m →
      TPs X G W pos (some k :: ks) (v :: vs) ((RE X.K G W mk, RE X.K G W mv) :: trs) (dCons mk mv m)
theorem TPs.pps {ks : List (Option Expr)} {vs : List Expr} {trs : List (TE × TE)} {m : MPs} (h : TPs X G W pos ks vs trs m) : PPs X pos ks vs trs := by
  induction h with
  | nil => exact pps_nil
  | cons a b _ ih => exact pps_cons a b ih
def PRs (K : PySem.W.Frag) (G : String → Option V) (ρ : List Addr) (H : Hp) : List (MV × MV) → List (V × V) → Prop
  | [], vs => vs = []
  | x :: xs, vs => ∃ v w r, vs = (v, w) :: r ∧ VR K G ρ H x.1 v ∧ VR K G ρ H x.2 w ∧ PRs K G ρ H xs r
theorem PRs.ext {K : PySem.W.Frag} {ρ ρ1 : List Addr} {H H1 : Hp} (x : Ext K ρ H ρ1 H1) : ∀ {ms : List (MV × MV)} {vs : List (V × V)}, PRs K G ρ H ms vs → PRs K G ρ1 H1 ms vs
  | [], _, h => h
  | m :: ms, _, h => by
    obtain ⟨v, w, r, e, q, q2, t⟩ := h
    exact ⟨v, w, r, e, q.ext x, q2.ext x, PRs.ext x t⟩
theorem TPs.run {ks : List (Option Expr)} {vs : List Expr} {trs : List (TE × TE)} {m : MPs} (h : TPs X G W pos ks vs trs m) : ∀ {ρ : List Addr} {H : Hp} {sm : Lo} {σ : St} {mh : MH} {β : Type} {P : β → List Addr → Hp → Prop} {k : List (MV × MV) → MH → Rz β} {Q : List (V × V) → Hp → Prop},
    Rl X.K G ρ H sm σ mh → RO X.K G W σ P ρ H ((m sm mh).bnd k) →
    (∀ ps ρ1 H1 mh1 us, Ext X.K ρ H ρ1 H1 → Rl X.K G ρ1 H1 sm σ mh1 → PRs X.K G ρ1 H1 ps us → RO X.K G W σ P ρ1 H1 (k ps mh1) → Q us H1) → tPairs trs σ H Q := by
  induction h with
  | nil => exact fun r q hq => hq [] _ _ _ [] Ext.refl r rfl q
  | @cons k v ks vs mk mv trs m a b t ih =>
    intro ρ H sm σ mh β P kk Q r q hq
    have q' : RO X.K G W σ P ρ H ((mk sm mh).bnd fun x h1 => (mv sm h1).bnd fun y h2 => (m sm h2).bnd fun ps h3 => kk ((x, y) :: ps) h3) := by
      have : ((dCons mk mv m sm mh).bnd kk) = ((mk sm mh).bnd fun x h1 => (mv sm h1).bnd fun y h2 => (m sm h2).bnd fun ps h3 => kk ((x, y) :: ps) h3) := by
        unfold dCons
        cases mk sm mh with
        | ok x h1 =>
          simp only [Rz.bnd]
          cases mv sm h1 with
          | ok y h2 =>
            simp only
            cases m sm h2 <;> rfl
          | _ => rfl
        | _ => rfl
      rw [← this]; exact q
    refine re_bnd r q' fun x ρ1 H1 mh1 v x1 r1 rv q1 => ?_
    refine re_bnd r1 q1 fun y ρ2 H2 mh2 w x2 r2 rw' q2 => ?_
    refine ih r2 q2 fun ps ρ3 H3 mh3 us x3 r3 rp q3 => ?_
    exact hq ((x, y) :: ps) _ _ _ ((v, w) :: us) ((x1.trans x2).trans x3) r3 (by simp only [PRs]; exact ⟨v, w, us, rfl, (rv.ext x2).ext x3, rw'.ext x3, rp⟩) q3
theorem pairsK_V {K : PySem.W.Frag} {ρ : List Addr} {H : Hp} : ∀ {ps : List (MV × MV)} {us : List (V × V)} {kvs : List (Key × MV)}, pairsK ps = some kvs → PRs K G ρ H ps us → ∃ vs, KRs K G ρ H id kvs vs ∧ us = vs.map fun kv => (kV kv.1, kv.2)
  | [], _, _, e, h => by simp only [PRs] at h; subst h; cases e; exact ⟨[], rfl, rfl⟩
  | (x, y) :: r, _, _, e, h => by
    simp only [PRs] at h
    obtain ⟨v, w, s, rfl, q, q2, t⟩ := h
    simp only [pairsK] at e
    cases h1 : keyM x with
    | none => rw [h1] at e; simp at e
    | some k =>
      cases h2 : pairsK r with
      | none => rw [h1, h2] at e; simp at e
      | some ks =>
        rw [h1, h2] at e; cases e
        obtain ⟨vs, z1, z2⟩ := pairsK_V h2 t
        exact ⟨(k, w) :: vs, ⟨w, vs, rfl, q2, z1⟩, by rw [keyM_V h1 q, z2]; rfl⟩
theorem mergeM_V {K : PySem.W.Frag} {ρ : List Addr} {H : Hp} : ∀ {kvs : List (Key × MV)} {vs : List (Key × V)} {xs : List (Key × MV)} {ws : List (Key × V)}, KRs K G ρ H id kvs vs → KRs K G ρ H id xs ws → KRs K G ρ H id (mergeM xs kvs) (mergeK ws vs)
  | [], _, _, _, h, q => by simp only [KRs] at h; subst h; exact q
  | (k, y) :: r, _, xs, ws, h, q => by
    simp only [KRs] at h
    obtain ⟨w, s, rfl, q2, t⟩ := h
    show KRs K G ρ H id (mergeM (putM xs k y) r) (mergeK (putK ws k w) s)
    exact mergeM_V t (putM_V q q2)
theorem m_disp {keys : List (Option Expr)} {values : List Expr} {trs : List (TE × TE)} {m : MPs} (h : TPs X G W pos keys values trs m) (hall : keys.all (·.isSome) = true := by rfl) (hl : keys.length = values.length := by rfl) (h0 : keys ≠ [] := by simp) (h15 : keys.length ≤ 15 := by decide) :
    PE X (.Dict keys values pos) (RE X.K G W (eDisp m)) := by
  refine pe_imp (pe_disp h.pps hall hl h0 h15) fun σ H Q ⟨ρ, sm, mh, r, q⟩ => fun p hp => ?_
  obtain ⟨a1, a2, a3⟩ := new_dk (kvs := []) (vs := []) r.hr rfl hp
  refine h.run (r.at a2 a1) (RO.ext q a2) fun ps ρ1 H1 mh1 us x1 r1 rp q1 => ?_
  split at q1
  · rename_i kvs hk hd
    split at q1
    · rename_i hlen
      obtain ⟨vs, z1, z2⟩ := pairsK_V hk rp
      obtain ⟨b, ws, e1, hb, e2, e3⟩ := r1.hr.dk hd (a3.ext x1)
      cases e1
      simp only [KRs] at e3
      subst e3
      have hx : Ext X.K ρ1 H1 ρ1 (upd H1 p (.dK (mergeK [] vs))) := ext_write e2 (by simp [Plain])
      obtain ⟨b1, b2⟩ := r1.hr.write (u := .dK (mergeK [] vs)) (o1 := .dk (mergeM [] kvs)) hd hb ⟨_, upd_same, (mergeM_V (xs := []) (ws := []) z1 (by simp only [KRs])).ext hx⟩
      refine ⟨e2, vs, z2, by rw [← KRs.length z1]; exact hlen, ?_⟩
      exact q1 _ _ b2 b1 _ ((a3.ext x1).ext b2)
    · exact q1.elim
  · exact q1.elim
def putD (d k v : MV) (h : MH) : Option MH := match d with
  | .ref i => match h[i]? with
    | some (.dk kvs) => match keyM k with
      | some k => if kvs.length < SZ then some (h.set i (.dk (putM kvs k v))) else none
      | none => none
    | some (.dt kvs) => match k with
      | .tup ks => match keysM ks with
        | some k => if kvs.length < SZ then some (h.set i (.dt (putM kvs k v))) else none
        | none => none
      | _ => none
    | _ => none
  | _ => none
def sPut (d k e : ME) : MS := fun s h => (e s h).bnS s fun v h1 => (d s h1).bnS s fun x h2 => (k s h2).bnS s fun y h3 => match putD x y v h3 with
  | some h4 => .nx s h4
  | none => .no
theorem putD_V {K : PySem.W.Frag} {ρ : List Addr} {H : Hp} {mh h4 : MH} {x y z : MV} {v w u : V} (hr : HR K G ρ H mh) (e : putD x y z mh = some h4) (rx : VR K G ρ H x v) (ry : VR K G ρ H y w) (rz : VR K G ρ H z u) :
    ∃ a H4, v = .ref a ∧ DPut H a w u H4 ∧ Ext K ρ H ρ H4 ∧ HR K G ρ H4 h4 := by
  unfold putD at e
  split at e
  · split at e
    · rename_i kvs q
      split at e
      · rename_i k hk
        split at e
        · rename_i hl
          cases e
          obtain ⟨a, vs, rfl, ha, g1, g2⟩ := hr.dk q rx
          have hx : Ext K ρ H ρ (upd H a (.dK (putK vs k u))) := ext_write g1 (by simp [Plain])
          obtain ⟨a1, a2⟩ := hr.write (u := .dK (putK vs k u)) (o1 := .dk (putM kvs k z)) q ha ⟨_, upd_same, (putM_V g2 rz).ext hx⟩
          have := keyM_V hk ry
          subst this
          exact ⟨a, _, rfl, DPut.k g1 (by rw [SZ_eq, ← KRs.length g2]; exact hl), a2, a1⟩
        · cases e
      · cases e
    · rename_i kvs q
      split at e
      · rename_i ks
        split at e
        · rename_i k hk
          split at e
          · rename_i hl
            cases e
            obtain ⟨a, vs, rfl, ha, g1, g2⟩ := hr.dt q rx
            have hx : Ext K ρ H ρ (upd H a (.dT (putK vs k u))) := ext_write g1 (by simp [Plain])
            obtain ⟨a1, a2⟩ := hr.write (u := .dT (putK vs k u)) (o1 := .dt (putM kvs k z)) q ha ⟨_, upd_same, (putM_V g2 rz).ext hx⟩
            simp only [VR] at ry
            obtain ⟨b, ws, rfl, h5, h6⟩ := ry
            have h7 := keysM_V hk h6
            subst h7
            exact ⟨a, _, rfl, DPut.t g1 h5 (by rw [SZ_eq, ← KRs.length g2]; exact hl), a2, a1⟩
          · cases e
        · cases e
      · cases e
    · cases e
  · cases e
def isDM (x : MV) (h : MH) : Bool := match x with
  | .ref i => match h[i]? with
    | some (.dk _) => true
    | some (.fdk _ _ _) => true
    | some (.dt _) => true
    | _ => false
  | _ => false
def eGet1 (d k : ME) : ME := fun s h => (d s h).bnd fun x h1 => if isDM x h1 = true then (k s h1).bnd fun y h2 => match dGet h2 x y with
  | some o => .ok (o.getD .non) h2
  | none => .no else .no
end
end Mo
namespace Mo
open PySem L2
theorem units1 {X : Cx} {k : Nat} (hr : Room k X.A) : X.A.units + 1 < cLine := by have := hr.units; omega
def fInA (x y : MV) (h : MH) : OV := if isDM y h = true then fDIn x y h else fIn x y h
def fNotInA (x y : MV) (h : MH) : OV := if isDM y h = true then fDNotIn x y h else fNotIn x y h
def fIxA (x y : MV) (h : MH) : OV := if isDM x h = true then fDGet x y h else fIx x y h
section
variable {X : Cx} {G : String → Option V} {W : WX} {a b i o : Expr} {ma mb : ME} {pos : Pos} {k : Nat}
theorem alt2 {g : MV → MV → MH → Bool} {f1 f2 : MV → MV → MH → OV} {e : Expr} {t1 t2 : TE} (h1 : PE X e t1) (h2 : PE X e t2)
    (i1 : ∀ σ H Q, RE X.K G W (e2 (fun x y h => if g x y h = true then f1 x y h else none) ma mb) σ H Q → t1 σ H Q)
    (i2 : ∀ σ H Q, RE X.K G W (e2 (fun x y h => if g x y h = true then none else f2 x y h) ma mb) σ H Q → t2 σ H Q) :
    PE X e (RE X.K G W (e2 (fun x y h => if g x y h = true then f1 x y h else f2 x y h) ma mb)) := by
  refine pe_imp (pe_alt h1 h2) fun σ H Q ⟨ρ, sm, mh, r, q⟩ => ?_
  unfold e2 at q
  cases ea : ma sm mh with
  | no => rw [ea] at q; exact q.elim
  | err x m =>
    refine .inl (i1 σ H Q ⟨ρ, sm, mh, r, ?_⟩)
    rw [ea] at q
    unfold e2; rw [ea]; exact q
  | ok x m =>
    rw [ea] at q
    cases eb : mb sm m with
    | no => simp only [Rz.bnd, eb] at q; exact q.elim
    | err x2 m2 =>
      refine .inl (i1 σ H Q ⟨ρ, sm, mh, r, ?_⟩)
      simp only [Rz.bnd, eb] at q
      unfold e2; simp only [Rz.bnd, ea, eb]; exact q
    | ok y m2 =>
      simp only [Rz.bnd, eb] at q
      by_cases hg : g x y m2 = true
      · refine .inl (i1 σ H Q ⟨ρ, sm, mh, r, ?_⟩)
        unfold e2; simp only [Rz.bnd, ea, eb, if_pos hg]
        rw [if_pos hg] at q; exact q
      · refine .inr (i2 σ H Q ⟨ρ, sm, mh, r, ?_⟩)
        unfold e2; simp only [Rz.bnd, ea, eb, if_neg hg]
        rw [if_neg hg] at q; exact q
theorem if_some {α : Type} {c : Prop} [Decidable c] {o : Option α} {z : α} (h : (if c then o else none) = some z) : o = some z := by
  split at h
  · exact h
  · cases h
theorem if_some' {α : Type} {c : Prop} [Decidable c] {o : Option α} {z : α} (h : (if c then none else o) = some z) : o = some z := by
  split at h
  · cases h
  · exact h
theorem op_dinR (hu : X.A.units + 1 < cLine) : OpR X (compareOp .In) (fun y x H Q => ∃ a o, x = .ref a ∧ DGet H a y o ∧ Q (.bl o.isSome) H) := by
  intro pins s σ H x y v u Q I rx ry h
  obtain ⟨a, o, rfl, g, q⟩ := h
  obtain rfl : u = Value.ref a := ry
  exact d_in hu I g rx fun s3 I3 => ⟨.bl o.isSome, H, I3, rfl, q⟩
theorem op_dnotinR (hu : X.A.units + 1 < cLine) : OpR X (compareOp .NotIn) (fun y x H Q => ∃ a o, x = .ref a ∧ DGet H a y o ∧ Q (.bl (!o.isSome)) H) := by
  intro pins s σ H x y v u Q I rx ry h
  obtain ⟨a, o, rfl, g, q⟩ := h
  obtain rfl : u = Value.ref a := ry
  exact d_notIn hu I g rx fun s3 I3 => ⟨.bl (!o.isSome), H, I3, rfl, q⟩
theorem units1' (hu : X.A.units + 64 < cLine) : X.A.units + 1 < cLine := by omega
abbrev rInD (r : R2) : R2 := fun y x H Q => r y x H Q ∨ ∃ a o, x = .ref a ∧ DGet H a y o ∧ Q (.bl o.isSome) H
abbrev rNotInD (r : R2) : R2 := fun y x H Q => r y x H Q ∨ ∃ a o, x = .ref a ∧ DGet H a y o ∧ Q (.bl (!o.isSome)) H
theorem o_inA (hu : X.A.units + 64 < cLine) : OpR X (compareOp .In) (rInD (rInA X.K false)) := (o_in hu).or (op_dinR (units1' hu))
theorem o_notInA (hu : X.A.units + 64 < cLine) : OpR X (compareOp .NotIn) (rNotInD (rInA X.K true)) := (o_notIn hu).or (op_dnotinR (units1' hu))
theorem s_inA {r : R2} (hs : R2S X.K G r fIn) : R2S X.K G (fun y x H Q => r y x H Q ∨ ∃ a o, x = .ref a ∧ DGet H a y o ∧ Q (.bl o.isSome) H) fInA := by
  intro ρ H mh mh1 x y z v w Q hr rx ry e k
  unfold fInA at e
  split at e
  · unfold fDIn at e
    split at e
    · rename_i o hd
      cases e
      obtain ⟨b, r, rfl, g1, g2, g3⟩ := dGet_V hr hd ry rx
      refine .inr ⟨b, r, rfl, g1, k _ _ Ext.refl hr _ ?_⟩
      simp only [VR]
      cases o with
      | none => rw [g3 rfl]; rfl
      | some z => obtain ⟨u, rfl, _⟩ := g2 z rfl; rfl
    · cases e
  · exact .inl (hs hr rx ry e k)
theorem s_notInA {r : R2} (hs : R2S X.K G r fNotIn) : R2S X.K G (fun y x H Q => r y x H Q ∨ ∃ a o, x = .ref a ∧ DGet H a y o ∧ Q (.bl (!o.isSome)) H) fNotInA := by
  intro ρ H mh mh1 x y z v w Q hr rx ry e k
  unfold fNotInA at e
  split at e
  · unfold fDNotIn at e
    split at e
    · rename_i o hd
      cases e
      obtain ⟨b, r, rfl, g1, g2, g3⟩ := dGet_V hr hd ry rx
      refine .inr ⟨b, r, rfl, g1, k _ _ Ext.refl hr _ ?_⟩
      simp only [VR]
      cases o with
      | none => rw [g3 rfl]; rfl
      | some z => obtain ⟨u, rfl, _⟩ := g2 z rfl; rfl
    · cases e
  · exact .inl (hs hr rx ry e k)
theorem m_ixA (hr : Room k X.A) (ha : PE X a (RE X.K G W ma)) (hb : PE X b (RE X.K G W mb)) (hs : PlainIx b := by exact fun _ _ => rfl) (hs2 : NoSl b := by exact fun _ _ => rfl) : PE X (.Subscript a b pos) (RE X.K G W (e2 fIxA ma mb)) := by
  refine alt2 (G := G) (W := W) (g := fun x _ h => isDM x h) (f1 := fDGet) (f2 := fIx) (pe_dget (units1 hr) ha hb hs2) (pe_ix ix_seq ha hb hs) (fun σ H Q ⟨ρ, sm, mh, r0, q⟩ => ?_) fun σ H Q h => op_re (W := W) (f := fun x y h => if isDM x h = true then none else fIx x y h) (fun hr rx ry e k => s_ix hr rx ry (if_some' e) k) σ H Q h
  refine re_bnd r0 q fun x ρ1 H1 mh1 v x1 r1 rv q1 => ?_
  refine re_bnd r1 q1 fun y ρ2 H2 mh2 w x2 r2 rw' q2 => ?_
  obtain ⟨z, h1, e, k⟩ := ro_lift q2
  have e := if_some e
  unfold fDGet at e
  split at e
  · rename_i o hd
    cases e
    obtain ⟨b, r, rfl, g1, g2, g3⟩ := dGet_V r2.hr hd (rv.ext x2) rw'
    obtain ⟨u, rfl, h⟩ := g2 z rfl
    exact ⟨b, u, rfl, g1, k _ _ Ext.refl r2.hr _ h⟩
  · cases e
end
def eKGet (tab : List (Str × MV)) (m : ME) : ME := fun s h => (m s h).bnd fun x h1 => match x with
  | .str z => match tab.lookup z with
    | some v => .ok v h1
    | none => .no
  | _ => .no
structure TabOk (K : PySem.W.Frag) (G : String → Option V) (w : World) (d : Addr) (tab : List (Str × MV)) : Prop where
  kd : ∃ es n, KDict K w d es n
  at_ : ∀ z v, tab.lookup z = some v → ∃ u v1, PySem.W.nsIn K d z = some (some u) ∧ RelV v1 u ∧ ∀ ρ H, VR K G ρ H v v1
section
variable {X : Cx} {G : String → Option V} {W : WX} {e : Expr} {me : ME} {x : Str} {p apos cpos : Pos} {d : Addr} {tab : List (Str × MV)}
theorem m_kget (T : TabOk X.K G X.w d tab) (hg : Gl X x) (hm : X.mg x = some (.ref d)) (he : PE X e (RE X.K G W me)) (hd : (x == ("__debug__" : Str)) = false := by decide) (m : M1 X (.Name x p) "get" apos e cpos := by exact ⟨rfl, rfl, rfl, rfl⟩) :
    PE X (.Call (.Attribute (.Name x p) "get" apos) [e] [] cpos) (RE X.K G W (eKGet tab me)) := by
  obtain ⟨⟨es, n, D⟩, hT⟩ := T
  refine ⟨fun pins s σ H Q I h => ?_⟩
  refine wpAny_Call_method m.base m.few m.line PySem.F.plainAttrs_dict PySem.F.slot_dict_get PySem.F.type_dict_get (ld_glob I hg hm ?_ hd)
  have hmap := PySem.W.mapOf_K (prog := X.prog) (w := X.w) I.kIn D.at_ D.lit
  refine ⟨hmap.typeIs, hmap.noDict, ?_⟩
  rw [m.trees]
  obtain ⟨ρ, sm, mh, r0, q⟩ := h
  refine Calls.callWith_builtin rfl (Calls.evalArgs_plain (Calls.spliced_cons (thn (he.run pins s σ H _ I (re_bnd r0 q (Q := fun y H1 => ∃ z u v1, y = .str z ∧ PySem.W.nsIn X.K d z = some (some u) ∧ RelV v1 u ∧ Q v1 H1) fun x ρ1 H1 mh1 v x1 r1 rv q1 => ?_)) fun iv s2 ⟨y, H2, I2, ry, z, u, v1, ey, hn, ru, q2⟩ => Calls.spliced_nil ?_)))
  · split at q1
    · rename_i z
      split at q1
      · rename_i v2 hl
        obtain ⟨u, v1, h1, h2, h3⟩ := hT z v2 hl
        simp only [VR] at rv
        exact ⟨z, u, v1, rv, h1, h2, RO.ok (P := PV X.K G Q) q1 r1.hr _ (h3 _ _)⟩
      · exact q1.elim
    · exact q1.elim
  · subst ey
    obtain ⟨t, rfl⟩ := (show ∃ t, iv = Value.str z t from ry)
    have hmap2 := PySem.W.mapOf_K (prog := X.prog) (w := X.w) I2.kIn D.at_ D.lit
    refine call_meetsIn PySem.F.slot_dict_get hmap2.typeIs PySem.F.entry_dict_get (PySem.F.args_dict_get_2 _ _) (meets_dict_get (PySem.strKind X.prog X.w) d (PySem.strKind_is X.prog X.w z t) D.low) ⟨_, hmap2, ?_⟩
    rw [PySem.W.find_K D.at_ hn]
    exact ⟨v1, H2, I2.tok _, ru, q2⟩
end
structure HeldM (P : Program) (w : World) (K : PySem.W.Frag) (mg : Str → Option Value) (base : Heap) (G : String → Option V) (k n : Nat) (p : String × MF) : Prop where
  ex : ∃ (fa : Addr) (fd : FuncData) (ps : List Str), G p.1 = some (.ref fa) ∧ FnOk P w K mg base (L2.CX P w) k fa fd ps (SpM K G n p.2) ∧ PySem.W.keepIn K (.ref fa) = true ∧ Binds K fd ps []
def eCallL (i n : Nat) (tab : List (String × MF)) (ms : MEs) : ME := fun s h => match s[i]? with
  | some (some (.glo g)) => match tab.lookup g with
    | some f => call n f ms s h
    | none => .no
  | _ => .no
theorem lookup_mem {α : Type} {g : String} {f : α} : ∀ {tab : List (String × α)}, tab.lookup g = some f → (g, f) ∈ tab
  | [], h => by cases h
  | (a, b) :: r, h => by
    simp only [List.lookup] at h
    split at h
    · rename_i e
      cases h
      have : g = a := by simpa using e
      subst this
      exact List.mem_cons_self ..
    · exact List.mem_cons_of_mem _ (lookup_mem h)
section
variable {X : Cx} {CX : CXT} {k i n : Nat} {f : Addr} {fd : FuncData} {ps : List Str} {sp : Sp} {E : St → XK} {x : Str} {p pos : Pos} {e : Expr} {es : List Expr} {t : TA} {G : String → Option V} {W : WX} {ms : MEs} {tab : List (String × MF)}
theorem m_callL (A : ∀ p ∈ tab, HeldM X.prog X.w X.K X.mg X.base G k n p) (hr : Room k X.A) (tk : Takes X W) (ha : PA X (e :: es) (RA X.K G W ms)) (hN : X.N[i]? = some x := by rfl) (hv : Vis X.env.scope x := by first | exact Or.inl rfl | exact Or.inr (Or.inl rfl))
    (hdb : (x == ("__debug__" : Str)) = false := by decide) (hcd : (x == ("__classdict__" : Str)) = false := by decide)
    (he : starEach (e :: es) X.env = (false, eval e X.env) :: starEach es X.env := by rfl) (hpl : (backTo pos (starEach es X.env)).any (·.1) = false := by rfl) : PE X (.Call (.Name x p) (e :: es) [] pos) (RE X.K G W (eCallL i n tab ms)) := by
  refine ⟨fun pins s σ H Q I h => ?_⟩
  obtain ⟨ρ, sm, mh, r0, q⟩ := h
  unfold eCallL at q
  split at q
  · rename_i g hs
    split at q
    · rename_i f hl
      obtain ⟨fa, fd, ps, hG, F, hk, hb⟩ := (A _ (lookup_mem hl)).ex
      obtain ⟨v, hs', rv⟩ := r0.sr.2 _ _ hs
      simp only [VR] at rv
      replace rv := rv.1
      rw [hG] at rv
      cases rv
      refine wpAny_Call_Name_kw (thn ((pe_var (pos := p) hN hv hdb hcd).run pins s σ H (fun v H1 => v = .ref fa ∧ H1 = H) I ⟨.ref fa, hs', rfl, rfl⟩) fun u s1 ⟨v, H1, I1, r1, q1⟩ => ?_)
      obtain ⟨rfl, rfl⟩ := q1
      cases r1
      have hc : RE X.K G W (call n f ms) σ H1 Q := ⟨ρ, sm, mh, r0, q⟩
      refine PySem.W.callWith_K (h₀ := X.base) I.ok.mod.kin hk (thn (ha.run pos pins s1 σ _ _ I1 (call_re hc)) fun us s2 ⟨vs, H2, I2, r, q⟩ => ⟨I2.kIn, ?_⟩) he hpl
      exact run_fnS F hr hb (passAt tk σ) I2 r q
    · exact q.elim
  · exact q.elim
end
end Mo
namespace Mo
open PySem L2
mutual
def noref : MV → Bool
  | .ref _ => false
  | .exa _ _ _ => false
  | .tup xs => norefs xs
  | .ktp xs => norefs xs
  | .frl xs => norefs xs
  | _ => true
def norefs : List MV → Bool
  | [] => true
  | x :: xs => noref x && norefs xs
end
def norefO : MO → Bool
  | .lst xs => norefs xs
  | .dk kvs => norefs (kvs.map (·.2))
  | .dt kvs => norefs (kvs.map (·.2))
  | .ins _ fs => norefs (fs.map (·.2))
  | .xd _ fs => norefs (fs.map (·.2))
  | .dx _ _ => true
  | .fdk _ _ kvs => norefs (kvs.map (·.2))
open Classical in
noncomputable def gc (f : MF) : MF := fun xs h => match f xs h with
  | .ok v h2 => if noref v = true ∧ ∃ g, h2 = h ++ g then .ok v h else
    if hx : ∃ o k g, v = .ref (h.length + k) ∧ h2 = h ++ g ∧ g[k]? = some o ∧ norefO o = true then .ok (.ref h.length) (h ++ [hx.choose]) else .ok v h2
  | r => r
theorem gc_ok {f : MF} {xs : List MV} {h g : MH} {v : MV} (e : f xs h = .ok v (h ++ g)) (hn : noref v = true) : gc f xs h = .ok v h := by
  unfold gc
  rw [e]
  exact if_pos ⟨hn, g, rfl⟩
theorem gc_new {f : MF} {xs : List MV} {h g : MH} {k : Nat} {o : MO} (e : f xs h = .ok (.ref (h.length + k)) (h ++ g)) (hk : g[k]? = some o) (hn : norefO o = true) : gc f xs h = .ok (.ref h.length) (h ++ [o]) := by
  have hx : ∃ o' k' g', MV.ref (h.length + k) = .ref (h.length + k') ∧ h ++ g = h ++ g' ∧ g'[k']? = some o' ∧ norefO o' = true := ⟨o, k, g, rfl, rfl, hk, hn⟩
  unfold gc
  rw [e]
  dsimp only
  rw [if_neg (by intro z; exact absurd z.1 (by simp [noref])), dif_pos hx]
  obtain ⟨k', g', h1, h2, h3, h4⟩ := hx.choose_spec
  have hk' : k = k' := by
    have := MV.ref.inj h1
    omega
  have hg : g = g' := List.append_cancel_left h2
  subst hg hk'
  rw [hk] at h3
  rw [← Option.some.inj h3]
section
variable {K : PySem.W.Frag} {G : String → Option V} {ρ t : List Addr} {H H1 : Hp}
mutual
theorem VR.noref : ∀ {m : MV} {v : V}, noref m = true → VR K G ρ H m v → ∀ {ρ1 : List Addr}, VR K G ρ1 H m v
  | .non, _, _, h, _ => by simpa [VR] using h
  | .bl _, _, _, h, _ => by simpa [VR] using h
  | .int _, _, _, h, _ => by simpa [VR] using h
  | .str _, _, _, h, _ => by simpa [VR] using h
  | .byt _, _, _, h, _ => by simpa [VR] using h
  | .glo _, _, _, h, _ => by simpa [VR] using h
  | .ty _, _, _, h, _ => by simpa [VR] using h
  | .exa _ _ _, _, e, _, _ => by simp [Mo.noref] at e
  | .ref _, _, e, h, _ => by simp [Mo.noref] at e
  | .tup xs, _, e, h, _ => by
    simp only [VR] at h ⊢
    simp only [Mo.noref] at e
    obtain ⟨a, vs, e1, q, r⟩ := h
    exact ⟨a, vs, e1, q, VRs.noref e r⟩
  | .ktp xs, _, e, h, _ => by
    simp only [VR] at h ⊢
    simp only [Mo.noref] at e
    obtain ⟨a, vs, e1, q, r⟩ := h
    exact ⟨a, vs, e1, q, VRs.noref e r⟩
  | .frl xs, _, e, h, _ => by
    simp only [VR] at h ⊢
    simp only [Mo.noref] at e
    obtain ⟨a, vs, e1, q, r⟩ := h
    exact ⟨a, vs, e1, q, VRs.noref e r⟩
theorem VRs.noref : ∀ {ms : List MV} {vs : List V}, norefs ms = true → VRs K G ρ H ms vs → ∀ {ρ1 : List Addr}, VRs K G ρ1 H ms vs
  | [], _, _, h, _ => by simpa [VRs] using h
  | m :: ms, _, e, h, _ => by
    simp only [VRs] at h ⊢
    simp only [Mo.norefs, Bool.and_eq_true] at e
    obtain ⟨v, r, e1, q, t⟩ := h
    exact ⟨v, r, e1, VR.noref e.1 q, VRs.noref e.2 t⟩
end
theorem KRs.noref {κ : Type} {ρ1 : List Addr} : ∀ {ms : List (κ × MV)} {vs : List (κ × V)}, norefs (ms.map (·.2)) = true → KRs K G ρ H id ms vs → KRs K G ρ1 H id ms vs
  | [], _, _, h => h
  | m :: ms, _, e, h => by
    simp only [List.map_cons, norefs, Bool.and_eq_true] at e
    obtain ⟨v, r, e1, q, t⟩ := h
    exact ⟨v, r, e1, VR.noref e.1 q, KRs.noref e.2 t⟩
theorem OR.noref {o : MO} {a : Addr} {ρ1 : List Addr} (e : norefO o = true) (h : OR K G ρ H a o) : OR K G ρ1 H a o := by
  cases o with
  | lst xs => obtain ⟨vs, q, r⟩ := h; exact ⟨vs, q, r.noref e⟩
  | dk xs => obtain ⟨vs, q, r⟩ := h; exact ⟨vs, q, KRs.noref e r⟩
  | dt xs => obtain ⟨vs, q, r⟩ := h; exact ⟨vs, q, KRs.noref e r⟩
  | ins c fs => obtain ⟨C, dx, vs, g, q, r⟩ := h; exact ⟨C, dx, vs, g, q, KRs.noref e r⟩
  | xd c fs => obtain ⟨vs, q, r⟩ := h; exact ⟨vs, q, KRs.noref e r⟩
  | dx hs ks => exact h
  | fdk od vs kvs => obtain ⟨q, r⟩ := h; exact ⟨q, KRs.noref e r⟩
mutual
theorem VR.low : ∀ {m : MV} {u v : V}, VR K G ρ H m u → VR K G (ρ ++ t) H1 m v → VR K G ρ H1 m v
  | .non, _, _, _, h => by simpa [VR] using h
  | .bl _, _, _, _, h => by simpa [VR] using h
  | .int _, _, _, _, h => by simpa [VR] using h
  | .str _, _, _, _, h => by simpa [VR] using h
  | .byt _, _, _, _, h => by simpa [VR] using h
  | .glo _, _, _, _, h => by simpa [VR] using h
  | .ty _, _, _, _, h => by simpa [VR] using h
  | .exa _ _ _, _, _, l, h => by
    simp only [VR] at h l ⊢
    refine ⟨h.1, ?_⟩
    rw [← h.2, List.getElem?_append_left (List.getElem?_eq_some_iff.mp l.2).1]
  | .ref i, _, _, l, h => by
    simp only [VR] at h l ⊢
    obtain ⟨a, e, q⟩ := h
    obtain ⟨b, _, q2⟩ := l
    refine ⟨a, e, ?_⟩
    rw [← q, List.getElem?_append_left (List.getElem?_eq_some_iff.mp q2).1]
  | .tup xs, _, _, l, h => by
    simp only [VR] at h l ⊢
    obtain ⟨a, vs, e, q, r⟩ := h
    obtain ⟨_, us, _, _, l⟩ := l
    exact ⟨a, vs, e, q, VRs.low l r⟩
  | .ktp xs, _, _, l, h => by
    simp only [VR] at h l ⊢
    obtain ⟨a, vs, e, q, r⟩ := h
    obtain ⟨_, us, _, _, l⟩ := l
    exact ⟨a, vs, e, q, VRs.low l r⟩
  | .frl xs, _, _, l, h => by
    simp only [VR] at h l ⊢
    obtain ⟨a, vs, e, q, r⟩ := h
    obtain ⟨_, us, _, _, l⟩ := l
    exact ⟨a, vs, e, q, VRs.low l r⟩
theorem VRs.low : ∀ {ms : List MV} {us vs : List V}, VRs K G ρ H ms us → VRs K G (ρ ++ t) H1 ms vs → VRs K G ρ H1 ms vs
  | [], _, _, _, h => by simpa [VRs] using h
  | m :: ms, _, _, l, h => by
    simp only [VRs] at h l ⊢
    obtain ⟨v, r, e1, q, t⟩ := h
    obtain ⟨_, _, _, l1, l2⟩ := l
    exact ⟨v, r, e1, VR.low l1 q, VRs.low l2 t⟩
end
theorem KRs.low {κ : Type} : ∀ {ms : List (κ × MV)} {us vs : List (κ × V)}, KRs K G ρ H id ms us → KRs K G (ρ ++ t) H1 id ms vs → KRs K G ρ H1 id ms vs
  | [], _, _, _, h => h
  | m :: ms, _, _, l, h => by
    obtain ⟨v, r, e1, q, t⟩ := h
    obtain ⟨_, _, _, l1, l2⟩ := l
    exact ⟨v, r, e1, VR.low l1 q, KRs.low l2 t⟩
theorem OR.low {o : MO} {a b : Addr} (l : OR K G ρ H b o) (h : OR K G (ρ ++ t) H1 a o) : OR K G ρ H1 a o := by
  cases o with
  | lst xs => obtain ⟨vs, q, r⟩ := h; obtain ⟨us, _, l⟩ := l; exact ⟨vs, q, l.low r⟩
  | dk xs => obtain ⟨vs, q, r⟩ := h; obtain ⟨us, _, l⟩ := l; exact ⟨vs, q, KRs.low l r⟩
  | dt xs => obtain ⟨vs, q, r⟩ := h; obtain ⟨us, _, l⟩ := l; exact ⟨vs, q, KRs.low l r⟩
  | ins c fs => obtain ⟨C, dx, vs, g, q, r⟩ := h; obtain ⟨_, _, us, _, _, l⟩ := l; exact ⟨C, dx, vs, g, q, KRs.low l r⟩
  | xd c fs => obtain ⟨vs, q, r⟩ := h; obtain ⟨us, _, l⟩ := l; exact ⟨vs, q, KRs.low l r⟩
  | dx hs ks => exact h
  | fdk od vs kvs => obtain ⟨q, r⟩ := h; obtain ⟨_, l⟩ := l; exact ⟨q, KRs.low l r⟩
theorem HR.low {mh g : MH} (h0 : HR K G ρ H mh) (h1 : HR K G (ρ ++ t) H1 (mh ++ g)) : HR K G ρ H1 mh := by
  refine ⟨h0.len, h0.nd, fun i o e => ?_⟩
  obtain ⟨b, hb, l⟩ := h0.obj i o e
  have hi := (List.getElem?_eq_some_iff.mp e).1
  obtain ⟨a, ha, q⟩ := h1.obj i o (by rw [List.getElem?_append_left hi]; exact e)
  rw [List.getElem?_append_left (by rw [h0.len]; exact hi)] at ha
  exact ⟨a, ha, OR.low l q⟩
theorem gc_sp {n : Nat} {f : MF} {vs : List V} {H : Hp} {Q : VK} {E : XK} (h : SpM K G n (gc f) vs H Q E) : SpM K G n f vs H Q E := by
  obtain ⟨ρ, xs, mh, hr, rv, hl, q⟩ := h
  refine ⟨ρ, xs, mh, hr, rv, hl, ?_⟩
  unfold gc at q
  cases e : f xs mh with
  | no => rw [e] at q; exact q
  | err x m => rw [e] at q; exact q
  | ok v h2 =>
    rw [e] at q
    dsimp only at q
    split at q
    · rename_i hc
      obtain ⟨hn, g, rfl⟩ := hc
      intro ρ1 H1 x hr1 w rw'
      obtain ⟨⟨t, rfl⟩, x2, x3⟩ := x
      exact q ρ H1 ⟨⟨[], by simp⟩, x2, x3⟩ (hr.low hr1) w (VR.noref hn rw')
    · split at q
      · rename_i hx
        obtain ⟨k, g, h1, h2', h3, h4⟩ := hx.choose_spec
        generalize hx.choose = o at q h3 h4
        subst h1 h2'
        intro ρ1 H1 x hr1 w rw'
        obtain ⟨⟨t, rfl⟩, x2, x3⟩ := x
        simp only [VR] at rw'
        obtain ⟨a, rfl, ha⟩ := rw'
        have h0 := hr.low hr1
        have hak : t[k]? = some a := by
          rw [List.getElem?_append_right (by rw [hr.len]; omega)] at ha
          rw [← ha]; congr 1; rw [hr.len]; omega
        have hmem : a ∈ t := List.mem_of_getElem? hak
        have hna : a ∉ ρ := fun hm => by
          have hnd := hr1.nd
          rw [List.nodup_append] at hnd
          exact hnd.2.2 a hm a hmem rfl
        obtain ⟨b, hb, ob⟩ := hr1.obj (mh.length + k) o (by rw [List.getElem?_append_right (by omega)]; rw [← h3]; congr 1; omega)
        have hab : b = a := by
          rw [List.getElem?_append_right (by rw [hr.len]; omega)] at hb
          have : t[k]? = some b := by rw [← hb]; congr 1; rw [hr.len]; omega
          rw [hak] at this
          exact (Option.some.inj this).symm
        subst hab
        refine q (ρ ++ [b]) H1 ⟨⟨[b], rfl⟩, x2, x3⟩ ⟨by simp [hr.len], ?_, fun i o' e' => ?_⟩ _ (by simp only [VR]; exact ⟨b, rfl, by rw [← hr.len]; simp⟩)
        · rw [List.nodup_append]
          exact ⟨hr.nd, by simp, fun c hc d hd e => by simp at hd; subst hd; subst e; exact hna hc⟩
        · by_cases hi : i < mh.length
          · rw [List.getElem?_append_left hi] at e'
            obtain ⟨c, hc, oc⟩ := h0.obj i o' e'
            exact ⟨c, by rw [List.getElem?_append_left (by rw [hr.len]; exact hi)]; exact hc, OR.keep ⟨⟨[b], rfl⟩, fun _ _ z => z, fun _ _ z => z⟩ (fun _ z => z) oc⟩
          · have hz : i = mh.length ∧ o = o' := by
              rw [List.getElem?_append_right (by omega)] at e'
              have hlt := (List.getElem?_eq_some_iff.mp e').1
              simp at hlt
              have hz : i - mh.length = 0 := by omega
              rw [hz] at e'
              simp at e'
              exact ⟨by omega, e'⟩
            obtain ⟨rfl, rfl⟩ := hz
            exact ⟨b, by rw [← hr.len]; simp, OR.noref h4 ob⟩
      · exact q
end
section
variable {P : Program} {w : World} {K : PySem.W.Frag} {mg : Str → Option Value} {base : Heap} {G : String → Option V}
theorem fn_mD {x qual : Str} {params : Arguments} {body : List Stmt} {scope : Scope} {dvs : List V} {kws : List (Str × V)} {f : Addr} {fd : FuncData} {N ps : List Str} {k : Nat} {b : MS} (F : FunD K x qual params body scope dvs kws f fd) (S : FnScope N ps scope)
    (hb : ∀ (cdv : Value) (A : Around) (outer : List Env) (s : Shared) (H : Hp) (E : XK), Room k (A.deeper (PyProof.Rows.envOfC qual scope s.heap.objs.size f cdv)) →
      PSs (cxOf (L2.CX P w) P w K mg base N qual scope f cdv A outer s H E) body (RS K G (fun cls d _ H => E cls d H) b)) :
    FnOk P w K mg base (L2.CX P w) (k + 1) f fd ps (SpM K G ps.length (mDef N.length b)) := by
  refine F.ok S (fun vs H Q E h => h.choose_spec.choose_spec.choose_spec.2.2.1) (fun cdv A outer s H vs Q E hr h => ⟨_, hb cdv A outer s H E hr, ?_⟩)
  obtain ⟨ρ, xs, mh, h1, h2, h3, h4⟩ := h
  refine ⟨ρ, _, mh, ⟨h1, h2.at (n := N.length)⟩, ?_⟩
  unfold mDef at h4
  cases e : b (xs.map some ++ List.replicate (N.length - xs.length) none) mh with
  | nx s m => rw [e] at h4; exact fun ρ1 H1 σ1 x hr sr => h4 ρ1 H1 x hr _ (by simp [VR])
  | rt v m => rw [e] at h4; exact fun ρ1 H1 v1 x hr rv => h4 ρ1 H1 x hr v1 rv
  | bk s m => rw [e] at h4; exact False.elim h4
  | ct s m => rw [e] at h4; exact False.elim h4
  | err v s m => rw [e] at h4; exact fun ρ1 H1 σ1 cls d x hr sr er => h4 ρ1 H1 cls d x hr er
  | no => rw [e] at h4; exact h4
theorem fn_gc {f : Addr} {fd : FuncData} {ps : List Str} {k n : Nat} {m : MF} (F : FnOk P w K mg base (L2.CX P w) k f fd ps (SpM K G n m)) : FnOk P w K mg base (L2.CX P w) k f fd ps (SpM K G n (gc m)) := F.imp fun _ _ _ _ h => gc_sp h
end
end Mo
namespace Mo
open PySem L2
theorem ofString_inj {a b : String} (h : Str.ofString a = Str.ofString b) : a = b := by
  rw [PySem.Str.ofString_eq_toList, PySem.Str.ofString_eq_toList] at h
  have h1 := congrArg (fun z : Str => z.cps.toList) h
  simp only [List.toList_toArray] at h1
  have hinj : ∀ {x y : Char}, x.toNat = y.toNat → x = y := fun {x y} e => Char.ext (UInt32.toNat_inj.mp e)
  have : ∀ {xs ys : List Char}, xs.map Char.toNat = ys.map Char.toNat → xs = ys := by
    intro xs
    induction xs with
    | nil => intro ys e; cases ys with
      | nil => rfl
      | cons _ _ => simp at e
    | cons x xs ih => intro ys e; cases ys with
      | nil => simp at e
      | cons y ys => simp at e; rw [hinj e.1, ih (by simpa using e.2)]
  exact String.toList_inj.mp (this h1)
@[simp] theorem ofString_eq {a b : String} : (Str.ofString a = Str.ofString b) = (a = b) := propext ⟨ofString_inj, fun h => by rw [h]⟩
@[simp] theorem ofString_beq {a b : String} : (Str.ofString a == Str.ofString b) = (a == b) := by
  by_cases h : a = b
  · subst h; simp
  · have h2 : ¬ Str.ofString a = Str.ofString b := fun e => h (ofString_inj e)
    rw [beq_eq_false_iff_ne.mpr h, beq_eq_false_iff_ne.mpr h2]
section
variable {s s1 : Lo} {h h1 : MH} {x y v z : MV} {e : MX}
def K1 (r : Rz MV) (f : MV → MH → OV) : Rz MV := r.bnd fun x h1 => lift (f x h1)
@[simp] theorem e1_ev {f a} : e1 f a s h = K1 (a s h) f := rfl
@[simp] theorem K1_ok {f} : K1 (.ok x h) f = lift (f x h) := rfl
@[simp] theorem K1_err {f} : K1 (.err e h) f = .err e h := rfl
@[simp] theorem fNeg_int {i} : fNeg (.int i) h = some (.int (-i), h) := rfl
@[simp] theorem fInt_bl {b} : fInt [.bl b] h = some (.int (if b then 1 else 0), h) := rfl
@[simp] theorem sNo_ev : sNo s h = .no := rfl
@[simp] theorem eNo_ev : eNo s h = .no := rfl
theorem fFld_ref {f cs i c fs} (e : h[i]? = some (.ins c fs)) : fFld f cs (.ref i) h = if c ∈ cs then KX (fs.lookup f) h else none := by simp [fFld, e, KX]
theorem putI_ref {f cs i c fs} (e : h[i]? = some (.ins c fs)) : putI f cs (.ref i) v h = if c ∈ cs ∧ fs.length < 1000 then some (h.set i (.ins c (putFM f v fs))) else none := by simp [putI, e]
@[simp] theorem putFM_nil {f} : putFM f v [] = [(f, v)] := rfl
@[simp] theorem putFM_cons {f g r} : putFM f v ((g, x) :: r) = if g = f then (g, v) :: r else (g, x) :: putFM f v r := rfl
def KFl (r : Rz MV) (o : ME) (f : Str) (cs : List String) (s : Lo) : SR := r.bnS s fun v h1 => (o s h1).bnS s fun x h2 => match putI f cs x v h2 with
  | some h3 => .nx s h3
  | none => .no
def KFl2 (r : Rz MV) (v : MV) (f : Str) (cs : List String) (s : Lo) : SR := r.bnS s fun x h2 => match putI f cs x v h2 with
  | some h3 => .nx s h3
  | none => .no
def KNx (o : Option MH) (s : Lo) : SR := match o with
  | some h3 => .nx s h3
  | none => .no
@[simp] theorem sFldM_ev {o e f cs} : sFldM o e f cs s h = KFl (e s h) o f cs s := rfl
@[simp] theorem KFl_ok {o f cs} : KFl (.ok v h) o f cs s = KFl2 (o s h) v f cs s := rfl
@[simp] theorem KFl_err {o f cs} : KFl (.err e h) o f cs s = .err e s h := rfl
@[simp] theorem KFl2_ok {f cs} : KFl2 (.ok x h) v f cs s = KNx (putI f cs x v h) s := rfl
@[simp] theorem KNx_some : KNx (some h) s = .nx s h := rfl
def KMk (r : Rz (List MV)) (c : String) (n l N : Nat) (f : MF) (g : List MV → List MV → List MV) (mk : MEs) (s : Lo) : Rz MV := r.bnd fun xs h1 => (mk s h1).bnd fun ys h2 =>
  if xs.length = n ∧ ys.length = l ∧ (g (.ref h2.length :: xs) ys).length = N then (f (g (.ref h2.length :: xs) ys) (h2 ++ [.ins c []])).bnd fun v h3 => match v with
    | .non => .ok (.ref h2.length) h3
    | _ => .no
  else .no
def KMk3 (r : Rz MV) (a : Nat) : Rz MV := r.bnd fun v h3 => match v with
    | .non => .ok (.ref a) h3
    | _ => .no
def KMk2 (r : Rz (List MV)) (xs : List MV) (c : String) (n l N : Nat) (f : MF) (g : List MV → List MV → List MV) : Rz MV := r.bnd fun ys h2 =>
  if xs.length = n ∧ ys.length = l ∧ (g (.ref h2.length :: xs) ys).length = N then KMk3 (f (g (.ref h2.length :: xs) ys) (h2 ++ [.ins c []])) h2.length else .no
@[simp] theorem eMk_ev {c n l N f g ms mk} : eMk c n l N f g ms mk s h = KMk (ms s h) c n l N f g mk s := rfl
@[simp] theorem KMk_ok {c n l N f g mk xs} : KMk (.ok xs h) c n l N f g mk s = KMk2 (mk s h) xs c n l N f g := rfl
@[simp] theorem KMk_err {c n l N f g mk} : KMk (.err e h) c n l N f g mk s = .err e h := rfl
@[simp] theorem KMk2_ok {c n l N f g xs ys} : KMk2 (.ok ys h) xs c n l N f g = if xs.length = n ∧ ys.length = l ∧ (g (.ref h.length :: xs) ys).length = N then KMk3 (f (g (.ref h.length :: xs) ys) (h ++ [.ins c []])) h.length else .no := rfl
@[simp] theorem KMk2_err {c n l N f g xs} : KMk2 (.err e h) xs c n l N f g = .err e h := rfl
@[simp] theorem KMk3_ok {a} : KMk3 (.ok .non h) a = .ok (.ref a) h := rfl
@[simp] theorem KMk3_err {a} : KMk3 (.err e h) a = .err e h := rfl
@[simp] theorem gPos_ev {xs ys} : gPos xs ys = xs := rfl
@[simp] theorem gPat_ev {p d xs ys} : gPat p d xs ys = pickL p xs d ys := rfl
@[simp] theorem pickL_nil {α : Type} {us mv ws : List α} : pickL [] us mv ws = [] := rfl
def KMt (r : Rz MV) (c : String) (m : Str) (n : Nat) (f : MF) (as : MEs) (s : Lo) : Rz MV := r.bnd fun x h1 => match x with
  | .ref i => match h1[i]? with
    | some (.ins c' fs) => if c' = c ∧ fs.lookup m = none then (as s h1).bnd fun xs h2 => if xs.length + 1 = n then f (x :: xs) h2 else .no else .no
    | _ => .no
  | _ => .no
def KMt2 (r : Rz (List MV)) (n : Nat) (f : MF) (x : MV) : Rz MV := r.bnd fun xs h2 => if xs.length + 1 = n then f (x :: xs) h2 else .no
@[simp] theorem eMeth_ev {c m n f a as} : eMeth c m n f a as s h = KMt (a s h) c m n f as s := rfl
@[simp] theorem KMt2_ok {n f xs} : KMt2 (.ok xs h) n f x = if xs.length + 1 = n then f (x :: xs) h else .no := rfl
@[simp] theorem KMt2_err {n f} : KMt2 (.err e h) n f x = .err e h := rfl
def KS (r : Rz MV) (l u : MP) (s : Lo) : Rz MV := r.bnd fun x h1 => (l s h1).bnd fun lo h2 => (u s h2).bnd fun hi h3 => lift (fSl x lo hi h3)
def KS2 (r : Rz (Option Int)) (x : MV) (u : MP) (s : Lo) : Rz MV := r.bnd fun lo h2 => (u s h2).bnd fun hi h3 => lift (fSl x lo hi h3)
def KS3 (r : Rz (Option Int)) (x : MV) (lo : Option Int) : Rz MV := r.bnd fun hi h3 => lift (fSl x lo hi h3)
@[simp] theorem eSl_ev {a l u} : eSl a l u s h = KS (a s h) l u s := rfl
@[simp] theorem KS_ok {l u} : KS (.ok x h) l u s = KS2 (l s h) x u s := rfl
@[simp] theorem KS2_ok {lo u} : KS2 (.ok lo h) x u s = KS3 (u s h) x lo := rfl
@[simp] theorem KS3_ok {lo hi} : KS3 (.ok hi h) x lo = lift (fSl x lo hi h) := rfl
@[simp] theorem pNo_ev : pNo s h = .ok none h := rfl
def KPi (r : Rz MV) : Rz (Option Int) := r.bnd fun v h1 => match v with
  | .int i => .ok (some i) h1
  | _ => .no
@[simp] theorem pIs_ev {a} : pIs a s h = KPi (a s h) := rfl
@[simp] theorem KPi_ok {i} : KPi (.ok (.int i) h) = .ok (some i) h := rfl
theorem fSl_str {lo hi} {z : Str} (hz : z.length ≤ SZ) : fSl (.str z) lo hi h = some (.str (cutS z lo hi), h) := by simp [fSl, hz]
theorem fList_ref {i xs} (e : h[i]? = some (.lst xs)) : fList [.ref i] h = some (.ref h.length, h ++ [.lst xs]) := by simp [fList, seqOf, e]
@[simp] theorem fList_tup {xs} : fList [.tup xs] h = some (.ref h.length, h ++ [.lst xs]) := rfl
@[simp] theorem fList_ktp {xs} : fList [.ktp xs] h = some (.ref h.length, h ++ [.lst xs]) := rfl
theorem fAdd_ref {i j xs ys} (e1 : h[i]? = some (.lst xs)) (e2 : h[j]? = some (.lst ys)) : fAdd (.ref i) (.ref j) h = if xs.length + ys.length ≤ SZ then some (.ref h.length, h ++ [.lst (xs ++ ys)]) else none := by simp [fAdd, e1, e2]
@[simp] theorem fAdd_str {a b : Str} : fAdd (.str a) (.str b) h = if a.length + b.length ≤ SZ then some (.str (a ++ b), h) else none := rfl
@[simp] theorem eDk_ev : eDk s h = .ok (.ref h.length) (h ++ [.dk []]) := rfl
@[simp] theorem eDt_ev : eDt s h = .ok (.ref h.length) (h ++ [.dt []]) := rfl
@[simp] theorem dNil_ev : dNil s h = .ok [] h := rfl
def KD1 (r : Rz MV) (b : ME) (t : MPs) (s : Lo) : Rz (List (MV × MV)) := r.bnd fun x h1 => (b s h1).bnd fun y h2 => (t s h2).bnd fun ps h3 => .ok ((x, y) :: ps) h3
def KD2 (r : Rz MV) (x : MV) (t : MPs) (s : Lo) : Rz (List (MV × MV)) := r.bnd fun y h2 => (t s h2).bnd fun ps h3 => .ok ((x, y) :: ps) h3
def KD3 (r : Rz (List (MV × MV))) (x y : MV) : Rz (List (MV × MV)) := r.bnd fun ps h3 => .ok ((x, y) :: ps) h3
@[simp] theorem dCons_ev {a b r} : dCons a b r s h = KD1 (a s h) b r s := rfl
@[simp] theorem KD1_ok {b t} : KD1 (.ok x h) b t s = KD2 (b s h) x t s := rfl
@[simp] theorem KD2_ok {t} : KD2 (.ok y h) x t s = KD3 (t s h) x y := rfl
@[simp] theorem KD3_ok {ps} : KD3 (.ok ps h) x y = .ok ((x, y) :: ps) h := rfl
def KDs (r : Rz (List (MV × MV))) (n : Nat) : Rz MV := r.bnd fun ps h1 => match pairsK ps, h1[n]? with
  | some kvs, some (.dk []) => if kvs.length ≤ 15 then .ok (.ref n) (h1.set n (.dk (mergeM [] kvs))) else .no
  | _, _ => .no
@[simp] theorem eDisp_ev {ps} : eDisp ps s h = KDs (ps s (h ++ [.dk []])) h.length := rfl
theorem KDs_ok {ps n kvs} (hk : pairsK ps = some kvs) (hd : h[n]? = some (.dk [])) : KDs (.ok ps h) n = if kvs.length ≤ 15 then .ok (.ref n) (h.set n (.dk (mergeM [] kvs))) else .no := by
  simp only [KDs, Rz.bnd, hk, hd]
def KPc (k : Option Key) (y : MV) (r : Option (List (Key × MV))) : Option (List (Key × MV)) := match k, r with
  | some k, some ks => some ((k, y) :: ks)
  | _, _ => none
@[simp] theorem pairsK_nil : pairsK [] = some [] := rfl
@[simp] theorem pairsK_cons {r} : pairsK ((x, y) :: r) = KPc (keyM x) y (pairsK r) := rfl
@[simp] theorem KPc_some {k r} : KPc (some k) y (some r) = some ((k, y) :: r) := rfl
@[simp] theorem keyM_str {z} : keyM (.str z) = some (.inr z) := rfl
@[simp] theorem keyM_int {z} : keyM (.int z) = some (.inl z) := rfl
@[simp] theorem keysM_nil : keysM [] = some [] := rfl
def KKc (k : Option Key) (r : Option (List Key)) : Option (List Key) := match k, r with
  | some k, some ks => some (k :: ks)
  | _, _ => none
@[simp] theorem keysM_cons {xs} : keysM (x :: xs) = KKc (keyM x) (keysM xs) := rfl
@[simp] theorem KKc_some {k r} : KKc (some k) (some r) = some (k :: r) := rfl
@[simp] theorem mergeM_nil {kvs} : mergeM kvs [] = kvs := rfl
@[simp] theorem mergeM_cons {kvs k r} : mergeM kvs ((k, y) :: r) = mergeM (putM kvs k y) r := rfl
@[simp] theorem putM_nil {κ : Type} [DecidableEq κ] {k : κ} : putM [] k y = [(k, y)] := rfl
@[simp] theorem putM_cons {κ : Type} [DecidableEq κ] {k a : κ} {r : List (κ × MV)} : putM ((a, x) :: r) k y = if a = k then (a, y) :: r.map (fun kv => if kv.1 = k then (kv.1, y) else kv) else (a, x) :: putM r k y := by
  unfold putM
  by_cases e : a = k
  · simp [e]
  · simp only [List.any_cons, e, decide_false, Bool.false_or, if_false, List.map_cons]
    by_cases f : (r.any fun kv => decide (kv.1 = k)) = true <;> simp [f]
@[simp] theorem valM_nil {κ : Type} [DecidableEq κ] {k : κ} : valM [] k = none := rfl
@[simp] theorem valM_cons {κ : Type} [DecidableEq κ] {k a : κ} {r : List (κ × MV)} : valM ((a, x) :: r) k = if a = k then some x else valM r k := by
  unfold valM
  by_cases e : a = k <;> simp [e, List.find?_cons]
def KPut1 (r : Rz MV) (d k : ME) (s : Lo) : SR := r.bnS s fun v h1 => (d s h1).bnS s fun x h2 => (k s h2).bnS s fun y h3 => match putD x y v h3 with
  | some h4 => .nx s h4
  | none => .no
def KPut2 (r : Rz MV) (v : MV) (k : ME) (s : Lo) : SR := r.bnS s fun x h2 => (k s h2).bnS s fun y h3 => match putD x y v h3 with
  | some h4 => .nx s h4
  | none => .no
def KPut3 (r : Rz MV) (v x : MV) (s : Lo) : SR := r.bnS s fun y h3 => match putD x y v h3 with
  | some h4 => .nx s h4
  | none => .no
@[simp] theorem sPut_ev {d k e} : sPut d k e s h = KPut1 (e s h) d k s := rfl
@[simp] theorem KPut1_ok {d k} : KPut1 (.ok v h) d k s = KPut2 (d s h) v k s := rfl
@[simp] theorem KPut2_ok {k} : KPut2 (.ok x h) v k s = KPut3 (k s h) v x s := rfl
@[simp] theorem KPut3_ok : KPut3 (.ok y h) v x s = KNx (putD x y v h) s := rfl
theorem isDM_dk {i kvs} (e : h[i]? = some (.dk kvs)) : isDM (.ref i) h = true := by simp [isDM, e]
theorem isDM_dt {i kvs} (e : h[i]? = some (.dt kvs)) : isDM (.ref i) h = true := by simp [isDM, e]
theorem isDM_lst {i xs} (e : h[i]? = some (.lst xs)) : isDM (.ref i) h = false := by simp [isDM, e]
@[simp] theorem isDM_tup {xs} : isDM (.tup xs) h = false := rfl
@[simp] theorem isDM_ktp {xs} : isDM (.ktp xs) h = false := rfl
@[simp] theorem isDM_frl {xs} : isDM (.frl xs) h = false := rfl
@[simp] theorem isDM_str {z} : isDM (.str z) h = false := rfl
@[simp] theorem fInA_ev : fInA x y h = if isDM y h = true then fDIn x y h else fIn x y h := rfl
@[simp] theorem fNotInA_ev : fNotInA x y h = if isDM y h = true then fDNotIn x y h else fNotIn x y h := rfl
@[simp] theorem fIxA_ev : fIxA x y h = if isDM x h = true then fDGet x y h else fIx x y h := rfl
theorem dGet_dk {i kvs} (e : h[i]? = some (.dk kvs)) : dGet h (.ref i) y = (keyM y).map fun k => valM kvs k := by simp [dGet, e]
def KG (r : Rz MV) (x : MV) : Rz MV := r.bnd fun y h2 => match dGet h2 x y with
  | some o => .ok (o.getD .non) h2
  | none => .no
def KG0 (r : Rz MV) (k : ME) (s : Lo) : Rz MV := r.bnd fun x h1 => if isDM x h1 = true then KG (k s h1) x else .no
@[simp] theorem eGet1_ev {d k} : eGet1 d k s h = KG0 (d s h) k s := rfl
@[simp] theorem KG0_ok {k} : KG0 (.ok x h) k s = if isDM x h = true then KG (k s h) x else .no := rfl
def KKG (r : Rz MV) (tab : List (Str × MV)) : Rz MV := r.bnd fun x h1 => match x with
  | .str z => match tab.lookup z with
    | some v => .ok v h1
    | none => .no
  | _ => .no
def KKL (o : Option MV) (h : MH) : Rz MV := match o with
  | some v => .ok v h
  | none => .no
@[simp] theorem eKGet_ev {tab m} : eKGet tab m s h = KKG (m s h) tab := rfl
@[simp] theorem KKG_ok {tab z} : KKG (.ok (.str z) h) tab = KKL (tab.lookup z) h := rfl
@[simp] theorem KKL_some : KKL (some v) h = .ok v h := rfl
def KLc (o : Option (Option MV)) (n : Nat) (tab : List (String × MF)) (ms : MEs) (s : Lo) (h : MH) : Rz MV := match o with
  | some (some (.glo g)) => match tab.lookup g with
    | some f => call n f ms s h
    | none => .no
  | _ => .no
def KLd (o : Option MF) (n : Nat) (ms : MEs) (s : Lo) (h : MH) : Rz MV := match o with
  | some f => call n f ms s h
  | none => .no
@[simp] theorem eCallL_ev {i n tab ms} : eCallL i n tab ms s h = KLc s[i]? n tab ms s h := rfl
@[simp] theorem KLc_glo {n tab ms g} : KLc (some (some (.glo g))) n tab ms s h = KLd (tab.lookup g) n ms s h := rfl
@[simp] theorem KLd_some {n ms f} : KLd (some f) n ms s h = call n f ms s h := rfl
end
end Mo
namespace Mo
open PySem L2
theorem PSet.or {X : Cx} {t t' : TSet} (h : PSet X t) (h' : PSet X t') : PSet X fun o i v H Q => t o i v H Q ∨ t' o i v H Q := by
  intro pins s σ H o i v ov iv u Q I ro ri rv q
  rcases q with q | q
  · exact h pins s σ H o i v ov iv u Q I ro ri rv q
  · exact h' pins s σ H o i v ov iv u Q I ro ri rv q
def putL (d k v : MV) (h : MH) : Option MH := match d, k with
  | .ref i, .int j => match h[i]? with
    | some (.lst xs) => (ixN xs.length j).map fun n => h.set i (.lst (xs.set n v))
    | _ => none
  | _, _ => none
def putA (d k v : MV) (h : MH) : Option MH := if isDM d h = true then putD d k v h else putL d k v h
def sPutA (d k e : ME) : MS := fun s h => (e s h).bnS s fun v h1 => (d s h1).bnS s fun x h2 => (k s h2).bnS s fun y h3 => match putA x y v h3 with
  | some h4 => .nx s h4
  | none => .no
section
variable {X : Cx} {G : String → Option V} {W : WX} {o i value : Expr} {mo mi me : ME} {pos pos' : Pos} {k : Nat}
theorem m_iput (hr : Room k X.A) (ho : PE X o (RE X.K G W mo)) (hi : PE X i (RE X.K G W mi)) (hv : PE X value (RE X.K G W me)) (hs : swapsWithSole [.Subscript o i pos'] value pos.line X.env = pure false := by rfl) (hw : swappedStores [.Subscript o i pos'] value X.env = pure none := by rfl)
    (h1 : (assignEach [.Subscript o i pos'] X.env).map (·.2) = [assign (.Subscript o i pos') X.env] := by rfl)
    (ha : ∀ v, assign (.Subscript o i pos') X.env v = (do
      let ov ← holding [v] (eval o X.env)
      let iv ← holding [v, ov] (eval i X.env)
      standAt pos'
      holding [v, ov, iv] (setItem ov iv v)
      release [v, ov, iv] []) := by intro _; rfl) :
    PS X (.Assign [.Subscript o i pos'] value pos) (RS X.K G W (sPutA mo mi me)) := by
  refine ps_imp (ps_asg hv (pg_sub ho hi (PSet.or (set_dict (units1 hr)) set_list) ha) hs hw h1) fun D σ H ⟨ρ, sm, mh, r0, q⟩ => ?_
  refine res_bnd r0 q fun y ρ1 H1 mh1 w x1 r1 rw1 q1 => ?_
  refine res_bnd r1 q1 fun x ρ2 H2 mh2 v x2 r2 rv q2 => ?_
  refine res_bnd r2 q2 fun z ρ3 H3 mh3 u x3 r3 ru q3 => ?_
  have rv3 := rv.ext x3
  have rw3 := (rw1.ext x2).ext x3
  split at q3
  · rename_i h4 e
    unfold putA at e
    split at e
    · obtain ⟨a, H4, rfl, g1, g2, g3⟩ := putD_V r3.hr e rv3 ru rw3
      exact .inl ⟨a, H4, rfl, g1, q3 _ _ _ g2 g3 (r3.sr.ext g2)⟩
    · unfold putL at e
      split at e
      · split at e
        · rename_i xs q4
          cases hn : ixN xs.length _ with
          | none => rw [hn] at e; cases e
          | some n =>
            rw [hn] at e
            cases e
            obtain ⟨a, vs, rfl, ha, g1, g2⟩ := r3.hr.lst q4 rv3
            obtain ⟨a1, a2⟩ := put_lst r3.hr q4 ha g1 (g2.set rw3 n)
            simp only [VR] at ru
            exact .inr ⟨a, vs, _, n, rfl, ru, g1, by rw [← g2.length]; exact hn, q3 _ _ _ a2 a1 (r3.sr.ext a2)⟩
        · cases e
      · cases e
  · exact q3.elim
theorem tab_of {K : PySem.W.Frag} {w : World} {a : Addr} {kvs : List (Str × String)} (h : ∃ es n, KDict K w a es n) (e : He.valsB K a (kvs.map fun p => (p.1, He.Dv.glo (Str.ofString p.2))) = true) : TabOk K (gOf K) w a (kvs.map fun p => (p.1, MV.glo p.2)) := by
  refine ⟨h, fun z v hl => ?_⟩
  have key : ∀ (l : List (Str × String)), (l.map fun p => (p.1, MV.glo p.2)).lookup z = some v → ∃ g, (z, g) ∈ l ∧ v = .glo g := by
    intro l
    induction l with
    | nil => intro h; cases h
    | cons p l ih =>
      intro h
      simp only [List.map_cons, List.lookup] at h
      split at h
      · rename_i e
        cases h
        have : z = p.1 := by simpa using e
        exact ⟨p.2, by rw [this]; exact List.mem_cons_self .., rfl⟩
      · obtain ⟨g, h1, h2⟩ := ih h
        exact ⟨g, List.mem_cons_of_mem _ h1, h2⟩
  obtain ⟨g, h1, rfl⟩ := key kvs hl
  obtain ⟨u, h2, h3⟩ := He.valsB_ok e (q := (z, He.Dv.glo (Str.ofString g))) (List.mem_map.mpr ⟨(z, g), h1, rfl⟩)
  exact ⟨u, _, h2, h3, fun ρ H => by simp [VR, gOf, He.Dv.v]⟩
end
section
variable {s s1 : Lo} {h h1 : MH} {x y v z : MV} {e : MX}
def KPA1 (r : Rz MV) (d k : ME) (s : Lo) : SR := r.bnS s fun v h1 => (d s h1).bnS s fun x h2 => (k s h2).bnS s fun y h3 => match putA x y v h3 with
  | some h4 => .nx s h4
  | none => .no
def KPA2 (r : Rz MV) (v : MV) (k : ME) (s : Lo) : SR := r.bnS s fun x h2 => (k s h2).bnS s fun y h3 => match putA x y v h3 with
  | some h4 => .nx s h4
  | none => .no
def KPA3 (r : Rz MV) (v x : MV) (s : Lo) : SR := r.bnS s fun y h3 => match putA x y v h3 with
  | some h4 => .nx s h4
  | none => .no
@[simp] theorem sPutA_ev {d k e} : sPutA d k e s h = KPA1 (e s h) d k s := rfl
@[simp] theorem KPA1_ok {d k} : KPA1 (.ok v h) d k s = KPA2 (d s h) v k s := rfl
@[simp] theorem KPA2_ok {k} : KPA2 (.ok x h) v k s = KPA3 (k s h) v x s := rfl
@[simp] theorem KPA3_ok : KPA3 (.ok y h) v x s = KNx (putA x y v h) s := rfl
theorem putA_lst {i xs j} (e : h[i]? = some (.lst xs)) : putA (.ref i) (.int j) v h = (ixN xs.length j).map fun n => h.set i (.lst (xs.set n v)) := by
  simp [putA, isDM, putL, e]
end
end Mo
namespace Mo
open PySem L2
theorem gc_okE {f : MF} {xs : List MV} {h : MH} {v : MV} (e : ∃ g, f xs h = .ok v (h ++ g)) (hn : noref v = true) : gc f xs h = .ok v h := by
  obtain ⟨g, e⟩ := e
  exact gc_ok e hn
theorem gc_newE {f : MF} {xs : List MV} {h : MH} {o : MO} (e : ∃ k g, f xs h = .ok (.ref (h.length + k)) (h ++ g) ∧ g[k]? = some o) (hn : norefO o = true) : gc f xs h = .ok (.ref h.length) (h ++ [o]) := by
  obtain ⟨k, g, e, hk⟩ := e
  exact gc_new e hk hn
@[simp] theorem fMul_ev {i j : Int} {h : MH} : fMul (.int i) (.int j) h = if (-(2 ^ 64) < i ∧ i < 2 ^ 64) ∨ (-(2 ^ 64) < j ∧ j < 2 ^ 64) then some (.int (i * j), h) else none := rfl
@[simp] theorem fDiv_ev {i j : Int} {h : MH} : fDiv (.int i) (.int j) h = if 0 < j ∧ j < 1073741824 then some (.int (i / j), h) else none := rfl
@[simp] theorem fPow_ev {i j : Int} {h : MH} : fPow (.int i) (.int j) h = if 0 ≤ j ∧ j ≤ 1000000 ∧ i.natAbs < 2 ^ 64 then some (.int (i ^ j.toNat), h) else none := rfl
theorem gc_keep {f : MF} {xs : List MV} {h g : MH} {k : Nat} {o : MO} (e : f xs h = .ok (.ref (h.length + k)) (h ++ g)) (hk : g[k]? = some o) (hn : norefO o = false) : gc f xs h = .ok (.ref (h.length + k)) (h ++ g) := by
  unfold gc
  rw [e]
  dsimp only
  rw [if_neg (by intro z; exact absurd z.1 (by simp [noref])), dif_neg]
  intro ⟨o', k', g', h1, h2, h3, h4⟩
  have hk' : k = k' := by
    have := MV.ref.inj h1
    omega
  have hg : g = g' := List.append_cancel_left h2
  subst hg hk'
  rw [hk] at h3
  rw [← Option.some.inj h3, hn] at h4
  cases h4
theorem len1 {α : Type} : ∀ {l : List α}, l.length = 1 → ∃ a, l = [a]
  | [a], _ => ⟨a, rfl⟩
theorem norefs_int : ∀ xs : List Int, norefs (xs.map MV.int) = true
  | [] => rfl
  | x :: xs => by simp [norefs, noref, norefs_int xs]
theorem norefs_str : ∀ xs : List PySem.Str, norefs (xs.map MV.str) = true
  | [] => rfl
  | x :: xs => by simp [norefs, noref, norefs_str xs]
theorem atI_2 {α : Type} {a b : α} {i : Int} : atI [a, b] (i % 2) = some (if i % 2 = 0 then a else b) := by
  have : i % 2 = 0 ∨ i % 2 = 1 := by omega
  rcases this with h | h <;> rw [h] <;> rfl
theorem atI_3 {α : Type} {a b c : α} {i : Int} : atI [a, b, c] (i % 3) = some (if i % 3 = 0 then a else if i % 3 = 1 then b else c) := by
  have : i % 3 = 0 ∨ i % 3 = 1 ∨ i % 3 = 2 := by omega
  rcases this with h | h | h <;> rw [h] <;> rfl
end Mo
namespace Mo
open PySem L2
def omv : Option Str → MV
  | none => .non
  | some x => .str x
theorem noref_omv (x : Option Str) : noref (omv x) = true := by cases x <;> rfl
theorem ofString_app {a b : String} : Str.ofString a ++ Str.ofString b = Str.ofString (a ++ b) := by
  rw [PySem.Str.ofString_eq_toList, PySem.Str.ofString_eq_toList, PySem.Str.ofString_eq_toList, String.toList_append, List.map_append]
  show (⟨(a.toList.map Char.toNat).toArray ++ (b.toList.map Char.toNat).toArray⟩ : Str) = _
  simp
@[simp] theorem lookup_c {β : Type} {a k : Str} {b : β} {r : List (Str × β)} : List.lookup a ((k, b) :: r) = if (a == k) = true then some b else List.lookup a r := by
  simp only [List.lookup]
  cases a == k <;> rfl
@[simp] theorem lookup_n {β : Type} {a : Str} : List.lookup a ([] : List (Str × β)) = none := rfl
@[simp] theorem lookup_cs {β : Type} {a k : String} {b : β} {r : List (String × β)} : List.lookup a ((k, b) :: r) = if (a == k) = true then some b else List.lookup a r := by
  simp only [List.lookup]
  cases a == k <;> rfl
theorem ofString_len {a : String} : (Str.ofString a).length = a.toList.length := by
  rw [PySem.Str.ofString_eq_toList]
  show ((a.toList.map Char.toNat).toArray).size = _
  simp
end Mo
namespace Mo
open PySem L2
section
variable {s s1 : Lo} {h h1 : MH} {x y v z : MV} {e : MX}
def KFo (r : Rz MV) (g : MG) (b : MS) (s : Lo) : SR := r.bnS s fun v h1 => match v with
  | .str z => forG (getL (chars z)) g b (z.length + 1) 0 s h1
  | v => match asT v with
    | some xs => forG (getL xs) g b (xs.length + 1) 0 s h1
    | none => match seqOf h1 v with
      | some xs => forG (getSeq v) g b (xs.length + 1) 0 s h1
      | none => .no
@[simp] theorem sFor_ev {m g b} : sFor m g b s h = KFo (m s h) g b s := rfl
@[simp] theorem KFo_tup {xs g b} : KFo (.ok (.tup xs) h) g b s = forG (getL xs) g b (xs.length + 1) 0 s h := rfl
@[simp] theorem KFo_ktp {xs g b} : KFo (.ok (.ktp xs) h) g b s = forG (getL xs) g b (xs.length + 1) 0 s h := rfl
@[simp] theorem KFo_frl {xs g b} : KFo (.ok (.frl xs) h) g b s = forG (getSeq (.frl xs)) g b (xs.length + 1) 0 s h := rfl
@[simp] theorem KFo_err {g b} : KFo (.err e h) g b s = .err e s h := rfl
theorem KFo_ref {i xs g b} (q : h[i]? = some (.lst xs)) : KFo (.ok (.ref i) h) g b s = forG (getSeq (.ref i)) g b (xs.length + 1) 0 s h := by
  simp [KFo, Rz.bnS, asT, seqOf, q]
theorem getSeq_ref {i k xs} (q : h[i]? = some (.lst xs)) : getSeq (.ref i) k h = some xs[k]? := by simp [getSeq, seqOf, q]
def KFT (o : Option Lo) (get : Itm) (g : MG) (b : MS) (n i : Nat) (h : MH) : SR := match o with
  | some s1 => KFB (b s1 h) get g b n i
  | none => .no
@[simp] theorem KF_goT {get is b n i xs} : KF (some (some (.tup xs))) get (gT is) b n i s h = KFT (setAll is xs s) get (gT is) b n i h := by
  show (match setAll is xs s with
    | none => SR.no
    | some s1 => match b s1 h with
      | .nx s2 h2 => forG get (gT is) b n (i + 1) s2 h2
      | .ct s2 h2 => forG get (gT is) b n (i + 1) s2 h2
      | .bk s2 h2 => .nx s2 h2
      | r => r) = _
  unfold KFT KFB
  cases setAll is xs s with
  | none => rfl
  | some s1 => first | rfl | (dsimp only; done) | (cases b s1 h <;> rfl) | (dsimp only; cases b s1 h <;> rfl)
@[simp] theorem KFT_some {get g b n i} : KFT (some s1) get g b n i h = KFB (b s1 h) get g b n i := rfl
@[simp] theorem setAll_nil : setAll [] [] s = some s := rfl
@[simp] theorem setAll_cons {i is xs} : setAll (i :: is) (x :: xs) s = setAll is xs (s.set i (some x)) := rfl
end
end Mo
namespace Mo
open PySem L2
def fStarts (x : MV) (xs : List MV) (h : MH) : OV := match x, xs with
  | .str a, [.str b] => some (.bl (Txt.startswith a b), h)
  | _, _ => none
def fEnds (x : MV) (xs : List MV) (h : MH) : OV := match x, xs with
  | .str a, [.str b] => some (.bl (Txt.endswith a b), h)
  | _, _ => none
def fRstripC (x : MV) (xs : List MV) (h : MH) : OV := match x, xs with
  | .str a, [.str b] => if a.length ≤ SZ then some (.str (Txt.rstripChars a b), h) else none
  | _, _ => none
def fSplit (x : MV) (xs : List MV) (h : MH) : OV := match x, xs with
  | .str a, [.str b] => if (b.length == 0) = false ∧ a.length + 2 ≤ SZ then some (.ref h.length, h ++ [.lst ((Txt.split a b).map .str)]) else none
  | _, _ => none
def strsM : List MV → Option (List Str)
  | [] => some []
  | .str x :: r => (strsM r).map fun ys => x :: ys
  | _ :: _ => none
def fJoin (x : MV) (xs : List MV) (h : MH) : OV := match x, xs with
  | .str a, [y] => match seqOf h y with
    | some zs => match strsM zs with
      | some ys => if (ys.map (·.length)).sum + ys.length * a.length ≤ 16777216 then some (.str (Txt.join a ys), h) else none
      | none => none
    | none => none
  | _, _ => none
section
variable {K : PySem.W.Frag} {G : String → Option V}
theorem strs_V {ρ : List Addr} {H : Hp} : ∀ {xs : List MV} {vs : List V} {ys : List Str}, strsM xs = some ys → VRs K G ρ H xs vs → vs = ys.map V.str
  | [], _, _, e, r => by simp only [VRs] at r; subst r; cases e; rfl
  | x :: xs, _, ys, e, r => by
    simp only [VRs] at r
    obtain ⟨v, vs, rfl, q, t⟩ := r
    cases x with
    | str z =>
      simp only [strsM] at e
      cases h : strsM xs with
      | none => rw [h] at e; cases e
      | some zs =>
        rw [h] at e; cases e
        simp only [VR] at q
        rw [q, strs_V h t]
        rfl
    | _ => simp [strsM] at e
theorem VRs.strs {ρ : List Addr} {H : Hp} : ∀ (xs : List Str), VRs K G ρ H (xs.map MV.str) (xs.map V.str)
  | [] => VRs.nil
  | x :: xs => VRs.cons (by simp [VR]) (VRs.strs xs)
theorem s_starts : MtS K G (fun x xs H Q => ∃ a b, x = .str a ∧ xs = [.str b] ∧ Q (.bl (Txt.startswith a b)) H) fStarts := by
  intro ρ H mh mh1 x z xs v vs Q hr rv rvs e k
  unfold fStarts at e
  split at e
  · obtain ⟨w, rfl, rw'⟩ := rvs.one
    simp only [VR] at rv rw'; subst rv rw'
    cases e
    exact ⟨_, _, rfl, rfl, k _ _ Ext.refl hr _ (by simp [VR])⟩
  · cases e
theorem s_ends : MtS K G (fun x xs H Q => ∃ a b, x = .str a ∧ xs = [.str b] ∧ Q (.bl (Txt.endswith a b)) H) fEnds := by
  intro ρ H mh mh1 x z xs v vs Q hr rv rvs e k
  unfold fEnds at e
  split at e
  · obtain ⟨w, rfl, rw'⟩ := rvs.one
    simp only [VR] at rv rw'; subst rv rw'
    cases e
    exact ⟨_, _, rfl, rfl, k _ _ Ext.refl hr _ (by simp [VR])⟩
  · cases e
theorem s_rstripC : MtS K G (fun x xs H Q => ∃ a b, x = .str a ∧ xs = [.str b] ∧ a.length ≤ sizeLine ∧ Q (.str (Txt.rstripChars a b)) H) fRstripC := by
  intro ρ H mh mh1 x z xs v vs Q hr rv rvs e k
  unfold fRstripC at e
  split at e
  · obtain ⟨w, rfl, rw'⟩ := rvs.one
    simp only [VR] at rv rw'; subst rv rw'
    split at e
    · rename_i hz
      cases e
      exact ⟨_, _, rfl, rfl, by rw [SZ_eq]; exact hz, k _ _ Ext.refl hr _ (by simp [VR])⟩
    · cases e
  · cases e
theorem s_split : MtS K G (fun x xs H Q => ∃ a b, x = .str a ∧ xs = [.str b] ∧ (b.length == 0) = false ∧ a.length + 2 ≤ sizeLine ∧ rNewStrs (Txt.split a b) H Q) fSplit := by
  intro ρ H mh mh1 x z xs v vs Q hr rv rvs e k
  unfold fSplit at e
  split at e
  · obtain ⟨w, rfl, rw'⟩ := rvs.one
    simp only [VR] at rv rw'; subst rv rw'
    split at e
    · rename_i hz
      cases e
      refine ⟨_, _, rfl, rfl, hz.1, by rw [SZ_eq]; exact hz.2, fun p hp => ?_⟩
      obtain ⟨a1, a2, a3⟩ := new_lst hr (VRs.strs _) hp
      exact k _ _ a2 a1 _ a3
    · cases e
  · cases e
theorem s_join : MtS K G (fun x xs H Q => ∃ a p, ∃ ys : List Str, x = .str a ∧ xs = [.ref p] ∧ (SqL K H p (ys.map V.str) ∨ SqT K H p (ys.map V.str)) ∧
    (ys.map (·.length)).sum + ys.length * a.length ≤ 16777216 ∧ Q (.str (Txt.join a ys)) H) fJoin := by
  intro ρ H mh mh1 x z xs v vs Q hr rv rvs e k
  unfold fJoin at e
  split at e
  · obtain ⟨w, rfl, rw'⟩ := rvs.one
    simp only [VR] at rv; subst rv
    split at e
    · rename_i zs hq
      split at e
      · rename_i ys hs
        split at e
        · rename_i hz
          cases e
          obtain ⟨p, us, rfl, g1, g2⟩ := seq_V hr hq rw'
          have := strs_V hs g2
          subst this
          exact ⟨_, _, ys, rfl, rfl, g1, hz, k _ _ Ext.refl hr _ (by simp [VR])⟩
        · cases e
      · cases e
    · cases e
  · cases e
end
section
variable {h : MH}
@[simp] theorem isS_str {z} : isS (.str z) h = true := rfl
@[simp] theorem fStarts_ev {a b} : fStarts (.str a) [.str b] h = some (.bl (Txt.startswith a b), h) := rfl
@[simp] theorem fEnds_ev {a b} : fEnds (.str a) [.str b] h = some (.bl (Txt.endswith a b), h) := rfl
@[simp] theorem fRstripC_ev {a b} : fRstripC (.str a) [.str b] h = if a.length ≤ SZ then some (.str (Txt.rstripChars a b), h) else none := rfl
@[simp] theorem fSplit_ev {a b} : fSplit (.str a) [.str b] h = if (b.length == 0) = false ∧ a.length + 2 ≤ SZ then some (.ref h.length, h ++ [.lst ((Txt.split a b).map .str)]) else none := rfl
end
end Mo
namespace Mo
open PySem L2
section
variable {M : Model} {A : Around} {E : Value → Shared → Prop} {s : Shared} {pos : Pos} {x : Addr} {first : List Value} {Q : Value → Shared → Prop}
theorem ico_with {args : List (Bool × Sem Value)} {keywords : List (Option Str × Sem Value)} (hplain : (args.any (·.1) || keywords.any (·.1.isNone)) = false) 
    (h : wpAny M A (evalArgs (.ref x) true args keywords) (fun a s₁ => (∃ ox, s₁.heap.get? x = some ox ∧ ox.data = .plain) ∧ wpAny M A (PySem.call (.ref x) (first ++ a.pos) a.kw) Q E s₁) E s) : wpAny M A (callWith pos (.ref x) first args keywords) Q E s := by
  unfold callWith
  refine wpAny_bind (wpAny_holding (wpAny_mono h (fun a s₁ h₁ => wpAny_bind (wpAny_standAt ?_)) fun _ _ y => y))
  have L : PySem.W.Looks M s₁.heap (keeperOf (.ref x)) .caller := by
    obtain ⟨⟨ox, ha, hd⟩, _⟩ := h₁
    refine (PySem.W.Looks.ld (part := none) ha).andThen ?_
    simp only [hd]
    exact .now
  simp only [hplain]
  refine wpAny_bind (L.here ?_)
  have tail : ∀ {t : Sem Value}, wpAny M A t Q E s₁ → wpAny M A (t >>= fun r => holding [r] point >>= fun _ => pure r) Q E s₁ :=
    fun ht => wpAny_bind (wpAny_mono ht (fun r s₂ hr => wpAny_bind (wpAny_holding (wpAny_point (wpAny_pure hr)))) fun _ _ y => y)
  exact tail (wpAny_operateT h₁.2)
end
def eICall (c : String) (n : Nat) (f : MF) (a : ME) (as : MEs) : ME := fun s h => (a s h).bnd fun x h1 => match x with
  | .ref i => (as s h1).bnd fun xs h2 => match h2[i]? with
    | some (.ins c' _) => if c' = c ∧ xs.length + 1 = n then f (x :: xs) h2 else .no
    | _ => .no
  | _ => .no
section
variable {X : Cx} {G : String → Option V} {W : WX} {e : Expr} {es : List Expr} {mo : ME} {ms : MEs} {x : Str} {p pos : Pos} {k : Nat} {fa C : Addr} {fd : FuncData} {ps : List Str} {f : MF} {c : String}
theorem fnIn_of {K : PySem.W.Frag} {nm qual : Str} {params : Arguments} {body : List Stmt} {scope : Scope} {dvs : List V} {kws : List (Str × V)} (F : FunD K nm qual params body scope dvs kws fa fd) : PySem.W.fnIn K fa = true := by
  obtain ⟨oc, od, dV, kV, doc, pm, an, cdv, ct, osl, rfl, lk, _⟩ := F.ex
  unfold PySem.W.fnIn
  rw [lk]
theorem m_icall (hG : G c = some (.ref C)) (hm : Meth X.K C "__call__" fa) (hfn : PySem.W.fnIn X.K fa = true) (F : FnOk X.prog X.w X.K X.mg X.base (L2.CX X.prog X.w) k fa fd ps (SpM X.K G ps.length f)) (hr : Room k X.A) (hb : Binds X.K fd ps []) (tk : Takes X W)
    (ho : PE X (.Name x p) (RE X.K G W mo)) (ha : PA X (e :: es) (RA X.K G W ms)) (he : starEach (e :: es) X.env = (false, eval e X.env) :: starEach es X.env := by rfl) (hpl : (backTo pos (starEach es X.env)).any (·.1) = false := by rfl) :
    PE X (.Call (.Name x p) (e :: es) [] pos) (RE X.K G W (eICall c ps.length f mo ms)) := by
  refine ⟨fun pins s σ H Q I h => ?_⟩
  obtain ⟨ρ, sm, mh, r0, q⟩ := h
  refine wpAny_Call_Name_kw (thn (ho.run pins s σ H _ I (re_bnd r0 q (Q := fun v H1 => ∃ a, v = .ref a ∧ RA X.K G W ms σ H1 fun vs H2 => ∃ dx fs, H2 a = some (.ins C dx fs) ∧ SpM X.K G ps.length f (.ref a :: vs) H2 Q (WE W σ)) fun x ρ1 H1 mh1 v x1 r1 rv q1 => ?_)) fun u s1 ⟨v, H1, I1, ru, a, ev, q1⟩ => ?_)
  · split at q1
    · rename_i i
      have rv0 := rv
      simp only [VR] at rv0
      obtain ⟨a, rfl, ha⟩ := rv0
      refine ⟨a, rfl, ra_bnd r1 q1 fun xs ρ2 H2 mh2 vs x2 r2 rvs q2 => ?_⟩
      split at q2
      · rename_i c' fs q3
        split at q2
        · rename_i hc
          obtain ⟨rfl, hn⟩ := hc
          obtain ⟨a', C', dx, us, ea, hq, g1, g2, g3⟩ := r2.hr.ins q3 (rv.ext x2)
          cases ea
          rw [hG] at g1
          cases g1
          have rel := VRs.cons (rv.ext x2) rvs
          exact ⟨dx, us, g2, _, _, _, r2.hr, rel, by rw [← rel.length]; exact hn, ro_anyS q2⟩
        · exact q2.elim
      · exact q2.elim
    · exact q1.elim
  · subst ev
    obtain rfl : u = Value.ref a := ru
    have h1 := ha.run pos pins s1 σ H1 _ I1 q1
    rw [he] at h1 ⊢
    refine ico_with (by show ((false || (backTo pos (starEach es X.env)).any (·.1)) || false) = false; rw [hpl]; rfl) (Calls.evalArgs_plain (thn h1 fun us s2 ⟨vs, H2, I2, r, dx, fs, g, q2⟩ => ?_))
    obtain ⟨mA, O, _⟩ := ins_get I2.hok g
    obtain ⟨od, J, _⟩ := O.look
    refine ⟨⟨_, O.obj, rfl⟩, ?_⟩
    have r2 : Vals (.ref a :: vs) (.ref a :: us) := .cons rfl r
    have hl : ((.ref a :: us : List Value) ++ []).length = ps.length := by rw [List.append_nil, ← r2.length]; exact F.len _ _ _ _ q2
    refine wpAny_call (PySem.W.kco_code I2.kIn J rfl hm.at_ hm.fn hfn (codeAny_mono (F.run X.A X.stack s2 H2 ⟨.ref a :: us, []⟩ (.ref a :: us) (.ref a :: vs) Q (WE W σ) hr I2.env0 ?_ r2 q2) fun r s' hq => ?_))
    · have := hb s2 (.ref a :: us) I2.kIn hl
      rw [List.append_nil] at this
      exact this
    · cases r with
      | error e => exact passAt tk σ pins H2 s2 e s' I2 hq
      | ok fl =>
        cases fl with
        | ret u => exact I2.after hq
        | next => exact False.elim hq
        | brk => exact False.elim hq
        | cont => exact False.elim hq
end
end Mo
namespace Mo
open PySem L2
section
variable {s : Lo} {h : MH} {x : MV}
def KIC (r : Rz MV) (c : String) (n : Nat) (f : MF) (as : MEs) (s : Lo) : Rz MV := r.bnd fun x h1 => match x with
  | .ref i => (as s h1).bnd fun xs h2 => match h2[i]? with
    | some (.ins c' _) => if c' = c ∧ xs.length + 1 = n then f (x :: xs) h2 else .no
    | _ => .no
  | _ => .no
def KIC2 (r : Rz (List MV)) (c : String) (n : Nat) (f : MF) (i : Nat) : Rz MV := r.bnd fun xs h2 => match h2[i]? with
    | some (.ins c' _) => if c' = c ∧ xs.length + 1 = n then f (.ref i :: xs) h2 else .no
    | _ => .no
@[simp] theorem eICall_ev {c n f a as} : eICall c n f a as s h = KIC (a s h) c n f as s := rfl
@[simp] theorem KIC_ref {c n f as i} : KIC (.ok (.ref i) h) c n f as s = KIC2 (as s h) c n f i := rfl
theorem KIC2_ok {c n f i xs c' fs} (e : h[i]? = some (.ins c' fs)) : KIC2 (.ok xs h) c n f i = if c' = c ∧ xs.length + 1 = n then f (.ref i :: xs) h else .no := by
  simp only [KIC2, Rz.bnd, e]
end
end Mo
namespace Mo
open PySem L2
def Turn (P : Lo → MH → Prop) (R : SR → Prop) : SR → Prop
  | .nx s h => P s h
  | .ct s h => P s h
  | .bk s h => R (.nx s h)
  | .no => False
  | r => R r
theorem KFB_turn {P : Lo → MH → Prop} {R R' : SR → Prop} {r : SR} {get : Itm} {g : MG} {b : MS} {n i : Nat} (t : Turn P R r) (hn : ∀ s h, P s h → R' (forG get g b n (i + 1) s h)) (hr : ∀ r, R r → R' r) : R' (KFB r get g b n i) := by
  cases r with
  | nx s h => exact hn s h t
  | ct s h => exact hn s h t
  | bk s h => exact hr _ t
  | rt v h => exact hr _ t
  | err v s h => exact hr _ t
  | no => exact t.elim
theorem forG_KFB {get : Itm} {g : MG} {b : MS} {n i : Nat} {s s1 : Lo} {h : MH} {x : MV} (e : get i h = some (some x)) (eg : g x s = some s1) : forG get g b (n + 1) i s h = KFB (b s1 h) get g b n i := by
  unfold forG KFB
  rw [e]
  all_goals (try dsimp only)
  all_goals (try rw [eg])
  all_goals (try dsimp only)
  all_goals (cases b s1 h <;> rfl)
theorem forG_inv {get : Itm} {g : MG} {b : MS} {N : Nat} (I : Nat → Lo → MH → Prop) (R : SR → Prop)
    (end_ : ∀ s h, I N s h → get N h = some none ∧ R (.nx s h))
    (step : ∀ i s h, i < N → I i s h → ∃ x s1, get i h = some (some x) ∧ g x s = some s1 ∧ Turn (I (i + 1)) R (b s1 h)) :
    ∀ m i s h, i + m = N → I i s h → R (forG get g b (m + 1) i s h) := by
  intro m
  induction m with
  | zero =>
    intro i s h e hI
    have : i = N := by omega
    subst this
    obtain ⟨e1, e2⟩ := end_ s h hI
    unfold forG
    rw [e1]
    exact e2
  | succ m ih =>
    intro i s h e hI
    obtain ⟨x, s1, e1, e2, t⟩ := step i s h (by omega) hI
    rw [forG_KFB e1 e2]
    exact KFB_turn t (fun s h p => ih (i + 1) s h (by omega) p) fun _ z => z
theorem forR_inv {lo : Int} {n : Nat} {g : MG} {b : MS} {s : Lo} {h : MH} (I : Nat → Lo → MH → Prop) (R : SR → Prop) (h0 : I 0 s h)
    (step : ∀ i s h, i < n → I i s h → ∃ s1, g (.int (lo + i)) s = some s1 ∧ Turn (I (i + 1)) R (b s1 h)) (end_ : ∀ s h, I n s h → R (.nx s h)) :
    R (forG (getR lo n) g b (n + 1) 0 s h) := by
  refine forG_inv (N := n) I R (fun s h z => ⟨by simp, end_ s h z⟩) (fun i s h hi z => ?_) n 0 s h (by omega) h0
  obtain ⟨s1, e, t⟩ := step i s h hi z
  exact ⟨_, s1, by simp [hi], e, t⟩
theorem forS_inv {v : MV} {xs : List MV} {g : MG} {b : MS} {s : Lo} {h : MH} (I : Nat → Lo → MH → Prop) (R : SR → Prop) (h0 : I 0 s h) (hs : ∀ i s h, I i s h → seqOf h v = some xs)
    (step : ∀ i s h (hi : i < xs.length), I i s h → ∃ s1, g xs[i] s = some s1 ∧ Turn (I (i + 1)) R (b s1 h)) (end_ : ∀ s h, I xs.length s h → R (.nx s h)) :
    R (forG (getSeq v) g b (xs.length + 1) 0 s h) := by
  refine forG_inv (N := xs.length) I R (fun s h z => ⟨by simp [getSeq, hs _ _ _ z], end_ s h z⟩) (fun i s h hi z => ?_) xs.length 0 s h (by omega) h0
  obtain ⟨s1, e, t⟩ := step i s h hi z
  exact ⟨xs[i], s1, by simp [getSeq, hs _ _ _ z, hi], e, t⟩
theorem seqOf_ref {h : MH} {i : Nat} {xs : List MV} (e : h[i]? = some (.lst xs)) : seqOf h (.ref i) = some xs := by simp [seqOf, e]
@[simp] theorem turn_nx {P : Lo → MH → Prop} {R : SR → Prop} {s : Lo} {h : MH} : Turn P R (.nx s h) = P s h := rfl
@[simp] theorem turn_ct {P : Lo → MH → Prop} {R : SR → Prop} {s : Lo} {h : MH} : Turn P R (.ct s h) = P s h := rfl
@[simp] theorem turn_bk {P : Lo → MH → Prop} {R : SR → Prop} {s : Lo} {h : MH} : Turn P R (.bk s h) = R (.nx s h) := rfl
@[simp] theorem turn_rt {P : Lo → MH → Prop} {R : SR → Prop} {v : MV} {h : MH} : Turn P R (.rt v h) = R (.rt v h) := rfl
@[simp] theorem turn_err {P : Lo → MH → Prop} {R : SR → Prop} {v : MX} {s : Lo} {h : MH} : Turn P R (.err v s h) = R (.err v s h) := rfl
theorem acc_loop {α β : Type} {h : MH} {M : β → MV} {E : α → MV} {xs : List α} {get : Itm} {gs : MG} {b : MS} (f : α → List β) (S : Lo → Prop) (g0 : MH) (B : Nat)
    (hget : ∀ i acc g, get i (h ++ .lst acc :: (g0 ++ g)) = some ((xs[i]?).map E)) (hf : ∀ x, (f x).length ≤ 1)
    (step : ∀ x ∈ xs, ∀ s acc g, S s → acc.length ≤ B → ∃ s1 s2 g', gs (E x) s = some s1 ∧ S s2 ∧
      (b s1 (h ++ .lst (acc.map M) :: (g0 ++ g)) = .nx s2 (h ++ .lst ((acc ++ f x).map M) :: (g0 ++ (g ++ g'))) ∨ b s1 (h ++ .lst (acc.map M) :: (g0 ++ g)) = .ct s2 (h ++ .lst ((acc ++ f x).map M) :: (g0 ++ (g ++ g'))))) :
    ∀ s acc g, S s → acc.length + xs.length ≤ B → ∃ s' g', S s' ∧ forG get gs b (xs.length + 1) 0 s (h ++ .lst (acc.map M) :: (g0 ++ g)) = .nx s' (h ++ .lst ((acc ++ xs.flatMap f).map M) :: (g0 ++ (g ++ g'))) := by
  intro s acc g hS hB
  have fl : ∀ l : List α, (l.flatMap f).length ≤ l.length := by
    intro l
    induction l with
    | nil => exact Nat.le_refl _
    | cons a l ih => rw [List.flatMap_cons, List.length_append, List.length_cons]; have := hf a; omega
  refine forG_inv (N := xs.length) (fun i s h' => ∃ g', S s ∧ h' = h ++ .lst ((acc ++ (xs.take i).flatMap f).map M) :: (g0 ++ (g ++ g'))) (fun r => ∃ s' g', S s' ∧ r = .nx s' (h ++ .lst ((acc ++ xs.flatMap f).map M) :: (g0 ++ (g ++ g')))) ?_ ?_ xs.length 0 s (h ++ .lst (acc.map M) :: (g0 ++ g)) (by omega) ⟨[], hS, by simp⟩
  · rintro s h' ⟨g', h1, rfl⟩
    refine ⟨by rw [hget]; simp, s, g', h1, by rw [List.take_length]⟩
  · rintro i s h' hi ⟨g', h1, rfl⟩
    have hb : (acc ++ (xs.take i).flatMap f).length ≤ B := by
      rw [List.length_append]
      have := fl (xs.take i)
      rw [List.length_take] at this
      omega
    obtain ⟨s1, s2, g2, e1, e2, e3⟩ := step xs[i] (List.getElem_mem hi) s _ (g ++ g') h1 hb
    refine ⟨E xs[i], s1, by rw [hget]; simp [hi], e1, ?_⟩
    have he : (acc ++ (xs.take i).flatMap f) ++ f xs[i] = acc ++ (xs.take (i + 1)).flatMap f := by
      rw [List.take_succ_eq_append_getElem hi, List.flatMap_append]
      simp
    rcases e3 with e3 | e3 <;> rw [e3, he] <;> exact ⟨g' ++ g2, e2, by simp⟩
end Mo
namespace Mo
open PySem L2
def unp (v : MV) (h : MH) : Option (List MV) := match asT v with
  | some xs => some xs
  | none => seqOf h v
def sAsgU (e : ME) (is : List Nat) : MS := fun s h => (e s h).bnS s fun v h1 => match (unp v h1).bind fun xs => setAll is xs s with
  | some s1 => .nx s1 h1
  | none => .no
section
variable {X : Cx} {G : String → Option V} {W : WX} {e : Expr} {es : List Expr} {m : ME} {pos pos' : Pos} {k : Nat} {u : TGs} {is : List Nat}
theorem pg_or {tg : Expr} {t t' : TG} (h : PG X tg t) (h' : PG X tg t') : PG X tg fun v σ H Q => t v σ H Q ∨ t' v σ H Q :=
  ⟨fun pins s σ H v w Q I r q => q.elim (fun q => h.run pins s σ H v w Q I r q) fun q => h'.run pins s σ H v w Q I r q⟩
theorem m_asgU (he : PE X e (RE X.K G W m)) (hc : X.calm = true) (hg : PGs X es u) (hgs : GSs X.K G u is)
    (hn : (assignEach es X.env).length = is.length := by rfl) (hst : (assignEach es X.env).findIdx? (·.1) = none := by rfl) (hs : swapsWithSole [.Tuple es k pos'] e pos.line X.env = pure false := by rfl) (hw : swappedStores [.Tuple es k pos'] e X.env = pure none := by rfl)
    (h1 : (assignEach [.Tuple es k pos'] X.env).map (·.2) = [assign (.Tuple es k pos') X.env] := by rfl) : PS X (.Assign [.Tuple es k pos'] e pos) (RS X.K G W (sAsgU m is)) := by
  refine ps_imp (ps_asg he (pg_or (pg_tup hc hg hn hst) (pg_lst hc hg hn hst)) hs hw h1) fun D σ H ⟨ρ, sm, mh, r0, q⟩ => ?_
  refine res_bnd r0 q fun v ρ1 H1 mh1 x x1 r1 rv q1 => ?_
  cases e1 : unp v mh1 with
  | none => rw [e1] at q1; exact False.elim q1
  | some xs =>
    rw [e1] at q1
    cases e2 : setAll is xs sm with
    | none => simp only [Option.bind, e2] at q1; exact False.elim q1
    | some s1 =>
      simp only [Option.bind, e2] at q1
      unfold unp at e1
      split at e1
      · rename_i ys h3
        cases e1
        obtain ⟨a, vs, rfl, h4, h5⟩ := rv.tup h3
        exact .inl ⟨a, vs, rfl, h4, by rw [← h5.length, setAll_len e2], hgs r1.hr r1.sr h5 e2 fun σ1 sr => RSE.nx (σ1 := σ1) q1 r1.hr sr⟩
      · obtain ⟨p, vs, rfl, hq, h5⟩ := seq_V r1.hr e1 rv
        rcases hq with hq | hq
        · exact .inr ⟨p, vs, rfl, hq, by rw [← h5.length, setAll_len e2], hgs r1.hr r1.sr h5 e2 fun σ1 sr => RSE.nx (σ1 := σ1) q1 r1.hr sr⟩
        · exact .inl ⟨p, vs, rfl, hq, by rw [← h5.length, setAll_len e2], hgs r1.hr r1.sr h5 e2 fun σ1 sr => RSE.nx (σ1 := σ1) q1 r1.hr sr⟩
end
section
variable {s s1 : Lo} {h : MH} {v : MV} {x : MX} {is : List Nat}
def KAU (r : Rz MV) (s : Lo) (is : List Nat) : SR := r.bnS s fun v h1 => match (unp v h1).bind fun xs => setAll is xs s with
  | some s1 => .nx s1 h1
  | none => .no
def KAU2 (o : Option Lo) (h : MH) : SR := match o with
  | some s1 => .nx s1 h
  | none => .no
@[simp] theorem sAsgU_ev {a} : sAsgU a is s h = KAU (a s h) s is := rfl
@[simp] theorem KAU_tup {xs} : KAU (.ok (.tup xs) h) s is = KAU2 (setAll is xs s) h := rfl
@[simp] theorem KAU_ktp {xs} : KAU (.ok (.ktp xs) h) s is = KAU2 (setAll is xs s) h := rfl
@[simp] theorem KAU_err : KAU (.err x h) s is = .err x s h := rfl
theorem KAU_ref {i xs} (e : h[i]? = some (.lst xs)) : KAU (.ok (.ref i) h) s is = KAU2 (setAll is xs s) h := by
  simp [KAU, Rz.bnS, unp, asT, seqOf, e, KAU2]
@[simp] theorem KAU2_some : KAU2 (some s1) h = .nx s1 h := rfl
end
end Mo
namespace Mo
open PySem L2
section
variable {prog : Program} {w : World} {A : Around} {E : Value → Shared → Prop} {s : Shared} {K : PySem.W.Frag} {x C f : Addr} {ox : Obj} {od : Option Obj} {b tb : Value}
end
end Mo
namespace Mo
open PySem L2
structure OwnM (P : Program) (w : World) (K : PySem.W.Frag) (mg : Str → Option Value) (base : Heap) (G : String → Option V) (k : Nat) (name : Str) (p : String × MF) : Prop where
  ex : ∃ C fa fd ps, G p.1 = some (.ref C) ∧ Meth K C name fa ∧ FnOk P w K mg base (L2.CX P w) k fa fd ps (SpM K G ps.length p.2) ∧ Binds K fd ps [] ∧ ps.length = 2
structure NeC (K : PySem.W.Frag) (G : String → Option V) (c : String) : Prop where
  ex : ∃ C, G c = some (.ref C) ∧ PySem.W.mroIn K C (.type "object") = some true ∧ PySem.W.findIn K (.ref C) "__ne__" = some (some (.builtin "object.__ne__"))
def insC (h : MH) : MV → Option String
  | .ref i => match h[i]? with
    | some (.ins c _) => some c
    | _ => none
  | _ => none
def okOf (r : MR) (neg : Bool) : MR := match r with
  | .ok v h3 => if neg = true then (match v with
    | .bl k => .ok (.bl (!k)) h3
    | _ => .no) else .ok v h3
  | _ => .no
def ownRun (tab : List (String × MF)) (neg : Bool) (x y : MV) (h : MH) : MR := match insC h x, insC h y with
  | some c, some c' => if c = c' then match tab.lookup c with
    | some g => okOf (g [x, y] h) neg
    | none => .no
    else .no
  | _, _ => .no
def eOwn (tab : List (String × MF)) (neg : Bool) (a b : ME) : ME := fun s h => (a s h).bnd fun x h1 => (b s h1).bnd fun y h2 => ownRun tab neg x y h2
section
variable {X : Cx} {G : String → Option V} {W : WX} {a b : Expr} {ma mb : ME} {pos : Pos} {k : Nat} {tab : List (String × MF)} {op : CmpOp}
def rOwnM (K : PySem.W.Frag) (G : String → Option V) (tab : List (String × MF)) (neg : Bool) : R2 := fun x y H Q => ∃ a b p C dx dy fs gs, x = .ref a ∧ y = .ref b ∧ p ∈ tab ∧ G p.1 = some (.ref C) ∧ H a = some (.ins C dx fs) ∧ H b = some (.ins C dy gs) ∧
  SpM K G 2 p.2 [x, y] H (fun v H' => if neg = true then ∃ k, v = .bl k ∧ Q (.bl (!k)) H' else Q v H') (fun _ _ _ => False)
theorem op_ownM (hop : ∀ a b, compareOp op a b = richCompare op a b) (T : ∀ p ∈ tab, OwnM X.prog X.w X.K X.mg X.base G k (cmpInfo op).2.1 p) (hr : Room k X.A) : OpR X (compareOp op) (rOwnM X.K G tab false) := by
  intro pins s σ H x y v u Q I rx ry h
  rw [hop]
  obtain ⟨a, b, p, C, dx, dy, fs, gs, rfl, rfl, hp, hG, ha, hb, q⟩ := h
  obtain ⟨C', fa, fd, ps, g1, M, F, B, hl⟩ := (T p hp).ex
  rw [hG] at g1
  cases g1
  cases rx
  cases ry
  obtain ⟨mA, J, _⟩ := ins_get I.hok ha
  obtain ⟨mB, J', _⟩ := ins_get I.hok hb
  obtain ⟨od, J, _⟩ := J.look
  obtain ⟨od', J', _⟩ := J'.look
  obtain ⟨m, hF⟩ := I.fr
  refine PySem.W.cmp_K (op := op) (tb := .ref C) hr.units0 hF I.ok.mod.kin J J'.type (by simp [PySem.W.notFirst]) M.at_ M.fn ?_
  have r2 : Vals [V.ref a, V.ref b] [Value.ref a, Value.ref b] := .cons rfl (.cons rfl .nil)
  have q2 : SpM X.K G ps.length p.2 [V.ref a, V.ref b] H Q (fun _ _ _ => False) := by rw [hl]; exact q
  refine wpAny_call (codeAny_mono (F.run X.A X.stack s H ⟨[.ref a, .ref b], []⟩ [.ref a, .ref b] [.ref a, .ref b] Q _ hr I.env0 (by
    have := B s [.ref a, .ref b] I.kIn (by simp [hl])
    simpa using this) r2 q2) fun r s' hq => ?_)
  cases r with
  | error e =>
    obtain ⟨_, _, _, _, _, _, _, _, _, _, _, _, f⟩ := hq
    exact f.elim
  | ok fl =>
    cases fl with
    | ret w =>
      obtain ⟨z, H', I', rz, ez⟩ := I.after hq
      exact SlX.cmpback (P := EP X pins σ Q) rz ⟨z, H', I', rz, ez⟩
    | next => exact False.elim hq
    | brk => exact False.elim hq
    | cont => exact False.elim hq
theorem own_re {neg : Bool} (hT : ∀ p ∈ tab, ∃ C, G p.1 = some (.ref C)) (σ : St) (H : Hp) (Q : VK) (h : RE X.K G W (eOwn tab neg ma mb) σ H Q) : tOp (rOwnM X.K G tab neg) (RE X.K G W ma) (RE X.K G W mb) σ H Q := by
  obtain ⟨ρ, sm, mh, r0, q⟩ := h
  refine re_bnd r0 q fun x ρ1 H1 mh1 v x1 r1 rv q1 => ?_
  refine re_bnd r1 q1 fun y ρ2 H2 mh2 w x2 r2 rw' q2 => ?_
  have rv2 := rv.ext x2
  unfold ownRun at q2
  split at q2
  · rename_i c c' h1 h2
    split at q2
    · rename_i hc
      subst hc
      split at q2
      · rename_i g hg
        have hm := lookup_mem hg
        obtain ⟨C, hC⟩ := hT _ hm
        have ins : ∀ {z : MV} {vz : V}, insC mh2 z = some c → VR X.K G ρ2 H2 z vz → ∃ a dx fs, vz = .ref a ∧ H2 a = some (.ins C dx fs) := by
          intro z vz hz rz
          unfold insC at hz
          split at hz
          · split at hz
            · rename_i i _ _ e
              cases hz
              obtain ⟨a, C', dx, us, rfl, ha, g1, g2, g3⟩ := r2.hr.ins e rz
              rw [hC] at g1
              cases g1
              exact ⟨a, dx, us, rfl, g2⟩
            · cases hz
          · cases hz
        obtain ⟨a, dx, fs, rfl, ha⟩ := ins h1 rv2
        obtain ⟨b, dy, gs, rfl, hb⟩ := ins h2 rw'
        refine ⟨a, b, (c, g), C, dx, dy, fs, gs, rfl, rfl, hm, hC, ha, hb, ρ2, [x, y], mh2, r2.hr, VRs.cons rv2 (VRs.cons rw' VRs.nil), rfl, ?_⟩
        unfold okOf at q2
        cases hq : g [x, y] mh2 with
        | ok v3 h3 =>
          rw [hq] at q2
          dsimp only at q2
          show RO X.K G _ [] _ ρ2 H2 (g [x, y] mh2)
          rw [hq]
          intro ρ3 H3 x3 hr3 v1 rv1
          cases neg with
          | false =>
            simp only [Bool.false_eq_true, if_false] at q2 ⊢
            exact q2 ρ3 H3 x3 hr3 v1 rv1
          | true =>
            simp only [if_true] at q2 ⊢
            cases v3 with
            | bl k =>
              simp only [VR] at rv1
              subst rv1
              exact ⟨k, rfl, q2 ρ3 H3 x3 hr3 _ (by simp [VR])⟩
            | _ => exact q2.elim
        | err e h3 => rw [hq] at q2; exact q2.elim
        | no => rw [hq] at q2; exact q2.elim
      · exact q2.elim
    · exact q2.elim
  · exact q2.elim
theorem m_ownT (hop : ∀ a b, compareOp op a b = richCompare op a b) (T : ∀ p ∈ tab, OwnM X.prog X.w X.K X.mg X.base G k (cmpInfo op).2.1 p) (hr : Room k X.A) (ha : PE X a (RE X.K G W ma)) (hb : PE X b (RE X.K G W mb)) (hm : behindInMarks op b = false) :
    PT X (.Compare a [op] [b] pos) (RT X.K G W (bB (eOwn tab false ma mb))) :=
  pt_imp (pt_cmpR (op_ownM hop T hr) ha hb hm) fun σ H Q h => own_re (fun p hp => let ⟨⟨C, _, _, _, e, _⟩⟩ := T p hp; ⟨C, e⟩) σ H _ (bB_re σ H Q h)
end
section
variable {s : Lo} {h : MH} {x y : MV} {e : MX} {tab : List (String × MF)} {neg : Bool}
def KO1 (r : MR) (tab : List (String × MF)) (neg : Bool) (b : ME) (s : Lo) : MR := r.bnd fun x h1 => (b s h1).bnd fun y h2 => ownRun tab neg x y h2
def KO2 (r : MR) (tab : List (String × MF)) (neg : Bool) (x : MV) : MR := r.bnd fun y h2 => ownRun tab neg x y h2
@[simp] theorem eOwn_ev {a b} : eOwn tab neg a b s h = KO1 (a s h) tab neg b s := rfl
@[simp] theorem KO1_ok {b} : KO1 (.ok x h) tab neg b s = KO2 (b s h) tab neg x := rfl
@[simp] theorem KO2_ok : KO2 (.ok y h) tab neg x = ownRun tab neg x y h := rfl
theorem ownRun_ev {i j : Nat} {c : String} {fs gs : List (Str × MV)} {g : MF} (hi : h[i]? = some (.ins c fs)) (hj : h[j]? = some (.ins c gs)) (hg : tab.lookup c = some g) : ownRun tab neg (.ref i) (.ref j) h = okOf (g [.ref i, .ref j] h) neg := by
  simp [ownRun, insC, hi, hj, hg]
@[simp] theorem okOf_f {v : MV} : okOf (.ok v h) false = .ok v h := rfl
@[simp] theorem okOf_t {b : Bool} : okOf (.ok (.bl b) h) true = .ok (.bl (!b)) h := rfl
end
end Mo
namespace Mo
open PySem L2
theorem cread_of {K : PySem.W.Frag} {C : Addr} (hh : PySem.W.readsIn K C (.type "type") = true) : ClX.CRead K C (.type "type") := by
  refine ⟨hh, ?_⟩
  have h := hh
  unfold PySem.W.readsIn at h
  obtain ⟨h, _⟩ := He.ba h
  obtain ⟨h, _⟩ := He.ba h
  obtain ⟨h, h3⟩ := He.ba h
  obtain ⟨_, h2⟩ := He.ba h
  unfold PySem.W.specialIn
  rw [beq_iff_eq.mp h2, Option.bind_some]
  exact beq_iff_eq.mp h3
def okR (r : MR) : MR := match r with
  | .ok v h => .ok v h
  | _ => .no
def eCMeth (c : String) (n : Nat) (f : MF) (ms : MEs) : ME := fun s h => (ms s h).bnd fun xs h1 => if xs.length + 1 = n then okR (f (.glo c :: xs) h1) else .no
def eMkL (i : Nat) (c : String) (n l N : Nat) (f : MF) (g : List MV → List MV → List MV) (ms mk : MEs) : ME := fun s h => match s[i]? with
  | some (some (.glo d)) => if d = c then eMk c n l N f g ms mk s h else .no
  | _ => .no
section
variable {X : Cx} {G : String → Option V} {W : WX} {o e : Expr} {es : List Expr} {ms : MEs} {x m : Str} {p q pos apos : Pos} {k n i : Nat} {a1 fa C : Addr} {fd : FuncData} {ps : List Str} {f : MF} {c : String} {mc : Value} {g : List Value → List Value → List Value} {gM : List MV → List MV → List MV} {gV : List V → List V → List V}
theorem okR_ro {P : MV → List Addr → Hp → Prop} {W' : WX} {σ : St} {ρ : List Addr} {H : Hp} {r : MR} (h : RO X.K G W σ P ρ H (okR r)) : RO X.K G W' [] P ρ H r := by
  cases r with
  | ok v m => exact h
  | err e m => exact h.elim
  | no => exact h
theorem m_cmeth {pl : Sem Bool} (hG : G c = some (.ref C)) (r : ClX.CRead X.K C mc) (cm : ClX.CMet X.K C mc m a1 fa) (F : FnOk X.prog X.w X.K X.mg X.base (L2.CX X.prog X.w) k fa fd ps (SpM X.K G ps.length f)) (hr : Room k X.A) (hb : Binds X.K fd ps []) (ho : PE X o (tC (.ref C))) (ha : PA X (e :: es) (RA X.K G W ms))
    (hst : starEach (e :: es) X.env = (false, eval e X.env) :: starEach es X.env := by rfl) (hpl : (backTo pos (starEach es X.env)).any (·.1) = false := by rfl)
    (ht : eval (.Call (.Attribute o m apos) (e :: es) [] pos) X.env = (do
      let ov ← eval o X.env
      standAt apos.atName
      let (f, first) ← holding [ov] (getMethod ov m pl)
      callWith pos f first (backTo pos (starEach (e :: es) X.env)) (backToKw pos (keywordEach [] X.env))) := by rfl) :
    PE X (.Call (.Attribute o m apos) (e :: es) [] pos) (RE X.K G W (eCMeth c ps.length f ms)) := by
  refine pe_imp (ClX.pe_cmeth (pl := pl) (E := fun _ _ _ => False) ho r cm (F.raw hb .nil) hr (fun pins σ H s e s' I hq => by
    obtain ⟨_, _, _, _, _, _, _, _, _, _, _, _, f⟩ := hq
    exact f.elim) ha hst hpl ht) fun σ H Q ⟨ρ, sm, mh, r0, q⟩ => ?_
  refine ⟨rfl, ra_bnd r0 q fun xs ρ2 H2 mh2 vs x2 r2 rvs q2 => ?_⟩
  split at q2
  · rename_i hl
    have rel : VRs X.K G ρ2 H2 (.glo c :: xs) (.ref C :: vs) := VRs.cons (by simp only [VR]; exact ⟨hG, C, rfl⟩) rvs
    rw [List.append_nil]
    exact ⟨_, _, _, r2.hr, rel, by rw [← rel.length]; exact hl, okR_ro q2⟩
  · exact q2.elim
theorem m_makeL (hG : G c = some (.ref C)) (hgr : GR X.K G gM gV) (M : Mk X.K C fa) (F : FnOk X.prog X.w X.K X.mg X.base (L2.CX X.prog X.w) k fa fd ps (SpM X.K G ps.length f)) (hr : Room (k + 1) X.A) (hb : KBn X.K fd ps (n + 1) [] g gV) (tk : Takes X W) (ho : PE X (.Name x p) (tVar i))
    (ha : PA X (e :: es) (RA X.K G W ms)) (he : starEach (e :: es) X.env = (false, eval e X.env) :: starEach es X.env := by rfl) (hpl : (backTo pos (starEach es X.env)).any (·.1) = false := by rfl) :
    PE X (.Call (.Name x p) (e :: es) [] pos) (RE X.K G W (eMkL i c n 0 ps.length f gM ms aNil)) := by
  refine ⟨fun pins s σ H Q I ⟨ρ, sm, mh, r0, q⟩ => ?_⟩
  unfold eMkL at q
  cases e1 : sm[i]? with
  | none => rw [e1] at q; exact q.elim
  | some oo =>
    cases oo with
    | none => rw [e1] at q; exact q.elim
    | some v =>
      rw [e1] at q
      cases v with
      | glo d =>
        dsimp only at q
        split at q
        · rename_i hd
          subst hd
          obtain ⟨w, h1, h2⟩ := r0.sr.2 i _ e1
          simp only [VR] at h2
          have hw := h2.1
          rw [hG] at hw
          cases hw
          refine wpAny_Call_Name_kw (thn (ho.run pins s σ H (fun v H1 => v = .ref C ∧ H1 = H) I ⟨.ref C, h1, rfl, rfl⟩) fun u s1 ⟨v, H1, I1, ru, ev, eH⟩ => ?_)
          subst ev eH
          obtain rfl : u = Value.ref C := ru
          have h := make_re (σ := σ) (Q := Q) hG hgr ⟨ρ, sm, mh, r0, q⟩
          obtain ⟨ρ', sm', mh', r0', q'⟩ := h
          have h' : tMakeS C n 0 (SpM X.K G ps.length f) gV W (RA X.K G W ms) tNil σ H1 Q := ⟨ρ', sm', mh', r0', q'.mono Ext.refl fun v ρ H z vs rv => ra_nil (z vs rv)⟩
          refine PySem.W.callWith_K (h₀ := X.base) I1.ok.mod.kin M.kp (thn (ha.run pos pins s1 σ H1 _ I1 h') fun us s2 ⟨vs, H2, I2, r, q2⟩ => ⟨I2.kIn, ?_⟩) he hpl
          exact run_makeS (ks := []) (us := us) (ws := []) (vs := vs) (zs := []) M F hr hb (passAt tk σ) I2 r .nil q2.1 rfl q2.2.2
        · exact q.elim
      | _ => exact q.elim
end
section
variable {s : Lo} {h : MH}
def KCM (r : Rz (List MV)) (c : String) (n : Nat) (f : MF) : MR := r.bnd fun xs h1 => if xs.length + 1 = n then okR (f (.glo c :: xs) h1) else .no
@[simp] theorem eCMeth_ev {c n f ms} : eCMeth c n f ms s h = KCM (ms s h) c n f := rfl
@[simp] theorem KCM_ok {xs c n f} : KCM (.ok xs h) c n f = if xs.length + 1 = n then okR (f (.glo c :: xs) h) else .no := rfl
@[simp] theorem okR_ok {v : MV} : okR (.ok v h) = .ok v h := rfl
def KML (o : Option (Option MV)) (c : String) (n l N : Nat) (f : MF) (g : List MV → List MV → List MV) (ms mk : MEs) (s : Lo) (h : MH) : MR := match o with
  | some (some (.glo d)) => if d = c then eMk c n l N f g ms mk s h else .no
  | _ => .no
@[simp] theorem eMkL_ev {i c n l N f g ms mk} : eMkL i c n l N f g ms mk s h = KML s[i]? c n l N f g ms mk s h := rfl
@[simp] theorem KML_glo {c d n l N f g ms mk} : KML (some (some (.glo d))) c n l N f g ms mk s h = if d = c then eMk c n l N f g ms mk s h else .no := rfl
end
end Mo
namespace Mo
open PySem L2
section
variable {h : MH} {i j : Nat} {f : Str} {cs : List String} {tab : List (String × MF)} {neg : Bool}
def KFA (o : Option MO) (f : Str) (cs : List String) (h : MH) : OV := match o with
  | some (.ins c fs) => if c ∈ cs then KX (fs.lookup f) h else none
  | _ => none
@[simp] theorem KFA_ins {c fs} : KFA (some (.ins c fs)) f cs h = if c ∈ cs then KX (fs.lookup f) h else none := rfl
def KOw (o o' : Option MO) (tab : List (String × MF)) (neg : Bool) (i j : Nat) (h : MH) : MR := match o, o' with
  | some (.ins c _), some (.ins c' _) => if c = c' then match tab.lookup c with
    | some g => okOf (g [.ref i, .ref j] h) neg
    | none => .no
    else .no
  | _, _ => .no
def KOx (o : Option MF) (neg : Bool) (i j : Nat) (h : MH) : MR := match o with
  | some g => okOf (g [.ref i, .ref j] h) neg
  | none => .no
@[simp] theorem KOw_ins {c c' fs gs} : KOw (some (.ins c fs)) (some (.ins c' gs)) tab neg i j h = if c = c' then KOx (tab.lookup c) neg i j h else .no := rfl
@[simp] theorem KOx_some {g} : KOx (some g) neg i j h = okOf (g [.ref i, .ref j] h) neg := rfl
end
end Mo
namespace Mo
open PySem L2
def isKT (x : MV) (_ : MH) : Bool := match x with
  | .ktp _ => true
  | _ => false
def fTupIx (x : MV) (xs : List MV) (h : MH) : OV := match x, xs with
  | .ktp ys, [.str z] => match strsM ys with
    | some ss => (ss.findIdx? fun y => y == z).map fun j => (.int j, h)
    | none => none
  | _, _ => none
section
variable {K : PySem.W.Frag} {G : String → Option V}
theorem t_ktup : TyS K G "tuple" isKT := by
  intro ρ H mh x v hr rv h
  unfold isKT at h
  split at h
  · simp only [VR] at rv
    obtain ⟨a, vs, rfl, h1, _⟩ := rv
    exact .inr (.inl ⟨rfl, h1.2⟩)
  · cases h
theorem s_tup_index : MtS K G (fun x xs H Q => ∃ p, ∃ ys : List Str, ∃ z j, x = .ref p ∧ xs = [.str z] ∧ SqT K H p (ys.map V.str) ∧ ys[j]? = some z ∧ (∀ m, m < j → ys[m]? ≠ some z) ∧ Q (.int (j : Nat)) H) fTupIx := by
  intro ρ H mh mh1 x z xs v vs Q hr rv rvs e k
  unfold fTupIx at e
  split at e
  · rename_i ys z0
    split at e
    · rename_i ss hs
      cases hj : ss.findIdx? (fun y => y == z0) with
      | none => rw [hj] at e; cases e
      | some j =>
        rw [hj] at e
        cases e
        obtain ⟨w, rfl, rw'⟩ := rvs.one
        simp only [VR] at rw' rv
        subst rw'
        obtain ⟨a, us, rfl, h1, h2⟩ := rv
        have hu := strs_V hs h2
        subst hu
        obtain ⟨hl, e1, e2⟩ := List.findIdx?_eq_some_iff_getElem.mp hj
        refine ⟨a, ss, z0, j, rfl, rfl, h1.sq, ?_, fun m hm => ?_, k _ _ Ext.refl hr _ (by simp [VR])⟩
        · rw [List.getElem?_eq_getElem hl]
          simp at e1
          rw [e1]
        · have hm' : m < ss.length := by omega
          rw [List.getElem?_eq_getElem hm']
          intro q
          have := e2 m hm
          simp at this
          exact this (Option.some.inj q)
    · cases e
  · cases e
end
@[simp] theorem isKT_ktp {xs : List MV} {h : MH} : isKT (.ktp xs) h = true := rfl
end Mo
namespace Mo
open PySem L2
abbrev KSE := PySem.W.ksEnv
def cxS (P : Program) (w : World) (K : PySem.W.Frag) (mg : Str → Option Value) (base : Heap) (N : List Str) (qual : Str) (scope : Scope) (f : Addr) (cd : Value) (cc : Addr) (A : Around) (outer : List Env) (s : Shared) (H : Hp) (E : XK) : Cx :=
  { cxOf (L2.CX P w) P w K mg base N qual scope f cd A outer s H E with
    A := A.deeper (KSE qual scope s.heap.objs.size f cd cc)
    env := KSE qual scope s.heap.objs.size f cd cc
    stack := KSE qual scope s.heap.objs.size f cd cc :: outer
    fn := fun y => !(y == ("__class__" : Str))
    xe := fun e s' => PySem.wpAny (model P w) (A.deeper (KSE qual scope s.heap.objs.size f cd cc)) (leaving (KSE qual scope s.heap.objs.size f cd cc) e) (fun _ s'' => L2.CX P w outer H s E e s'') (fun e' s'' => L2.CX P w outer H s E e' s'') s' }
structure SupScope (N ps : List Str) (sc : Scope) : Prop where
  kind : sc.kind = .function
  co : sc.isCoroutine = false
  gen : sc.isGenerator = false
  nd : N.Nodup
  pre : N.take ps.length = ps
  par : ∀ x ∈ ps, sc.names.lookup x = some .local
  nocell : ∀ y ∈ sc.names, y.2 ≠ .cell
  free : ∀ y ∈ sc.names, y.2 = .free → y.1 = "__class__"
theorem lookup_rev {ps : List Str} {us : List Value} (nd : ps.Nodup) {i : Nat} {y : Str} {u : Value} (h1 : ps[i]? = some y) (h2 : us[i]? = some u) : (ps.zip us).reverse.lookup y = some u := by
  have key : ∀ (l : List (Str × Value)), (l.map (·.1)).Nodup → (y, u) ∈ l → l.lookup y = some u := by
    intro l
    induction l with
    | nil => intro _ h; cases h
    | cons p l ih =>
      intro hn hm
      obtain ⟨z, v⟩ := p
      simp only [List.map_cons, List.nodup_cons] at hn
      rcases List.mem_cons.mp hm with e | hm2
      · cases e; simp [List.lookup]
      · have hne : (y == z) = false := by
          rw [beq_eq_false_iff_ne]
          intro e
          subst e
          exact hn.1 (List.mem_map.mpr ⟨(_, u), hm2, rfl⟩)
        simp only [List.lookup, hne]
        exact ih hn.2 hm2
  refine key _ ?_ ?_
  · rw [List.map_reverse]
    have : ((ps.zip us).map (·.1)).Nodup := by
      have e : (ps.zip us).map (·.1) = ps.take us.length := by
        clear h1 h2 key nd
        induction ps generalizing us with
        | nil => simp
        | cons p ps ih => cases us with
          | nil => simp
          | cons u us => simp [ih]
      rw [e]
      exact nd.sublist (List.take_sublist _ _)
    exact (List.reverse_perm _).nodup_iff.mpr this
  · rw [List.mem_reverse]
    have : (ps.zip us)[i]? = some (y, u) := by rw [List.getElem?_zip_eq_some]; exact ⟨h1, h2⟩
    exact List.mem_of_getElem? this
section
variable {P : Program} {w : World} {K : PySem.W.Frag} {mg : Str → Option Value} {base : Heap} {N ps : List Str} {qual : Str} {scope : Scope} {f cc C : Addr} {cd : Value} {A : Around} {outer : List Env} {s : Shared} {H : Hp} {E : XK} {us : List Value} {vs : List V}
theorem inv_startS {oc : Obj} {h₁ : Heap} {tk : Nat} (S : SupScope N ps scope) (hd : A.handled = none) (e0 : Env0 P w K mg base A outer s H) (hl : vs.length = ps.length) (r : Vals vs us) (hcc : K.lookup cc = some oc) (hcell : oc.data = .cell (some (.ref C)))
    (hns : h₁.Ns s.heap.objs.size fun x => (ps.zip us).reverse.lookup x) (hk : ∀ b o, s.heap.get? b = some o → h₁.get? b = some o) :
    Inv (cxS P w K mg base N qual scope f cd cc A outer s H E) [] (start N vs) H { s with heap := h₁, toks := tk } := by
  have noA : ∀ b : Addr, b ∉ (cxS P w K mg base N qual scope f cd cc A outer s H E).ex := fun b z => absurd (show b ∈ ([] : List Addr) from z) (by simp)
  have hbase : base.get? cc = some oc := e0.mod.kin _ _ hcc
  have hs := e0.bs _ _ hbase
  have only : ∀ (y : Str) (c : Addr), ([("__class__", cc)] : List (Str × Addr)).lookup y = some c → y = "__class__" ∧ c = cc := fun y c h => by
    simp only [List.lookup] at h
    split at h
    · rename_i q
      cases h
      exact ⟨by simpa using q, rfl⟩
    · cases h
  refine ⟨⟨e0.mod, S.kind, rfl, rfl, Nat.le_refl _, fun y z c h1 h2 => ?_, fun y hy => ?_, fun y c h1 h2 => ?_, fun _ => hd, Around.frames_deeper e0.frames, .inr ⟨rfl, rfl⟩, fun b z => absurd z (noA b), e0.bs, e0.bsz, fun b _ _ => noA b, fun b z => absurd z (noA b), e0.funs, e0.frf⟩,
    rfl, e0.bare, Un.kept hk, ⟨_, hns, fun i y v h1 h2 h3 => ?_⟩, fun y c h => ?_, e0.hok.fresh (Nat.le_refl _), fun y c h => ?_, fun p hp => absurd (show p ∈ ([] : List (Addr × Obj)) from hp) (by simp), e0.hok.kept hk, ?_⟩
  · exact (only y c h1).1.trans (only z c h2).1.symm
  · have hy : scope.names.lookup y = some .cell ∨ scope.names.lookup y = some .free := hy
    rcases hy with hy | hy
    · exact absurd rfl (S.nocell _ (PySem.mem_of_lookup hy))
    · have := S.free _ (PySem.mem_of_lookup hy) rfl
      dsimp only at this
      subst this
      exact ⟨cc, rfl⟩
  · have := (only y c h2).1
    subst this
    simp [cxS] at h1
  · have hi : i < vs.length := by
      unfold L2.start at h2
      by_cases hi : i < vs.length
      · exact hi
      · rw [List.getElem?_append_right (by simpa using hi)] at h2
        rw [List.getElem?_replicate] at h2
        split at h2 <;> cases h2
    have hva : vs[i]? = some v := by
      unfold L2.start at h2
      rw [List.getElem?_append_left (by simpa using hi), List.getElem?_map] at h2
      cases e : vs[i]? with
      | none => rw [e] at h2; cases h2
      | some a => rw [e] at h2; cases h2; rfl
    obtain ⟨u, hu, rv⟩ := r.get hva
    have hp : ps[i]? = some y := by
      rw [← S.pre, List.getElem?_take_of_lt (by omega)]; exact h1
    have ndP : ps.Nodup := by rw [← S.pre]; exact S.nd.sublist (List.take_sublist _ _)
    exact ⟨u, rv, .inl ⟨S.par y (List.mem_of_getElem? hp), lookup_rev ndP hp hu⟩⟩
  · have := (only y c h).2
    subst this
    exact ⟨some (.ref C), oc, hk _ _ hs.1, hcell⟩
  · have := (only y c h).2
    subst this
    exact hs.2
  · show _ = N.length
    unfold L2.start
    have hpl : ps.length ≤ N.length := by have := congrArg List.length S.pre; rw [List.length_take] at this; omega
    rw [List.length_append, List.length_map, List.length_replicate]
    omega
end
end Mo
namespace Mo
open PySem L2
section
variable {prog : Program} {w : World} {A : Around} {E : Value → Shared → Prop} {h : Heap} {g : Array GenState} {d : Drawn} {t : Nat} {os : OsState} {nm q : Str} {C N : Addr} {bs bm : List Value} {sn : List Str} {sub : List Value} {ab : Bool} {col : Option Bool} {dd : Option Addr} {k0 k1 k2 k3 k5 : Option Value}
theorem vw_call {u e t0 : Addr} {r : List Value} {Q : Value → Shared → Prop} (hC : h.get? C = some (excClassObj nm q C N bs bm true sn sub ab col dd k0 k1 k2 k3 k5 "ValueError.__new__")) (he : h.get? e = some (HandSPX.excO C t0))
    (hu : h.get? u = some (PySem.W.kxs_mw "ValueError.__init__" e)) (hr : r.length ≤ sizeLine) (hq : ∀ h1 t1, (∀ b o, b ≠ e → h.get? b = some o → h1.get? b = some o) → h1.get? e = some (HandSPX.excO C t1) → Q .none ⟨h1, g, d, t, os⟩) :
    PySem.wpAny (model prog w) A (PySem.call (.ref u) r) Q E ⟨h, g, d, t, os⟩ := by
  have FB := F.excBase_ValueError
  refine wpAny_call (codeAny_of_tree (show PySem.wpAny _ A.in1 (callAny (.ref u) ⟨r, []⟩) _ _ _ from ?_))
  simp only [callAny]
  refine wpAny_bind (wpAny_load hu ?_)
  have c1 : (Value.type "method-wrapper" == Value.type "method" || Value.type "method-wrapper" == Value.type "builtin_function_or_method" || Value.type "method-wrapper" == Value.type "method-wrapper") = true := by decide
  simp only [PySem.W.kxs_mw, c1, if_true]
  refine PySem.W.KFB.if_so (by decide) (wpAny_bind (PySem.W.check_bound_init FB.toExcCallFacts hC he rfl (wpAny_bind (wpAny_pure (wpAny_pure ?_)))))
  exact ⟨plainId_quiet FB.init.plain _, codeAny_builtin FB.initEntry (PySem.W.exc_init_tree (cls := .ref C) (t0 := t0) (dv := none) (c2 := .none) (c3 := .none) (b4 := .bool false) he hr fun h1 k e1 _ => hq h1 _ k e1)⟩
end
structure SupF (P : Program) (K : PySem.W.Frag) (C cda cc : Addr) (prm : Arguments) (scope : Scope) : Prop where
  code : ∃ cl dd vs sl file tf, K.lookup cda = some ⟨cl, dd, .fields vs, sl⟩ ∧ vs[2]? = some (.str file tf) ∧ (P.main.file == file) = true
  cell : ∃ cl dd sl, K.lookup cc = some ⟨cl, dd, .cell (some (.ref C)), sl⟩
  arg : ∃ ar : Arg, (prm.posonlyargs ++ prm.args).head? = some ar ∧ ar.arg = "self"
  sup : scope.names.lookup ("super" : Str) = some .globalImplicit
  cls : scope.names.lookup ("__class__" : Str) = some .free
  slf : scope.names.lookup ("self" : Str) = some .local
  knd : scope.kind = .function
  top : (P.main.scope.names.lookup ("super" : Str)).isSome = false
  opq : PySem.W.nsIn K PySem.cStatics "thirdparty.any" = some none
  mro : PySem.W.mroIn K C (.ref C) = some true
  ini : PySem.W.ks_superIn K C C "__init__" = some (some (.builtin "ValueError.__init__"))
  isB : PySem.W.subIn K (.ref C) (.type "ValueError") = some true
section
variable {P : Program} {w : World} {K : PySem.W.Frag} {mg : Str → Option Value} {base : Heap} {N : List Str} {qual : Str} {scope : Scope} {f cc C cda a : Addr} {A : Around} {outer : List Env} {s0 s : Shared} {H0 H : Hp} {E : XK} {σ : L2.St} {body : List Stmt} {m : Str} {j : Nat}
  {p0 p1 p2 p3 p4 p5 : Pos} {prm : Arguments} {x : Str} {dV kV doc pm ct oc : Value} {an od : Option Addr} {osl : Array (Option Value)} {pl : Sem Bool} {QF : Flow → Shared → Prop} {EF : Value → Shared → Prop}
theorem sup_stmt (SF : SupF P K C cda cc prm scope) (T : OexC K C) (hN : N[0]? = some ("self" : Str)) (hm : mg "super" = none)
    (lk : K.lookup f = some ⟨oc, od, .func (PySem.W.ksFn x qual prm body scope dV kV doc pm an (.ref cda) ct cc), osl⟩)
    (I : Inv (cxS P w K mg base N qual scope f (.ref cda) cc A outer s0 H0 E) [] σ H s) (h0 : σ[0]? = some (some (.ref a))) (ha : H a = some (exo a C none))
    (he : eval (.Call (.Attribute (.Call (.Name "super" p0) [] [] p1) "__init__" p2) [.Constant (.str m) j p5] [] p3) (KSE qual scope s0.heap.objs.size f (.ref cda) cc) = (do
      let ov ← attributeBase (.Call (.Name "super" p0) [] [] p1) "__init__" (KSE qual scope s0.heap.objs.size f (.ref cda) cc) (eval (.Call (.Name "super" p0) [] [] p1) (KSE qual scope s0.heap.objs.size f (.ref cda) cc))
      standAt p2.atName
      let (f', first) ← holding [ov] (getMethod ov "__init__" pl)
      callWith p3 f' first (backTo p3 (starEach [.Constant (.str m) j p5] (KSE qual scope s0.heap.objs.size f (.ref cda) cc))) []))
    (hs : swapsWith (.Call (.Attribute (.Call (.Name "super" p0) [] [] p1) "__init__" p2) [.Constant (.str m) j p5] [] p3) none p4.line (KSE qual scope s0.heap.objs.size f (.ref cda) cc) = pure false)
    (hX : ∀ e s', (cxS P w K mg base N qual scope f (.ref cda) cc A outer s0 H0 E).xe e s' → EF e s') (hq : ∀ s', Inv (cxS P w K mg base N qual scope f (.ref cda) cc A outer s0 H0 E) [] σ H s' → QF .next s') :
    wpAt (model P w) (A.deeper (KSE qual scope s0.heap.objs.size f (.ref cda) cc)) (.func body (KSE qual scope s0.heap.objs.size f (.ref cda) cc))
      (exec (.Expr (.Call (.Attribute (.Call (.Name "super" p0) [] [] p1) "__init__" p2) [.Constant (.str m) j p5] [] p3) p4) (KSE qual scope s0.heap.objs.size f (.ref cda) cc)) QF EF s := by
  obtain ⟨cl1, dd1, vs1, sl1, file, tf, k1, k2, k3⟩ := SF.code
  obtain ⟨cl2, dd2, sl2, k4⟩ := SF.cell
  obtain ⟨ar, k5, k6⟩ := SF.arg
  obtain ⟨nmC, qC, NC, bsC, bmC, snC, subC, abC, colC, ddC, q0, q1, q2, q3, q5, hC, hbm⟩ := T.cls
  have KX : K.In s.heap := I.kIn
  obtain ⟨t0, hoa⟩ := exo_at I.hok ha
  have Ia : PySem.W.InstAt s.heap a _ C none := ⟨hoa, rfl, rfl, trivial⟩
  have hcls : PySem.W.clsIn K C = some { name := nmC, bases := bsC, mro := .ref C :: bmC, ns := NC, qualname := qC, hasDict := true, slotNames := snC, subclasses := subC, abstract := abC, collection := colC, hasDel := false } := by
    unfold PySem.W.clsIn
    rw [hC] <;> rfl
  obtain ⟨ml, hns, hloc⟩ := I.loc
  have hself : ml "self" = some (.ref a) := by
    obtain ⟨u, ru, l⟩ := hloc 0 "self" (.ref a) hN h0 (.inl SF.slf)
    obtain rfl : u = Value.ref a := ru
    rcases l with ⟨_, z⟩ | ⟨z, _⟩
    · exact z
    · have z : scope.names.lookup ("self" : Str) = some .cell ∨ scope.names.lookup ("self" : Str) = some .free := z
      rw [SF.slf] at z
      rcases z with z | z <;> cases z
  refine PySem.ks_wpAt_Expr_any (PySem.ks_wpAt_MethodCall (pl := pl) ?_ he) ?hi hs
  case hi => unfold interactive; rw [show (KSE qual scope s0.heap.objs.size f (.ref cda) cc).scope.kind = .function from SF.knd]; rfl
  obtain ⟨mb, b1, b2⟩ := I.mod.blt
  refine PySem.ks_wpAt_super_base (env := KSE qual scope s0.heap.objs.size f (.ref cda) cc) SF.sup SF.cls (by decide) rfl (KX _ _ lk) rfl k5 rfl (KX _ _ k1) rfl k2 k3 SF.top ?_
  refine PySem.W.ks_loadName_global SF.knd SF.sup (Calls.loadGlobal_builtin (env := KSE qual scope s0.heap.objs.size f (.ref cda) cc) (I.mod.glob.keeps I.bk) hm (b1.keeps I.bk) ((b2 "super" (by decide)).trans PyProof.Rows.Boot.«super») ⟨rfl, ?_⟩)
  refine wpAny_loadName_free SF.knd SF.cls rfl ⟨_, KX _ _ k4, rfl⟩ ?_
  refine wpAny_loadName_local SF.knd (by rw [k6]; exact SF.slf) hns (by rw [k6]; exact hself) ?_
  obtain ⟨hp, g, d, t, os⟩ := s
  have hCo := KX _ _ hC
  refine PySem.ks_wpAny_isType_cls hCo rfl ⟨rfl, ?_⟩
  refine PySem.ks_wpAny_call_super hCo rfl hoa rfl (fun c e => by cases e) (PySem.W.looks_mroIn KX SF.mro) fun h1 e1 k => ?_
  have I1 : Inv (cxS P w K mg base N qual scope f (.ref cda) cc A outer s0 H0 E) [] σ H ⟨h1, g, d, t, os⟩ := I.kept (t' := t) k
  have hsup := SF.ini
  unfold PySem.W.ks_superIn at hsup
  rw [hcls] at hsup
  have hal : PySem.W.alongIn K "__init__" (((Value.ref C :: bmC).dropWhile (· != .ref C)).drop 1) = some (some (.builtin "ValueError.__init__")) := hsup
  have Ja : PySem.W.InstAt h1 a _ C none := ⟨k _ _ hoa, rfl, rfl, trivial⟩
  refine PySem.W.kxs_getMethod PySem.W.kxs_ValueError e1 (PySem.W.looks_opaque I1.kIn SF.opq) (l₀ := .ref C :: bmC) (fun A Q E s k q => wpAny_bind ((PySem.W.looks_clsIn I1.kIn hcls) A _ E s k (wpAny_pure q))) rfl I1.kIn hal (Ja.type.andThen (PySem.W.looks_subIn I1.kIn SF.isB)) (PySem.W.ks_ne I1.kIn Ja hcls) (by decide) ?_
  have I2 := ClX.pin_new (t' := t + 1) (a := h1.objs.size) (o := PySem.W.kxs_mw "ValueError.__init__" a) (h' := h1.push (PySem.W.kxs_mw "ValueError.__init__" a)) I1 (fun b u z => Heap.get?_push_of_some _ z) (Nat.le_refl _) (Heap.get?_push_size h1 rfl) (fun v z => nomatch z)
  show PySem.wpAny _ _ (callWith p3 (.ref h1.objs.size) [] (backTo p3 (starEach [.Constant (.str m) j p5] (KSE qual scope s0.heap.objs.size f (.ref cda) cc))) []) _ _ _
  refine PySem.W.kxs_callWith (i := "ValueError.__init__") (x := a) rfl (Calls.evalArgs_plain ?_)
  have hargs : PA (cxS P w K mg base N qual scope f (.ref cda) cc A outer s0 H0 E) [.Constant (.str m) j p5] _ := pa_cons pe_str pa_nil
  refine wpAny_mono (hargs.run p3 _ _ σ H (fun vs H1 => vs = [.str m] ∧ H1 = H) I2 ⟨rfl, rfl⟩) (fun us s3 hx => ?_) fun _ _ y => ?_
  · obtain ⟨vs, H3, I3, r3, ev, eH⟩ := hx
    subst ev eH
    have hu := ClX.pin_at I3
    refine ⟨hu, ?_⟩
    obtain ⟨t3, ho3⟩ := exo_at I3.hok ha
    obtain ⟨hp3, g3, d3, tk3, os3⟩ := s3
    refine vw_call (I3.kIn _ _ hC) ho3 hu (by rw [List.nil_append, ← r3.length, sizeLine_eq]; show 1 ≤ 16777216; omega) fun h4 t4 k4' e4 => ?_
    have J := (ClX.unpin I3).write (t' := tk3) (x := a) (e := a) (o := exo a C none) (by rw [ha]; exact True.intro) (.inl rfl) k4' ⟨_, e4⟩ (exo_ok e4)
    have eu : upd H3 a (exo a C none) = H3 := by
      funext b
      by_cases hb : b = a
      · rw [hb, upd_same, ha]
      · rw [upd_ne hb]
    rw [eu] at J
    exact hq _ J
  · exact hX _ _ y
end
end Mo
namespace Mo
open PySem L2
section
variable {P : Program} {w : World} {K : PySem.W.Frag} {mg : Str → Option Value} {base : Heap} {N ps : List Str} {qual x : Str} {scope : Scope} {f cc C cda : Addr} {body rest : List Stmt} {m : Str} {j : Nat} {p0 p1 p2 p3 p4 p5 : Pos} {prm : Arguments} {dV kV doc pm ct oc : Value} {an od : Option Addr}
  {osl : Array (Option Value)} {k : Nat} {sp : Sp}
abbrev supCall (m : Str) (j : Nat) (p0 p1 p2 p3 p5 : Pos) : Expr := .Call (.Attribute (.Call (.Name "super" p0) [] [] p1) "__init__" p2) [.Constant (.str m) j p5] [] p3
def SupHe (m : Str) (j : Nat) (p0 p1 p2 p3 p5 : Pos) : Prop := ∀ env : Env, ∃ pl : Sem Bool, eval (supCall m j p0 p1 p2 p3 p5) env = (do
      let ov ← attributeBase (.Call (.Name "super" p0) [] [] p1) "__init__" env (eval (.Call (.Name "super" p0) [] [] p1) env)
      standAt p2.atName
      let (f', first) ← holding [ov] (getMethod ov "__init__" pl)
      callWith p3 f' first (backTo p3 (starEach [.Constant (.str m) j p5] env)) [])
theorem sup_hs (env : Env) : swapsWith (supCall m j p0 p1 p2 p3 p5) none p4.line env = pure false := rfl
theorem fn_super (he0 : SupHe m j p0 p1 p2 p3 p5) (SF : SupF P K C cda cc prm scope) (T : OexC K C) (hm : mg "super" = none) (lk : K.lookup f = some ⟨oc, od, .func (PySem.W.ksFn x qual prm (.Expr (supCall m j p0 p1 p2 p3 p5) p4 :: rest) scope dV kV doc pm an (.ref cda) ct cc), osl⟩)
    (hcd : PySem.W.codeIn K (.ref cda) qual = true) (S : SupScope N ps scope) (hN : N[0]? = some ("self" : Str)) (len : ∀ vs H Q E, sp vs H Q E → vs.length = ps.length)
    (hbody : ∀ (A : Around) (outer : List Env) (s : Shared) (H : Hp) (vs : List V) (Q : VK) (E : XK), sp vs H Q E →
      ∃ t a, PSs (cxS P w K mg base N qual scope f (.ref cda) cc A outer s H E) rest t ∧ t { nx := fun _ H' => Q .non H', rt := Q } (L2.start N vs) H ∧ vs[0]? = some (.ref a) ∧ H a = some (exo a C none)) :
    FnOk P w K mg base (L2.CX P w) (k + 1) f (PySem.W.ksFn x qual prm (.Expr (supCall m j p0 p1 p2 p3 p5) p4 :: rest) scope dV kV doc pm an (.ref cda) ct cc) ps sp := by
  refine ⟨len, fun A outer s H args us vs Q E hr e0 hb r hsp => ?_⟩
  have hl := len _ _ _ _ hsp
  have KX : K.In s.heap := e0.mod.kin.keeps fun b o e => (e0.bs b o e).1
  have lim : s.heap.NoLimit := e0.mod.nolimit.keeps fun b o e => (e0.bs b o e).1
  obtain ⟨t, a, ht, hq, h0, ha⟩ := hbody A outer s H vs Q E hsp
  obtain ⟨cl, dd, sl, hcell⟩ := SF.cell
  refine PySem.ks_codeAny_call_defAt hr.depth (KX _ _ lk) rfl lim (PySem.W.codeRec_of KX hcd) rfl hb S.nocell (fun ⟨n, v⟩ hy => S.par n (List.of_mem_zip hy).1) (fun h₁ hns hk => ?_) S.co S.gen S.kind
  have I := inv_startS (A := A) (outer := outer) (E := E) (f := f) (cc := cc) (cd := .ref cda) (C := C) (qual := qual) (tk := s.toks + (ps.zip us).length) S hr.hd e0 hl r hcell rfl hns hk
  have hσ : (L2.start N vs)[0]? = some (some (.ref a)) := by
    unfold L2.start
    have : 0 < vs.length := (List.getElem?_eq_some_iff.mp h0).1
    rw [List.getElem?_append_left (by simpa using this), List.getElem?_map, h0]; rfl
  obtain ⟨pl, he⟩ := he0 (KSE qual scope s.heap.objs.size f (.ref cda) cc)
  refine PySem.ks_wpAt_execs_cons (sup_stmt (pl := pl) SF T hN hm lk I hσ ha he (sup_hs _) (fun e s' y => y) fun s2 J => ?_)
  refine wpAt_of_wpAny (wpAny_mono (ht.run [] s2 (L2.start N vs) H _ J hq) (fun fl s' hs => ?_) fun e s' hs => hs)
  have fin : ∀ {σ' : L2.St} {H' : Hp} {v : V} {u : Value}, Inv (cxS P w K mg base N qual scope f (.ref cda) cc A outer s H E) [] σ' H' s' → RelV v u → Q v H' → CE outer P w H s Q u s' :=
    fun {σ' H' v u} J rv q => ⟨v, H', J.os, J.bare, J.base, J.hok, rv, q⟩
  cases fl with
  | ret u =>
    obtain ⟨v, σ', H', J, rv, q⟩ := hs
    exact fin J rv q
  | next =>
    obtain ⟨σ', H', J, q⟩ := hs
    exact fin (v := V.non) (u := Value.none) J rfl q
  | brk =>
    obtain ⟨_, _, _, q⟩ := hs
    exact False.elim q
  | cont =>
    obtain ⟨_, _, _, q⟩ := hs
    exact False.elim q
end
end Mo
namespace Mo
open PySem L2
def spS1 (C : Addr) (f1 : Str) : Sp := fun vs H Q _ => ∃ a y, vs = [.ref a, y] ∧ H a = some (exo a C none) ∧ ∀ dx, H dx = none → dx ≠ a → Q .non (upd (upd H dx (exd dx [(f1, y)])) a (exo a C (some dx)))
def spS2 (C : Addr) (f1 f2 : Str) : Sp := fun vs H Q _ => ∃ a y z, vs = [.ref a, y, z] ∧ H a = some (exo a C none) ∧
  ∀ dx, H dx = none → dx ≠ a → Q .non (upd (upd (upd H dx (exd dx [(f1, y)])) a (exo a C (some dx))) dx (exd dx [(f2, z), (f1, y)]))
section
variable {P : Program} {w : World} {K : PySem.W.Frag} {mg : Str → Option Value} {base : Heap} {y1 y2 f1 f2 : Str} {qual x : Str} {scope : Scope} {f cc C cda : Addr} {m : Str} {j : Nat} {p0 p1 p2 p3 p4 p5 q1 q2 q3 q4 q5 q6 q7 q8 : Pos} {prm : Arguments} {dV kV doc pm ct oc : Value} {an od : Option Addr}
  {osl : Array (Option Value)}
theorem fn_sup1 (he0 : SupHe m j p0 p1 p2 p3 p5) (SF : SupF P K C cda cc prm scope) (T : OexC K C) (hm : mg "super" = none) (hf1 : PySem.W.findIn K (.ref C) f1 = some none)
    (lk : K.lookup f = some ⟨oc, od, .func (PySem.W.ksFn x qual prm [.Expr (supCall m j p0 p1 p2 p3 p5) p4, .Assign [.Attribute (.Name "self" q1) f1 q2] (.Name y1 q3) q4] scope dV kV doc pm an (.ref cda) ct cc), osl⟩)
    (hcd : PySem.W.codeIn K (.ref cda) qual = true) (S : SupScope ["self", y1] ["self", y1] scope) (d1 : (y1 == ("__debug__" : Str)) = false := by decide) (d2 : (y1 == ("__classdict__" : Str)) = false := by decide) :
    FnOk P w K mg base (L2.CX P w) 1 f (PySem.W.ksFn x qual prm [.Expr (supCall m j p0 p1 p2 p3 p5) p4, .Assign [.Attribute (.Name "self" q1) f1 q2] (.Name y1 q3) q4] scope dV kV doc pm an (.ref cda) ct cc) ["self", y1] (spS1 C f1) := by
  refine fn_super he0 SF T hm lk hcd S rfl (fun vs H Q E h => by obtain ⟨a, y, rfl, _⟩ := h; rfl) fun A outer s H vs Q E h => ?_
  obtain ⟨a, y, rfl, ha, hq⟩ := h
  have v0 : PE (cxS P w K mg base ["self", y1] qual scope f (.ref cda) cc A outer s H E) (.Name "self" q1) (tVar 0) := pe_var rfl (.inl SF.slf)
  have v1 : PE (cxS P w K mg base ["self", y1] qual scope f (.ref cda) cc A outer s H E) (.Name y1 q3) (tVar 1) := pe_var rfl (.inl (S.par y1 (by simp))) d1 d2
  refine ⟨_, a, pss_one (ps_ost v0 v1), ?_, rfl, ha⟩
  refine ⟨y, rfl, .ref a, rfl, a, C, rfl, T, hf1, .inl ⟨ha, fun dx hd hn => hq dx hd hn⟩⟩
end
def sRaise (c : String) (fs : List Str) (ms : MEs) : MS := fun s h => (ms s h).bnS s fun xs h1 => if xs.length = fs.length then .err ⟨c, (fs.zip xs).reverse⟩ s h1 else .no
structure RaiM (P : Program) (w : World) (K : PySem.W.Frag) (mg : Str → Option Value) (base : Heap) (G : String → Option V) (c : String) (fs : List Str) (C : Addr) : Prop where
  g : G c = some (.ref C)
  oex : OexC K C
  run : ∃ fI fd ps sp, PySem.W.findIn K (.ref C) "__init__" = some (some (.ref fI)) ∧ PySem.W.typeIn K (.ref fI) = some (.type "function") ∧ FnOk P w K mg base (L2.CX P w) 1 fI fd ps sp ∧ Binds K fd ps [] ∧
    ((∃ f1, fs = [f1] ∧ sp = spS1 C f1) ∨ ∃ f1 f2, fs = [f1, f2] ∧ sp = spS2 C f1 f2)
section
variable {X : Cx} {G : String → Option V} {W : WX} {e : Expr} {es : List Expr} {ms : MEs} {x : Str} {p pos rpos : Pos} {c : String} {fs : List Str} {C : Addr}
theorem hr_exc {K : PySem.W.Frag} {ρ : List Addr} {H H' : Hp} {mh : MH} (hr : HR K G ρ H mh) (k : ∀ b o, H b = some o → H' b = some o) : HR K G ρ H' mh ∧ Ext K ρ H ρ H' := by
  have x : Ext K ρ H ρ H' := ⟨⟨[], by simp⟩, fun a vs h => k _ _ h, fun a vs h => h.elim (fun ⟨o, q⟩ => .inl ⟨o, k _ _ q⟩) .inr⟩
  exact ⟨⟨hr.len, hr.nd, fun i o e => let ⟨a, ha, q⟩ := hr.obj i o e; ⟨a, ha, q.keep x fun u hu => k _ _ hu⟩⟩, x⟩
theorem m_raise (R : RaiM X.prog X.w X.K X.mg X.base G c fs C) (hc : X.calm = true) (hr : Room 2 X.A) (tk : Takes X W) (hg : Gl X x) (hm : X.mg x = some (.ref C)) (ha : PA X (e :: es) (RA X.K G W ms))
    (hdb : (x == ("__debug__" : Str)) = false := by decide) (he : starEach (e :: es) X.env = (false, eval e X.env) :: starEach es X.env := by rfl) (hpl : (backTo pos (starEach es X.env)).any (·.1) = false := by rfl) :
    PS X (.Raise (some (.Call (.Name x p) (e :: es) [] pos)) none rpos) (RS X.K G W (sRaise c fs ms)) := by
  obtain ⟨g, T, fI, fd, ps, sp, iC, tI, F, hb, hsp⟩ := R
  refine ps_imp (ps_raise hc tk (pmk_oex T iC tI F hr hb .nil (fun pins σ H s e s' I hq => by
    obtain ⟨_, _, _, _, _, _, _, _, _, _, _, _, f⟩ := hq
    exact f.elim) hg hm ha hdb he hpl)) fun D σ H ⟨ρ, sm, mh, r0, q⟩ => ?_
  refine ras_bnd r0 q fun xs ρ1 H1 mh1 vs x1 r1 rvs q1 => ?_
  split at q1
  · rename_i hl
    rcases hsp with ⟨f1, rfl, rfl⟩ | ⟨f1, f2, rfl, rfl⟩
    · obtain ⟨z, rfl⟩ := len1 hl
      obtain ⟨v, rfl, rv⟩ := rvs.one
      refine ⟨by simp, fun a hna => ⟨a, v, rfl, upd_same, fun dx hd hn => ⟨rfl, dx, [(f1, v)], upd_same, ?_, ?_, ?_⟩⟩⟩
      · rw [upd_ne hn, upd_same]
      · rw [upd_ne hn] at hd; exact hd
      · rw [upd_ne hn] at hd
        have k : ∀ b o, H1 b = some o → (upd (del (upd (upd (upd H1 a (exo a C none)) dx (exd dx [(f1, v)])) a (exo a C (some dx))) a) dx (.xd [(f1, v)])) b = some o := fun b o hb => by
          rw [upd_ne (ne_of_none hb hd), del_ne (ne_of_none hb hna), upd_ne (ne_of_none hb hna), upd_ne (ne_of_none hb hd), upd_ne (ne_of_none hb hna)]
          exact hb
        obtain ⟨h1, h2⟩ := hr_exc r1.hr k
        exact q1 _ _ σ _ _ h2 h1 (r1.sr.ext h2) ⟨C, dx, _, g, rfl, rfl, r1.hr.notin hd, upd_same, v, [], rfl, rv.ext h2, rfl⟩
    · obtain ⟨z1, z2, rfl⟩ : ∃ a b, xs = [a, b] := by
        match xs, hl with
        | [a, b], _ => exact ⟨a, b, rfl⟩
      obtain ⟨v, u, rfl, rv, ru⟩ := rvs.two
      refine ⟨by simp, fun a hna => ⟨a, v, u, rfl, upd_same, fun dx hd hn => ⟨rfl, dx, [(f2, u), (f1, v)], ?_, upd_same, ?_, ?_⟩⟩⟩
      · rw [upd_ne (Ne.symm hn), upd_same]
      · rw [upd_ne hn] at hd; exact hd
      · rw [upd_ne hn] at hd
        have k : ∀ b o, H1 b = some o → (upd (del (upd (upd (upd (upd H1 a (exo a C none)) dx (exd dx [(f1, v)])) a (exo a C (some dx))) dx (exd dx [(f2, u), (f1, v)])) a) dx (.xd [(f2, u), (f1, v)])) b = some o := fun b o hb => by
          rw [upd_ne (ne_of_none hb hd), del_ne (ne_of_none hb hna), upd_ne (ne_of_none hb hd), upd_ne (ne_of_none hb hna), upd_ne (ne_of_none hb hd), upd_ne (ne_of_none hb hna)]
          exact hb
        obtain ⟨h1, h2⟩ := hr_exc r1.hr k
        exact q1 _ _ σ _ _ h2 h1 (r1.sr.ext h2) ⟨C, dx, _, g, rfl, rfl, r1.hr.notin hd, upd_same, u, _, rfl, ru.ext h2, v, [], rfl, rv.ext h2, rfl⟩
  · exact q1.elim
end
section
variable {s : Lo} {h : MH}
def KRa (r : Rz (List MV)) (s : Lo) (c : String) (fs : List Str) : SR := r.bnS s fun xs h1 => if xs.length = fs.length then .err ⟨c, (fs.zip xs).reverse⟩ s h1 else .no
@[simp] theorem sRaise_ev {c fs ms} : sRaise c fs ms s h = KRa (ms s h) s c fs := rfl
@[simp] theorem KRa_ok {xs c fs} : KRa (.ok xs h) s c fs = if xs.length = fs.length then .err ⟨c, (fs.zip xs).reverse⟩ s h else .no := rfl
end
end Mo
namespace Mo
open PySem L2
structure XA where
  a : Nat
  d : Nat
  c : String
def finT (i : Nat) : SR → SR
  | .nx s h => .nx (s.set i none) h
  | .bk s h => .bk (s.set i none) h
  | .ct s h => .ct (s.set i none) h
  | .rt v h => .rt v h
  | _ => .no
def finO : SR → SR
  | .err _ _ _ => .no
  | r => r
open Classical in
noncomputable def sUni (f : Nat → Nat → SR) : SR := if h : ∃ r, ∀ a d, f a d = r then h.choose else .no
theorem sUni_ok {f : Nat → Nat → SR} {r : SR} (h : sUni f = r) (hr : r ≠ .no) (a d : Nat) : f a d = r := by
  unfold sUni at h
  split at h
  · rename_i hx; rw [← h]; exact hx.choose_spec a d
  · exact absurd h.symm hr
@[simp] theorem sUni_const {r : SR} : sUni (fun _ _ => r) = r := by
  unfold sUni
  have hx : ∃ q, ∀ a d : Nat, (fun _ _ => r : Nat → Nat → SR) a d = q := ⟨r, fun _ _ => rfl⟩
  rw [dif_pos hx]
  exact (hx.choose_spec 0 0).symm
noncomputable def KTry (xt : String → Option Bool) (i : Nat) (su : XA → MS) : SR → SR
  | .err e s h => match xt e.c with
    | some true => sUni fun a d => finT i (su ⟨a, d, e.c⟩ (s.set i (some (.exa a d h.length))) (h ++ [.xd e.c e.fs]))
    | some false => .err e s h
    | none => .no
  | r => r
noncomputable def sTry (b : MS) (xt : String → Option Bool) (i : Nat) (su : XA → MS) : MS := fun s h => KTry xt i su (b s h)
noncomputable def KTryO (xt : String → Option Bool) (su : MS) : SR → SR
  | .err e s h => match xt e.c with
    | some true => finO (su s h)
    | some false => .err e s h
    | none => .no
  | r => r
noncomputable def sTryO (b : MS) (xt : String → Option Bool) (su : MS) : MS := fun s h => KTryO xt su (b s h)
structure ExmOk (K : PySem.W.Frag) (G : String → Option V) (cv : Value) (xt : String → Option Bool) : Prop where
  ok : ∀ c b C, xt c = some b → G c = some (.ref C) → PySem.W.exmOne K (.ref C) cv = some b
abbrev noW : WX := fun _ _ _ _ => False
section
variable {K : PySem.W.Frag} {G : String → Option V} {ρ : List Addr} {H : Hp} {mh : MH}
theorem HR.add {a : Addr} {o : MO} (h : HR K G ρ H mh) (hn : a ∉ ρ) (new : OR K G ρ H a o) : HR K G (ρ ++ [a]) H (mh ++ [o]) ∧ Ext K ρ H (ρ ++ [a]) H := by
  have x : Ext K ρ H (ρ ++ [a]) H := ⟨⟨[a], rfl⟩, fun _ _ q => q, fun _ _ q => q⟩
  refine ⟨⟨by simp [h.len], ?_, fun i u e => ?_⟩, x⟩
  · rw [List.nodup_append]
    refine ⟨h.nd, by simp, fun b hb c hc e => ?_⟩
    simp only [List.mem_singleton] at hc
    subst hc; subst e
    exact hn hb
  · by_cases hi : i < mh.length
    · rw [List.getElem?_append_left hi] at e
      obtain ⟨b, hb, q⟩ := h.obj i u e
      exact ⟨b, x.at hb, q.keep x fun _ z => z⟩
    · have hi' : i = mh.length := by
        have := (List.getElem?_eq_some_iff.mp e).1
        simp at this
        omega
      subst hi'
      rw [List.getElem?_append_right (Nat.le_refl _)] at e
      simp at e
      subst e
      refine ⟨a, ?_, new.keep x fun _ z => z⟩
      rw [← h.len, List.getElem?_append_right (Nat.le_refl _)]
      simp
theorem SRl.gone {s : Lo} {σ : St} {i : Nat} (h : SRl K G ρ H s σ) : SRl K G ρ H (s.set i none) (σ.set i none) := by
  refine ⟨by simp [h.1], fun j x e => ?_⟩
  by_cases hj : i = j
  · subst hj
    by_cases hl : i < s.length
    · rw [List.getElem?_set_self hl] at e; cases e
    · rw [List.getElem?_eq_none (by simp; omega)] at e; cases e
  · rw [List.getElem?_set_ne hj] at e
    obtain ⟨w, a, b⟩ := h.2 j x e
    exact ⟨w, by rw [List.getElem?_set_ne hj]; exact a, b⟩
end
section
variable {X : Cx} {G : String → Option V} {W : WX} {sts body suite : List Stmt} {b₀ : Stmt} {st : Stmt} {xt : String → Option Bool} {i : Nat} {x n : Str} {c : Value} {np pos pos' : Pos} {b : MS} {su : XA → MS} {so : MS}
theorem pss_ex {ι : Sort _} {t : ι → TS} (h : ∀ j, PSs X sts (t j)) : PSs X sts (fun D σ H => ∃ j, t j D σ H) :=
  ⟨fun pins s σ H D I ⟨j, q⟩ => (h j).run pins s σ H D I q⟩
theorem pss_and {p : Prop} {t : TS} (h : p → PSs X sts t) : PSs X sts (fun D σ H => p ∧ t D σ H) :=
  ⟨fun pins s σ H D I ⟨hp, q⟩ => (h hp).run pins s σ H D I q⟩
structure Held (X : Cx) (G : String → Option V) (xt : String → Option Bool) (y : XA) (cls : Value) (d : Option Addr) (C : Addr) : Prop where
  g : G y.c = some (.ref C)
  cls : cls = .ref C
  d : d = some y.d
  xt : xt y.c = some true
def tSu (X : Cx) (G : String → Option V) (xt : String → Option Bool) (su : XA → MS) (a : Addr) (cls : Value) (d : Option Addr) : TS := fun D σ H =>
  ∃ (y : XA) (C : Addr), (y.a = a ∧ Held X G xt y cls d C) ∧ RS X.K G noW (su y) D σ H
end
def xdAt (y : XA) (v : MV) (h : MH) : Option (List (Str × MV)) := match v with
  | .exa a d k => if a = y.a ∧ d = y.d then match h[k]? with
    | some (.xd c fs) => if c = y.c then some fs else none
    | _ => none else none
  | _ => none
def KXf (y : XA) (f : Str) (v : MV) (h : MH) : Rz MV := match xdAt y v h with
  | some fs => match fs.lookup f with
    | some u => .ok u h
    | none => .no
  | none => .no
def eXf (y : XA) (m : ME) (f : Str) : ME := fun s h => (m s h).bnd (KXf y f)
structure XfOk (K : PySem.W.Frag) (G : String → Option V) (xt : String → Option Bool) (f : Str) : Prop where
  ok : ∀ c C, xt c = some true → G c = some (.ref C) → XfC K C ∧ PySem.W.findIn K (.ref C) f = some none
structure XiOk (K : PySem.W.Frag) (G : String → Option V) (own : Own) : Prop where
  gref : ∀ s v, G s = some v → ∃ C, v = .ref C
  ok : ∀ c t b C cv, isiM own (.glo c) t = some b → G c = some (.ref C) → clsV G t = some cv → PySem.W.kitOne K (.ref C) cv = some b ∧ L2.ExcC K C
section
variable {X : Cx} {G : String → Option V} {y : XA} {oe : Obj} {cls : Value} {d : Option Addr} {C : Addr} {pn : List (Addr × Obj)} {xt : String → Option Bool} {own : Own} {e : Expr} {es : List Expr} {m : ME} {ms : MEs} {f x : Str} {p pos : Pos}
end
section
variable {s : Lo} {h : MH} {y : XA}
@[simp] theorem sTry_ev {b xt i su} : sTry b xt i su s h = KTry xt i su (b s h) := rfl
@[simp] theorem sTryO_ev {b xt su} : sTryO b xt su s h = KTryO xt su (b s h) := rfl
@[simp] theorem KTry_nx {xt i su} : KTry xt i su (.nx s h) = .nx s h := rfl
@[simp] theorem KTry_rt {xt i su v} : KTry xt i su (.rt v h) = .rt v h := rfl
@[simp] theorem KTryO_nx {xt su} : KTryO xt su (.nx s h) = .nx s h := rfl
@[simp] theorem KTryO_rt {xt su v} : KTryO xt su (.rt v h) = .rt v h := rfl
@[simp] theorem finT_nx {i} : finT i (.nx s h) = .nx (s.set i none) h := rfl
@[simp] theorem finT_rt {i v} : finT i (.rt v h) = .rt v h := rfl
@[simp] theorem finO_nx : finO (.nx s h) = .nx s h := rfl
@[simp] theorem finO_rt {v} : finO (.rt v h) = .rt v h := rfl
@[simp] theorem eXf_ev {m f} : eXf y m f s h = (m s h).bnd (KXf y f) := rfl
end
end Mo
namespace Mo
open PySem L2
def wipeM (s : Lo) : List Nat → Lo
  | [] => s
  | v :: vs => (wipeM s vs).set v none
def Rz.bdN {α β : Type} (r : Rz α) (k : α → MH → Rz β) : Rz β := match r with
  | .ok v h => k v h
  | _ => .no
def putLc (k : Nat) (y : MV) (h : MH) : Option MH := match h[k]? with
  | some (.lst acc) => if acc.length < SZ then some (h.set k (.lst (acc ++ [y]))) else none
  | _ => none
def lcG (get : Itm) (g : MG) (c : MB) (m : ME) (k : Nat) : Nat → Nat → Lo → MH → Rz MV
  | 0, _, _, _ => .no
  | n + 1, i, s, h => match get i h with
    | none => .no
    | some none => .ok (.ref k) h
    | some (some x) => match g x s with
      | none => .no
      | some s1 => (c s1 h).bdN fun b h1 => if b = true then (m s1 h1).bdN fun y h2 => match putLc k y h2 with
          | some h3 => lcG get g c m k n (i + 1) s h3
          | none => .no
        else lcG get g c m k n (i + 1) s h1
def bYes : MB := fun _ h => .ok true h
def lcV (g : MG) (c : MB) (m : ME) (s : Lo) (v : MV) (h : MH) : Rz MV := match v with
  | .str z => lcG (getL (chars z)) g c m h.length (z.length + 1) 0 s (h ++ [.lst []])
  | v => match asT v with
    | some xs => lcG (getL xs) g c m h.length (xs.length + 1) 0 s (h ++ [.lst []])
    | none => match seqOf h v with
      | some xs => lcG (getSeq v) g c m h.length (xs.length + 1) 0 s (h ++ [.lst []])
      | none => .no
def eLc (it : ME) (g : MG) (c : MB) (m : ME) (vs : List Nat) : ME := fun s h => (it s h).bnd fun v h1 => lcV g c m (wipeM s vs) v h1
def GW (K : PySem.W.Frag) (G : String → Option V) (t : TG) (g : MG) (us : List Nat) : Prop :=
  ∀ {ρ : List Addr} {H : Hp} {sm s1 : Lo} {σ : St} {x : MV} {v : V} {mh : MH} {Q : St → Hp → Prop}, HR K G ρ H mh → SRl K G ρ H sm σ → VR K G ρ H x v → g x sm = some s1 → (∀ σ1, SRl K G ρ H s1 σ1 → wipe σ1 us = wipe σ us → Q σ1 H) → t v σ H Q
def GWs (K : PySem.W.Frag) (G : String → Option V) (t : TGs) (is us : List Nat) : Prop :=
  ∀ {ρ : List Addr} {H : Hp} {sm s1 : Lo} {σ : St} {xs : List MV} {vs : List V} {mh : MH} {Q : St → Hp → Prop}, HR K G ρ H mh → SRl K G ρ H sm σ → VRs K G ρ H xs vs → setAll is xs sm = some s1 → (∀ σ1, SRl K G ρ H s1 σ1 → wipe σ1 us = wipe σ us → Q σ1 H) → t vs σ H Q
section
variable {K : PySem.W.Frag} {G : String → Option V} {W : WX}
theorem wipe_get (σ : St) (j : Nat) : ∀ us : List Nat, (wipe σ us)[j]? = if j ∈ us ∧ j < σ.length then some none else σ[j]?
  | [] => by simp [wipe]
  | v :: us => by
    unfold wipe
    have ih := wipe_get σ j us
    by_cases e : v = j
    · subst e
      by_cases hl : v < σ.length
      · rw [List.getElem?_set_self (by rw [wipe_length]; exact hl)]
        simp [hl]
      · rw [List.getElem?_eq_none (by simp [wipe_length]; omega)]
        simp [hl]
    · rw [List.getElem?_set_ne e, ih]
      have : (j ∈ v :: us) ↔ j ∈ us := by simp [Ne.symm e]
      simp only [this]
theorem wipe_set {σ : St} {i : Nat} {v : Option V} {us : List Nat} (hi : i ∈ us) : wipe (σ.set i v) us = wipe σ us := by
  apply List.ext_getElem?
  intro j
  rw [wipe_get, wipe_get]
  simp only [List.length_set]
  by_cases e : i = j
  · subst e
    by_cases hl : i < σ.length
    · simp [hi, hl]
    · have h1 : σ[i]? = none := List.getElem?_eq_none (by omega)
      have h2 : (σ.set i v)[i]? = none := List.getElem?_eq_none (by simp; omega)
      simp [hl]
  · rw [List.getElem?_set_ne e]
theorem wipe_wipe {σ : St} {us : List Nat} : wipe (wipe σ us) us = wipe σ us := by
  apply List.ext_getElem?
  intro j
  rw [wipe_get, wipe_get, wipe_length]
  by_cases h : j ∈ us ∧ j < σ.length <;> simp [h]
theorem SRl.wipe {ρ : List Addr} {H : Hp} {s : Lo} {σ : St} (h : SRl K G ρ H s σ) : ∀ us : List Nat, SRl K G ρ H (wipeM s us) (L2.wipe σ us)
  | [] => h
  | v :: us => (SRl.wipe h us).gone
theorem gw_name {i : Nat} {us : List Nat} (hi : i ∈ us) : GW K G (gName i) (gN i) us := by
  intro ρ H sm s1 σ x v mh Q hr sr rv e k
  cases e
  exact k _ (sr.set rv) (wipe_set hi)
theorem gws_nil {us : List Nat} : GWs K G gNil [] us := by
  intro ρ H sm s1 σ xs vs mh Q hr sr rvs e k
  cases xs with
  | nil => simp only [VRs] at rvs; subst rvs; cases e; exact ⟨rfl, k _ sr rfl⟩
  | cons x xs => cases e
theorem gws_cons {i : Nat} {is us : List Nat} {u : TGs} (hi : i ∈ us) (h : GWs K G u is us) : GWs K G (gCons (gName i) u) (i :: is) us := by
  intro ρ H sm s1 σ xs vs mh Q hr sr rvs e k
  cases xs with
  | nil => cases e
  | cons x xs =>
    simp only [VRs] at rvs
    obtain ⟨v, r, rfl, q, t⟩ := rvs
    exact ⟨v, r, rfl, h hr (sr.set q) t e fun σ1 s1 e1 => k σ1 s1 (e1.trans (wipe_set hi))⟩
theorem gw_tup {is us : List Nat} {u : TGs} (h : GWs K G u is us) : GW K G (gTup K is.length u) (gT is) us := by
  intro ρ H sm s1 σ x v mh Q hr sr rv e k
  unfold gT at e
  cases e1 : asT x with
  | none => rw [e1] at e; cases e
  | some xs =>
    rw [e1] at e
    have e' : setAll is xs sm = some s1 := e
    obtain ⟨a, vs, rfl, h1, h2⟩ := rv.tup e1
    exact ⟨a, vs, rfl, h1, by rw [← h2.length, setAll_len e'], h hr sr h2 e' k⟩
theorem lc_sim {ρ0 ρ : List Addr} {H0 H : Hp} {J : It} {get : Itm} {t : TG} {g : MG} {c : MB} {m : ME} {us : List Nat} {n : Nat} {sm : Lo} {σ : St} {mh : MH} {Q : VK} {D : Addr} (T : ItS K G ρ0 H0 J get) (hg : GW K G t g us) (x0 : Ext K ρ0 H0 ρ H) (r0 : Rl K G ρ H sm σ mh)
    (hD : H D = none) (h : RO K G W σ (PV K G Q) ρ H (lcG get g c m mh.length n 0 (wipeM sm us) (mh ++ [.lst []]))) :
    ∃ W' : Nat → Nat → Hp → Prop, (∃ q, W' 0 q (upd H D (.lst []))) ∧ ∀ i q H, W' i q H →
      (J.stop i H ∧ Q (.ref D) H) ∨ (J.go i H ∧ ∃ Nx : Hp → Prop, (∀ H', Nx H' → ∃ m', m' < q ∧ W' (i + 1) m' H') ∧ ∀ x H', J.yld i H x H' → t x (wipe σ us) H' fun σ2 H2 => wipe σ2 us = wipe σ us ∧ RT K G noW c σ2 H2 fun b H3 =>
        if b = true then RE K G noW m σ2 H3 fun y H4 => ∃ acc, H4 D = some (.lst acc) ∧ acc.length < sizeLine ∧ Nx (upd H4 D (.lst (acc ++ [y]))) else Nx H3) := by
  let P : Nat → Nat → Hp → Prop := fun i q H => ∃ ρ mh', Ext K ρ0 H0 ρ H ∧ HR K G ρ H mh' ∧ ρ[mh.length]? = some D ∧ SRl K G ρ H (wipeM sm us) (wipe σ us) ∧ RO K G W σ (PV K G Q) ρ H (lcG get g c m mh.length q i (wipeM sm us) mh')
  refine ⟨P, ⟨n, ?_⟩, ?_⟩
  · obtain ⟨h1, x1⟩ := r0.hr.new (u := .lst []) (o := .lst []) hD ⟨[], upd_same, VRs.nil⟩
    exact ⟨ρ ++ [D], mh ++ [.lst []], x0.trans x1, h1, by rw [← r0.hr.len, List.getElem?_append_right (Nat.le_refl _)]; simp, (r0.sr.wipe us).ext x1, h.ext x1⟩
  rintro i q H1 ⟨ρ1, mh1, x, hr, hk, sr, q1⟩
  cases q with
  | zero => exact False.elim q1
  | succ q =>
    unfold lcG at q1
    cases e : get i mh1 with
    | none => rw [e] at q1; exact False.elim q1
    | some o =>
      rw [e] at q1
      cases o with
      | none => exact .inl ⟨T.stop x hr e, RO.ok (P := PV K G Q) q1 hr _ (by simp only [VR]; exact ⟨D, rfl, hk⟩)⟩
      | some v =>
        refine .inr ⟨T.go x hr e, fun H' => P (i + 1) q H', fun H' z => ⟨q, Nat.lt_succ_self _, z⟩, fun y H' hy => ?_⟩
        obtain ⟨ρ', x', hr', rv⟩ := T.yld x hr e hy
        dsimp only at q1
        cases e2 : g v (wipeM sm us) with
        | none => rw [e2] at q1; exact False.elim q1
        | some s1 =>
          rw [e2] at q1
          refine hg hr' (sr.ext x') rv e2 fun σ1 sr1 w1 => ⟨w1.trans wipe_wipe, ρ', s1, mh1, ⟨hr', sr1⟩, ?_⟩
          dsimp only at q1
          cases e3 : c s1 mh1 with
          | no => rw [e3] at q1; exact False.elim q1
          | err z m1 => rw [e3] at q1; exact False.elim q1
          | ok b mh2 =>
            rw [e3] at q1
            dsimp only [Rz.bdN] at q1
            intro ρ2 H2 x2 hr2
            have xx := x'.trans x2
            cases b with
            | false =>
              rw [if_neg Bool.false_ne_true] at q1
              dsimp only [PB]
              rw [if_neg Bool.false_ne_true]
              exact ⟨ρ2, mh2, x.trans xx, hr2, xx.at hk, sr.ext xx, q1.ext xx⟩
            | true =>
              rw [if_pos rfl] at q1
              dsimp only [PB]
              rw [if_pos rfl]
              refine ⟨ρ2, s1, mh2, ⟨hr2, sr1.ext x2⟩, ?_⟩
              cases e4 : m s1 mh2 with
              | no => rw [e4] at q1; exact False.elim q1
              | err z m1 => rw [e4] at q1; exact False.elim q1
              | ok u mh3 =>
                rw [e4] at q1
                dsimp only at q1
                intro ρ3 H3 x3 hr3 u1 ru
                have x4 := xx.trans x3
                unfold putLc at q1
                split at q1
                · rename_i h4 e5
                  split at e5
                  · rename_i acc e6
                    split at e5
                    · rename_i hl
                      cases e5
                      obtain ⟨vs, g1, g2⟩ := hr3.get e6 (x4.at hk)
                      refine ⟨vs, g1, by rw [SZ_eq, ← g2.length]; exact hl, ?_⟩
                      obtain ⟨w1, w2⟩ := hr3.write (u := .lst (vs ++ [u1])) (o1 := .lst (acc ++ [u])) e6 (x4.at hk) ⟨_, upd_same, (g2.append (VRs.cons ru VRs.nil)).ext (ext_write g1 (by simp [Plain]))⟩
                      have x5 := x4.trans w2
                      exact ⟨ρ3, _, x.trans x5, w1, x5.at hk, sr.ext x5, q1.ext x5⟩
                    · cases e5
                  · cases e5
                · exact False.elim q1
end
section
variable {X : Cx} {G : String → Option V} {W : WX} {elt tg iter a b' : Expr} {ifs : List Expr} {scope : Scope} {own : List (Str × Nat)} {pos spos p cpos : Pos} {mi m : ME} {ms : MEs} {c : MB} {t : TG} {g : MG}
theorem takes_no : Takes X noW := fun u s' h => by
  obtain ⟨a, B, sI, pins, σ, H, cls, d, h⟩ := h
  exact (h.2.2.2.2.2.2.2.2).elim
theorem m_tests0 : PTs X [] (RT X.K G noW bYes) := ⟨fun pins s σ H Q I ⟨ρ, sm, mh, r, q⟩ => pts_nil.run pins s σ H Q I (RO.ok (P := PB Q) q r.hr)⟩
theorem m_tests1 {e : Expr} (h : PT X e (RT X.K G noW c)) : PTs X [e] (RT X.K G noW c) := pts_one h
theorem lc_re {us : List Nat} (hgw : GW X.K G t g us) (σ : St) (H : Hp) (Q : VK) (h : RE X.K G W (eLc mi g c m us) σ H Q) :
    tLc (iList X.K (RE X.K G W mi)) t (RT X.K G noW c) (RE X.K G noW m) us σ H Q ∨ tLc (iTup X.K (RE X.K G W mi)) t (RT X.K G noW c) (RE X.K G noW m) us σ H Q ∨ tLc (iStr (RE X.K G W mi)) t (RT X.K G noW c) (RE X.K G noW m) us σ H Q := by
  obtain ⟨ρ, sm, mh, r, q⟩ := h
  unfold eLc at q
  cases e : mi sm mh with
  | no => rw [e] at q; exact False.elim q
  | err v m1 =>
    rw [e] at q
    refine .inl ⟨ρ, sm, mh, r, ?_⟩
    rw [e]
    exact q
  | ok v m1 =>
    have run : ∀ {Q : VK}, (∀ ρ1 H1 w, Ext X.K ρ H ρ1 H1 → Rl X.K G ρ1 H1 sm σ m1 → VR X.K G ρ1 H1 v w → Q w H1) → RE X.K G W mi σ H Q := fun {Q} k => by
      refine ⟨ρ, sm, mh, r, ?_⟩
      rw [e]
      exact fun ρ1 H1 x hr w rv => k ρ1 H1 w x (r.at x hr) rv
    rw [e] at q
    dsimp only [Rz.bnd, lcV] at q
    split at q
    · rename_i z
      refine .inr (.inr (run fun ρ1 H1 w x1 r1 rv => ?_))
      simp only [VR] at rv
      subst rv
      exact ⟨z, rfl, fun D hD => lc_sim its_str hgw (Ext.refl (ρ := ρ1)) r1 hD (RO.ext q x1)⟩
    · split at q
      · rename_i xs hx
        refine .inr (.inl (run fun ρ1 H1 w x1 r1 rv => ?_))
        obtain ⟨a, vs, rfl, h1, h2⟩ := rv.tup hx
        exact ⟨a, rfl, ⟨vs, h1⟩, fun D hD => lc_sim (its_tup rv hx) hgw (Ext.refl (ρ := ρ1)) r1 hD (RO.ext q x1)⟩
      · rename_i hx
        split at q
        · rename_i xs hq
          refine .inl (run fun ρ1 H1 w x1 r1 rv => ?_)
          obtain ⟨a, vs, rfl, h1, h2⟩ := seq_V r1.hr hq rv
          refine ⟨a, rfl, ?_, fun D hD => lc_sim (its_list rv hx) hgw (Ext.refl (ρ := ρ1)) r1 hD (RO.ext q x1)⟩
          rcases h1 with h1 | h1
          · exact ⟨vs, h1⟩
          · have z : ∃ vs, SqL X.K H1 a vs := by
              cases v with
              | ref i =>
                simp only [seqOf] at hq
                split at hq
                · rename_i q2
                  obtain ⟨b, ws, e1, _, h3, _⟩ := r1.hr.lst q2 rv
                  cases e1
                  exact ⟨ws, SqL.of h3⟩
                · cases hq
              | frl ys =>
                simp only [VR] at rv
                obtain ⟨b, ws, e1, h3, _⟩ := rv
                cases e1
                exact ⟨ws, h3.sq⟩
              | tup _ => simp [asT] at hx
              | ktp _ => simp [asT] at hx
              | _ => simp [seqOf] at hq
            exact z
        · exact False.elim q
abbrev InBlk (X : Cx) (scope : Scope) (p : Cx → Prop) : Prop := ∀ (s : Shared) (H : Hp) (C : Addr) (cl : List (Str × Addr)) (fp : List Addr), p (X.blk s H scope (compEnvC scope cl C X.env) fp)
theorem m_lc (hc : X.calm = true) (hN : X.N.Nodup) (ok : BlkOk X.N X.env.scope scope own) (hi : PE X iter (RE X.K G W mi)) (hgw : GW X.K G t g (own.map (·.2)))
    (hg : InBlk X scope fun Y => PG Y tg t) (ht : InBlk X scope fun Y => PTs Y ifs (RT X.K G noW c)) (he : InBlk X scope fun Y => PE Y elt (RE X.K G noW m)) (hs : ∀ x, foldedSetIterable iter X.env x = pure x := by intro _; rfl) :
    PE X (.ListComp elt [⟨tg, iter, ifs, 0⟩] scope pos) (RE X.K G W (eLc mi g c m (own.map (·.2)))) :=
  pe_imp (pe_alt (pe_lc hc hN (pi_list hi) ok hg ht he hs) (pe_alt (pe_lc hc hN (pi_tup hi) ok hg ht he hs) (pe_lc hc hN (pi_str hi) ok hg ht he hs))) fun σ H Q h => lc_re hgw σ H Q h
theorem m_setLc {i : Nat} {y : Str} {py : Pos} (hc : X.calm = true) (hN : X.N.Nodup) (hy : X.N[i]? = some y) (hyl : X.env.scope.names.lookup y = some .local) (hsw : swapsWith (.ListComp elt [⟨tg, iter, ifs, 0⟩] scope pos) (some (.Name y py)) spos.line X.env = pure true)
    (ok : BlkOk X.N X.env.scope scope own) (hi : PE X iter (RE X.K G W mi)) (hgw : GW X.K G t g (own.map (·.2)))
    (hg : InBlk X scope fun Y => PG Y tg t) (ht : InBlk X scope fun Y => PTs Y ifs (RT X.K G noW c)) (he : InBlk X scope fun Y => PE Y elt (RE X.K G noW m)) (hs : ∀ x, foldedSetIterable iter X.env x = pure x := by intro _; rfl) :
    PS X (.Assign [.Name y py] (.ListComp elt [⟨tg, iter, ifs, 0⟩] scope pos) spos) (RS X.K G W (sAsg (eLc mi g c m (own.map (·.2))) (gN i))) :=
  ps_imp (ps_alt (ps_setLc hc hN hy hyl hsw (pi_list hi) ok hg ht he hs) (ps_alt (ps_setLc hc hN hy hyl hsw (pi_tup hi) ok hg ht he hs) (ps_setLc hc hN hy hyl hsw (pi_str hi) ok hg ht he hs)))
    fun D σ H h => asg_re gs_name (te := fun σ H Q => tLc (iList X.K (RE X.K G W mi)) t (RT X.K G noW c) (RE X.K G noW m) (own.map fun y : Str × Nat => y.2) σ H Q ∨ tLc (iTup X.K (RE X.K G W mi)) t (RT X.K G noW c) (RE X.K G noW m) (own.map fun y : Str × Nat => y.2) σ H Q ∨ tLc (iStr (RE X.K G W mi)) t (RT X.K G noW c) (RE X.K G noW m) (own.map fun y : Str × Nat => y.2) σ H Q) (fun σ H Q h => lc_re hgw σ H Q h) D σ H h
end
section
variable {s : Lo} {h : MH} {get : Itm} {g : MG} {c : MB} {m : ME}
def KCo (r : Rz MV) (g : MG) (c : MB) (m : ME) (s : Lo) : Rz MV := r.bnd (lcV g c m s)
theorem eLc_ev {it us} : eLc it g c m us s h = KCo (it s h) g c m (wipeM s us) := rfl
theorem KCo_ok {v} : KCo (.ok v h) g c m s = lcV g c m s v h := rfl
theorem lcV_ref {i xs} (e : seqOf h (.ref i) = some xs) : lcV g c m s (.ref i) h = lcG (getSeq (.ref i)) g c m h.length (xs.length + 1) 0 s (h ++ [.lst []]) := by
  unfold lcV
  simp only [asT, e]
theorem lcG_run {xs : List MV} {f : MV → MV} {p : MV → Bool} (hl : xs.length ≤ SZ) (hget : ∀ i acc, i ≤ xs.length → get i (h ++ [.lst acc]) = some xs[i]?)
    (hstep : ∀ x ∈ xs, ∃ s1, g x s = some s1 ∧ ∀ acc, c s1 (h ++ [.lst acc]) = .ok (p x) (h ++ [.lst acc]) ∧ (p x = true → m s1 (h ++ [.lst acc]) = .ok (f x) (h ++ [.lst acc]))) :
    lcG get g c m h.length (xs.length + 1) 0 s (h ++ [.lst []]) = .ok (.ref h.length) (h ++ [.lst ((xs.filter p).map f)]) := by
  have key : ∀ k i, i + k = xs.length → lcG get g c m h.length (k + 1) i s (h ++ [.lst (((xs.take i).filter p).map f)]) = .ok (.ref h.length) (h ++ [.lst ((xs.filter p).map f)]) := by
    intro k
    induction k with
    | zero =>
      intro i hi
      have hi' : i = xs.length := by omega
      subst hi'
      unfold lcG
      rw [hget _ _ (Nat.le_refl _)]
      simp
    | succ k ih =>
      intro i hi
      have hlt : i < xs.length := by omega
      unfold lcG
      rw [hget _ _ (by omega), List.getElem?_eq_getElem hlt]
      obtain ⟨s1, e1, e2⟩ := hstep xs[i] (List.getElem_mem hlt)
      obtain ⟨e3, e4⟩ := e2 (((xs.take i).filter p).map f)
      have ht : xs.take (i + 1) = xs.take i ++ [xs[i]] := by rw [List.take_succ, List.getElem?_eq_getElem hlt]; rfl
      have n := ih (i + 1) (by omega)
      rw [ht, List.filter_append, List.map_append] at n
      simp only [e1, e3, Rz.bdN]
      cases hp : p xs[i] with
      | false =>
        simp only [List.filter_cons, hp, List.filter_nil] at n
        simpa using n
      | true =>
        simp only [List.filter_cons, hp, List.filter_nil] at n
        rw [if_pos rfl, e4 hp]
        have hle : (((xs.take i).filter p).map f).length < SZ := by
          rw [List.length_map]
          have := List.length_filter_le p (xs.take i)
          rw [List.length_take] at this
          omega
        have hput : putLc h.length (f xs[i]) (h ++ [.lst (((xs.take i).filter p).map f)]) = some (h ++ [.lst (((xs.take i).filter p).map f ++ [f xs[i]])]) := by
          unfold putLc
          rw [List.getElem?_append_right (Nat.le_refl _)]
          simp only [Nat.sub_self, List.getElem?_cons_zero, if_pos hle]
          simp [List.set_append_right]
        simp only [hput]
        simpa using n
  have := key xs.length 0 (by omega)
  simpa using this
theorem lcS_run {i : Nat} {xs : List MV} {f : MV → MV} {p : MV → Bool} (hl : xs.length ≤ SZ) (hx : h[i]? = some (.lst xs))
    (hstep : ∀ x ∈ xs, ∃ s1, g x s = some s1 ∧ ∀ acc, c s1 (h ++ [.lst acc]) = .ok (p x) (h ++ [.lst acc]) ∧ (p x = true → m s1 (h ++ [.lst acc]) = .ok (f x) (h ++ [.lst acc]))) :
    lcV g c m s (.ref i) h = .ok (.ref h.length) (h ++ [.lst ((xs.filter p).map f)]) := by
  rw [lcV_ref (xs := xs) (by simp [seqOf, hx])]
  refine lcG_run hl (fun j acc _ => ?_) hstep
  unfold getSeq
  have hlt := (List.getElem?_eq_some_iff.mp hx).1
  simp only [seqOf, List.getElem?_append_left hlt, hx]
  rfl
end
end Mo
namespace Mo
open PySem L2
section
variable {X : Cx} {G : String → Option V} {W : WX} {elt tg a b' : Expr} {ifs : List Expr} {scope : Scope} {own : List (Str × Nat)} {pos spos p cpos py : Pos} {m : ME} {ms : MEs} {c : MB} {t : TG} {g : MG} {i : Nat} {y : Str}
end
section
variable {X : Cx} {G : String → Option V} {W : WX} {e : Expr} {es : List Expr} {mo : ME} {ms : MEs} {x : Str} {p pos : Pos} {k n : Nat} {fa C : Addr} {fd : FuncData} {ps : List Str} {f : MF} {c : String}
end
theorem oex_of {K : PySem.W.Frag} {C : Addr} (h : oexB K C = true) : OexC K C := by
  unfold oexB at h
  obtain ⟨h1, h⟩ := He.ba h
  obtain ⟨h2, h⟩ := He.ba h
  obtain ⟨h3, h⟩ := He.ba h
  obtain ⟨h4, h5⟩ := He.ba h
  refine ⟨?_, of_decide_eq_true h2, of_decide_eq_true h3, of_decide_eq_true h4, h5⟩
  split at h1
  · rename_i t dd cd sl e
    obtain ⟨a1, h1⟩ := He.ba h1
    obtain ⟨a2, h1⟩ := He.ba h1
    obtain ⟨a3, h1⟩ := He.ba h1
    obtain ⟨a4, a5⟩ := He.ba h1
    have a1 := of_decide_eq_true a1
    subst a1
    obtain ⟨nm, bs, mro, ns, qn, hd, sn, sub, ab, col, del⟩ := cd
    dsimp only at a2 a3 a4
    rcases mro with _ | ⟨c0, bm⟩
    · cases a2
    · cases c0 with
      | ref c =>
        obtain ⟨a6, a7⟩ := He.ba a2
        have a6 := of_decide_eq_true a6
        subst a6
        generalize hl : sl.toList = l at a5
        split at a5
        · rename_i k0 k1 k2 k3 k4 k5
          have hs : sl = #[k0, k1, k2, k3, k4, k5] := by rw [← Array.toList_inj, hl]
          subst hs
          have a8 : k4 = some (.builtin "ValueError.__new__") := beq_iff_eq.mp a5
          subst a8 a3
          have a9 : del = false := by simpa using a4
          subst a9
          exact ⟨nm, qn, ns, bs, bm, sn, sub, ab, col, dd, k0, k1, k2, k3, k5, e, a7⟩
        · cases a5
      | _ => cases a2
  · cases h1
def fnC (K : PySem.W.Frag) (f : Addr) (qual : Str) (prm : Arguments) (body : List Stmt) (scope : Scope) : Prop := He5.fnA K f = some (("__init__" : Str), qual, prm, FuncBody.stmts body, scope, mainGlobals, [(("__class__" : Str), ccOf K f)], builtinsNs)
structure ExcI (K : PySem.W.Frag) (fl : Str) (C f : Addr) (qual : Str) (prm : Arguments) (body : List Stmt) (scope : Scope) : Prop where
  lk : ∃ oc od osl kV doc pm an ct, K.lookup f = some ⟨oc, od, .func (PySem.W.ksFn "__init__" qual prm body scope .none kV doc pm an (.ref (cdOf K f)) ct (ccOf K f)), osl⟩
  ini : PySem.W.findIn K (.ref C) "__init__" = some (some (.ref f))
  tI : PySem.W.typeIn K (.ref f) = some (.type "function")
  cd : PySem.W.codeIn K (.ref (cdOf K f)) qual = true
  fil : ∃ cl dd vs sl file tf, K.lookup (cdOf K f) = some ⟨cl, dd, .fields vs, sl⟩ ∧ vs[2]? = some (.str file tf) ∧ (fl == file) = true
  cell : ∃ cl dd sl, K.lookup (ccOf K f) = some ⟨cl, dd, .cell (some (.ref C)), sl⟩
  opq : PySem.W.nsIn K PySem.cStatics "thirdparty.any" = some none
  mro : PySem.W.mroIn K C (.ref C) = some true
  sup : PySem.W.ks_superIn K C C "__init__" = some (some (.builtin "ValueError.__init__"))
  isB : PySem.W.subIn K (.ref C) (.type "ValueError") = some true
theorem exci_of {K : PySem.W.Frag} {fl : Str} {C f : Addr} {qual : Str} {prm : Arguments} {body : List Stmt} {scope : Scope} (e : fnC K f qual prm body scope) (h : supB K fl C f qual = true) : ExcI K fl C f qual prm body scope := by
  unfold supB at h
  obtain ⟨h1, h⟩ := He.ba h
  obtain ⟨h2, h⟩ := He.ba h
  obtain ⟨h3, h⟩ := He.ba h
  obtain ⟨h4, h⟩ := He.ba h
  obtain ⟨h5, h⟩ := He.ba h
  obtain ⟨h6, h⟩ := He.ba h
  obtain ⟨h7, h⟩ := He.ba h
  obtain ⟨h8, h⟩ := He.ba h
  obtain ⟨h9, h10⟩ := He.ba h
  refine ⟨?_, of_decide_eq_true h1, of_decide_eq_true h2, h4, ?_, ?_, of_decide_eq_true h7, of_decide_eq_true h8, of_decide_eq_true h9, of_decide_eq_true h10⟩
  · unfold fnC He5.fnA at e
    split at h3
    · rename_i oc od fd osl q
      rw [q] at e
      obtain ⟨a1, a2⟩ := He.ba h3
      obtain ⟨n1, n2, n3, n4, n5, n6, n7, n8, n9, n10, n11, n12, n13, n14, n15⟩ := fd
      have b1 : n13 = .ref (cdOf K f) := beq_iff_eq.mp a1
      have b2 : n8 = .none := beq_iff_eq.mp a2
      dsimp only at e
      simp only [Option.some.injEq, Prod.mk.injEq] at e
      obtain ⟨rfl, rfl, rfl, rfl, rfl, rfl, e7, rfl⟩ := e
      rw [e7, b1, b2] at q
      exact ⟨oc, od, osl, _, _, _, _, _, q⟩
    · cases h3
  · split at h5
    · rename_i cl dd vs sl q
      split at h5
      · rename_i fi tf q2
        exact ⟨cl, dd, vs, sl, fi, tf, q, q2, h5⟩
      · cases h5
    · cases h5
  · split at h6
    · rename_i cl dd D sl q
      have := of_decide_eq_true h6
      subst this
      exact ⟨cl, dd, sl, q⟩
    · cases h6
structure PFa (P : Program) (fl : Str) : Prop where
  file : P.main.file = fl
  top : (P.main.scope.names.lookup ("super" : Str)).isSome = false
section
variable {P : Program} {w : World} {K : PySem.W.Frag} {mg : Str → Option Value} {base : Heap} {fl qual y1 y2 f1 f2 m : Str} {C f : Addr} {prm : Arguments} {scope : Scope} {c : String} {j : Nat} {p0 p1 p2 p3 p4 p5 q1 q2 q3 q4 q5 q6 q7 q8 : Pos}
theorem supF_of {body : List Stmt} (hP : PFa P fl) (I : ExcI K fl C f qual prm body scope) (ha : ∃ ar : Arg, (prm.posonlyargs ++ prm.args).head? = some ar ∧ ar.arg = "self") (h1 : scope.names.lookup ("super" : Str) = some .globalImplicit) (h2 : scope.names.lookup ("__class__" : Str) = some .free)
    (h3 : scope.names.lookup ("self" : Str) = some .local) (h4 : scope.kind = .function) : SupF P K C (cdOf K f) (ccOf K f) prm scope :=
  ⟨by rw [hP.file]; exact I.fil, I.cell, ha, h1, h2, h3, h4, hP.top, I.opq, I.mro, I.sup, I.isB⟩
theorem rai1 (hP : PFa P fl) (I : ExcI K fl C f qual prm [.Expr (supCall m j p0 p1 p2 p3 p5) p4, .Assign [.Attribute (.Name "self" q1) f1 q2] (.Name y1 q3) q4] scope) (O : OexC K C) (g : gOf K c = some (.ref C)) (hm : mg "super" = none) (hf1 : PySem.W.findIn K (.ref C) f1 = some none)
    (he0 : SupHe m j p0 p1 p2 p3 p5) (S : SupScope ["self", y1] ["self", y1] scope) (ha : ∃ ar : Arg, (prm.posonlyargs ++ prm.args).head? = some ar ∧ ar.arg = "self") (h1 : scope.names.lookup ("super" : Str) = some .globalImplicit) (h2 : scope.names.lookup ("__class__" : Str) = some .free)
    (hb : ∀ (kV doc pm : Value) (an : Option Addr) (cdv ct : Value) (cc : Addr) (us : List Value), us.length = 2 → bindArgs (PySem.W.ksFn "__init__" qual prm [.Expr (supCall m j p0 p1 p2 p3 p5) p4, .Assign [.Attribute (.Name "self" q1) f1 q2] (.Name y1 q3) q4] scope .none kV doc pm an cdv ct cc) ⟨us, []⟩ = pure ([("self" : Str), y1].zip us))
    (d1 : (y1 == ("__debug__" : Str)) = false := by decide) (d2 : (y1 == ("__classdict__" : Str)) = false := by decide) : RaiM P w K mg base (gOf K) c [f1] C := by
  obtain ⟨oc, od, osl, kV, doc, pm, an, ct, lk⟩ := I.lk
  exact ⟨g, O, f, _, _, _, I.ini, I.tI, fn_sup1 he0 (supF_of hP I ha h1 h2 (S.par _ (by simp)) S.kind) O hm hf1 lk I.cd S d1 d2, .all fun us hl => hb _ _ _ _ _ _ _ us hl, .inl ⟨f1, rfl, rfl⟩⟩
end
end Mo
namespace Mo
open PySem L2
section
variable {h : MH} {i j n : Nat} {s : Lo} {v : MV} {xs ys : List MV}
theorem eV_at {k : Nat} (e : s[k]? = some (some v)) : eV k s h = .ok v h := by simp only [eV, e]
theorem mRc_ll (h1 : h[i]? = some (.lst xs)) (h2 : h[j]? = some (.lst ys)) : mRc h (.ref i) (.ref j) = if xs.length = ys.length then eqs (mEq 7 h) xs ys else some false := by
  simp only [mRc, scM, flM, mEqS, asT, lstAt, h1, h2]
  rfl
theorem mEq_ll (h1 : h[i]? = some (.lst xs)) (h2 : h[j]? = some (.lst ys)) : mEq (n + 1) h (.ref i) (.ref j) = if i = j then some true else if xs.length = ys.length then eqs (mEq n h) xs ys else some false := by
  rw [mEq]
  simp only [flM, sameR, mEqS, asT, lstAt, h1, h2, Bool.and_self, Bool.false_eq_true, if_false]
  by_cases e : i = j
  · simp [e]
  · simp [e]
theorem eqs_strs : ∀ a b : List Str, a.length = b.length → eqs (mEq n h) (a.map .str) (b.map .str) = some (decide (a = b))
  | [], [], _ => by simp
  | x :: a, y :: b, e => by
    have := eqs_strs a b (by simpa using e)
    simp only [List.map_cons, eqs_cons, mEq_ss, this, KQ_some, List.cons.injEq]
    congr 1
    by_cases e1 : x = y <;> by_cases e2 : a = b <;> simp [e1, e2]
  | [], _ :: _, e => by simp at e
  | _ :: _, [], e => by simp at e
theorem mRc_strs {a b : List Str} (h1 : h[i]? = some (.lst (a.map .str))) (h2 : h[j]? = some (.lst (b.map .str))) : mRc h (.ref i) (.ref j) = some (decide (a = b)) := by
  rw [mRc_ll h1 h2]
  simp only [List.length_map]
  by_cases e : a.length = b.length
  · rw [if_pos e, eqs_strs a b e]
  · rw [if_neg e, decide_eq_false fun z => e (by rw [z])]
theorem mEq_strs {a b : List Str} (h1 : h[i]? = some (.lst (a.map .str))) (h2 : h[j]? = some (.lst (b.map .str))) : mEq (n + 1) h (.ref i) (.ref j) = some (decide (a = b)) := by
  rw [mEq_ll h1 h2]
  by_cases d : i = j
  · subst d
    rw [h1] at h2
    have e : a.map MV.str = b.map MV.str := by simpa using h2
    have : a = b := List.map_inj_right (f := MV.str) (fun x y z => by simpa using z) |>.mp e
    rw [if_pos rfl, decide_eq_true this]
  · rw [if_neg d]
    simp only [List.length_map]
    by_cases e : a.length = b.length
    · rw [if_pos e, eqs_strs a b e]
    · rw [if_neg e, decide_eq_false fun z => e (by rw [z])]
theorem inL_strs {x : Str} : ∀ a : List Str, inL (fun y => mEq 7 h y (.str x)) (a.map .str) = some (decide (x ∈ a))
  | [] => by simp
  | y :: a => by
    rw [List.map_cons, inL_cons, inL_strs a, mEq_ss, KI_some]
    congr 1
    by_cases e : y = x
    · subst e; simp
    · have : ¬ x = y := fun z => e z.symm
      simp [e, this]
theorem fNotIn_strs {x : Str} {a : List Str} (e : h[i]? = some (.lst (a.map .str))) : fNotInA (.str x) (.ref i) h = some (.bl (!decide (x ∈ a)), h) := by
  unfold fNotInA
  rw [if_neg (by rw [isDM_lst e]; decide), fNotIn_ref e, inL_strs]
  rfl
theorem fNotIn_ktps {x : Str} {a : List Str} : fNotInA (.str x) (.ktp (a.map .str)) h = some (.bl (!decide (x ∈ a)), h) := by
  unfold fNotInA
  rw [if_neg (by simp [isDM]), fNotIn_ktp, inL_strs]
  rfl
end
end Mo
namespace Mo
open PySem L2
theorem app_at {h : MH} {i : Nat} {o : MO} {t : MH} (e : h[i]? = some o) : (h ++ t)[i]? = some o := by
  rw [List.getElem?_append_left (List.getElem?_eq_some_iff.mp e).1]; exact e
structure ItrC (K : PySem.W.Frag) (C fi : Addr) : Prop where
  it : PySem.W.findIn K (.ref C) "__iter__" = some (some (.ref fi))
  itF : PySem.W.isFn K (.ref fi) = true
section
variable {X : Cx} {tg e : Expr} {te : TE} {C fi : Addr} {f : Str} {k : Nat}
end
section
variable {X : Cx} {G : String → Option V} {W : WX} {tg iter e : Expr} {body : List Stmt} {m : ME} {C fi : Addr} {c : String} {f : Str} {k : Nat} {t : TG} {g : MG} {b : MS} {pos : Pos}
end
section
variable {X : Cx} {G : String → Option V} {W : WX} {elt tg iter : Expr} {ifs : List Expr} {scope : Scope} {own : List (Str × Nat)} {pos spos : Pos} {mi m : ME} {c : MB} {t : TG} {g : MG}
end
section
variable {s : Lo} {h : MH} {g : MG} {b : MS} {c : MB} {m : ME}
end
end Mo
namespace Mo
open PySem L2
theorem fLen_ref {h : MH} {i : Nat} {xs : List MV} (e : h[i]? = some (.lst xs)) : fLen [.ref i] h = some (.int xs.length, h) := by simp only [fLen, e]
def fRevL (x : MV) (h : MH) : OV := match x with
  | .ref i => match h[i]? with
    | some (.lst xs) => some (.ref h.length, h ++ [.lst xs.reverse])
    | _ => none
  | _ => none
theorem fRevL_at {h : MH} {i : Nat} {xs : List MV} (e : h[i]? = some (.lst xs)) : fRevL (.ref i) h = some (.ref h.length, h ++ [.lst xs.reverse]) := by simp only [fRevL, e]
section
variable {X : Cx} {G : String → Option V} {W : WX} {e : Expr} {m : ME} {k : Nat} {p1 p2 p3 pos : Pos}
theorem m_revL (he : PE X e (RE X.K G W m)) : PE X (.Subscript e (.Slice none none (some (.UnaryOp .USub (.Constant (.int 1) k p1) p2)) p3) pos) (RE X.K G W (e1 fRevL m)) := by
  refine pe_imp (pe_revL he) fun σ H Q ⟨ρ, sm, mh, r, q⟩ => ?_
  refine re_bnd r q fun x ρ1 H1 mh1 v x1 r1 rv q1 => ?_
  obtain ⟨z, h1, ez, kz⟩ := ro_lift q1
  unfold fRevL at ez
  split at ez
  · split at ez
    · rename_i i xs hx
      cases ez
      obtain ⟨a, vs, rfl, _, h1, h2⟩ := r1.hr.lst hx rv
      refine ⟨a, vs, rfl, SqL.of h1, fun p hp => ?_⟩
      obtain ⟨a1, a2, a3⟩ := new_lst r1.hr h2.reverse hp
      exact kz _ _ a2 a1 _ a3
    · cases ez
  · cases ez
end
end Mo
namespace Mo
open PySem L2
def tDisp1T (tk tv : TE) : TE := fun σ H Q => ∀ p, H p = none → tk σ (upd H p (.dT [])) fun x H1 => tv σ H1 fun y H2 => H2 p = some (.dT []) ∧ ∃ b ks, x = .ref b ∧ H2 b = some (.tup (ks.map kV)) ∧ Q (.ref p) (upd H2 p (.dT [(ks, y)]))
theorem pe_disp1T {X : Cx} {pos : Pos} {k v : Expr} {tk tv : TE} (hu : X.A.units + 1 < cLine) (hk : PE X k tk) (hv : PE X v tv) : PE X (.Dict [some k] [v] pos) (tDisp1T tk tv) := by
  refine ⟨fun pins s σ H Q I q => ?_⟩
  have hn := I.hok.fresh (Nat.le_refl s.heap.objs.size)
  have I1 := I.laid (a := s.heap.objs.size) (o := .dT []) (h' := s.heap.push { cls := .type "dict", data := .dict #[] }) (t' := s.toks) (fun _ _ q => Heap.get?_push_of_some _ q) (Nat.le_refl _) (dt_empty s.heap I.big)
  have hsh := zip_pairTrees [some k] [v] X.env pos (by rfl) (by rfl)
  have hpl := pairTrees_length [some k] [v] X.env pos (by rfl) (by rfl)
  rw [arm_eval_Dict, hsh, dictDisplay_pairs (pairTrees [some k] [v] X.env pos) (fun z => by rw [z] at hpl; cases hpl) (by rw [hpl]; show 1 < 17; decide)]
  have P := pps_cons (X := X) (pos := pos) hk hv pps_nil
  refine wpAny_bind (wpAny_standAt (wpAny_bind (wpAny_subDictH (knd := tupleKind (mixKind X.prog X.w)) (Q := fun d s' => wpAny _ _ (pure (Value.ref d)) _ _ s') (show X.A.units < cLine by omega) (by rw [hpl]; show 1 ≤ 15; decide) ?_)))
  have q' : tPairs [(tk, tv)] σ (upd H s.heap.objs.size (.dT [])) (fun ps H2 => match ps with
      | [(x, y)] => H2 s.heap.objs.size = some (.dT []) ∧ ∃ b ks, x = .ref b ∧ H2 b = some (.tup (ks.map kV)) ∧ Q (.ref s.heap.objs.size) (upd H2 s.heap.objs.size (.dT [(ks, y)]))
      | _ => False) := q _ hn
  refine thn (P.run pins _ σ _ _ I1 q') fun ws s2 ⟨ps, H2, I2, rel, q3⟩ => ?_
  cases rel with
  | nil => exact False.elim q3
  | @cons p0 w0 ps0 ws0 h0 t0 =>
    cases t0 with
    | cons _ _ => exact False.elim q3
    | nil =>
    obtain ⟨x0, y0⟩ := p0
    obtain ⟨e, b, ks, ex, hb, q2⟩ := q3
    obtain ⟨u1, u2⟩ := w0
    obtain ⟨r1, r2⟩ := h0
    subst ex
    cases (show u1 = Value.ref b from r1)
    obtain ⟨z, hd, xs, rx, dd⟩ := dt_of I2.hok e
    cases rx
    refine ⟨[(ks, b, u2)], ⟨rfl, rfl, key_of I2.hok hb, trivial⟩, dd, fun h' tk' dd' hs => wpAny_pure ⟨.ref s.heap.objs.size, _, ?_, rfl, q2⟩⟩
    obtain ⟨qo, es, epp, hq, h2, h3, h4, h5, h6⟩ := dd'
    refine d_write I2 (by rw [e]; exact True.intro) hs ⟨qo, hq⟩ ⟨by rw [sizeLine_eq]; show 1 ≤ 16777216; decide, hd, _, .cons ⟨rfl, ?_, r2⟩ .nil, qo, es, epp, hq, h2, h3, h4, h6⟩
    rw [upd_ne (ne_of hb e (fun z => nomatch z))]
    exact hb
def eDt1 (k v : ME) : ME := fun s h => (k s (h ++ [.dt []])).bnd fun x h1 => (v s h1).bnd fun y h2 => match x, h2[h.length]? with
  | .tup ks, some (.dt []) => match keysM ks with
    | some k => .ok (.ref h.length) (h2.set h.length (.dt [(k, y)]))
    | none => .no
  | _, _ => .no
section
variable {X : Cx} {G : String → Option V} {W : WX} {e v : Expr} {mk mv : ME} {kk : Nat} {pos : Pos}
theorem m_disp1T (hr : Room kk X.A) (hk : PE X e (RE X.K G W mk)) (hv : PE X v (RE X.K G W mv)) : PE X (.Dict [some e] [v] pos) (RE X.K G W (eDt1 mk mv)) := by
  refine pe_imp (pe_disp1T (units1 hr) hk hv) fun σ H Q ⟨ρ, sm, mh, r, q⟩ => fun p hp => ?_
  obtain ⟨h1, h2⟩ := r.hr.new (u := .dT []) (o := .dt []) hp ⟨[], upd_same, rfl⟩
  have pv : VR X.K G (ρ ++ [p]) (upd H p (.dT [])) (.ref mh.length) (.ref p) := by simp only [VR]; exact ⟨p, rfl, by rw [← r.hr.len]; simp⟩
  unfold eDt1 at q
  refine re_bnd (r.at h2 h1) (RO.ext q h2) fun x ρ1 H1 mh1 u x1 r1 rv q1 => ?_
  refine re_bnd r1 q1 fun y ρ2 H2 mh2 w x2 r2 rw' q2 => ?_
  split at q2
  · rename_i ks hd
    split at q2
    · rename_i k hks
      obtain ⟨b, ws, e1, hb, e2, e3⟩ := r2.hr.dt hd ((pv.ext x1).ext x2)
      cases e1
      simp only [KRs] at e3
      subst e3
      simp only [VR] at rv
      obtain ⟨c, us, rfl, h5, h6⟩ := rv
      have h7 := keysM_V hks (h6.ext x2)
      subst h7
      have h5' := x2.tup _ _ h5
      have hx : Ext X.K ρ2 H2 ρ2 (upd H2 p (.dT [(k, w)])) := ext_write e2 (by simp [Plain])
      obtain ⟨b1, b2⟩ := r2.hr.write (u := .dT [(k, w)]) (o1 := .dt [(k, y)]) hd hb ⟨_, upd_same, by simp only [KRs]; exact ⟨w, [], rfl, rw'.ext hx, rfl⟩⟩
      exact ⟨e2, c, k, rfl, h5', q2 _ _ b2 b1 _ (((pv.ext x1).ext x2).ext b2)⟩
    · exact q2.elim
  · exact q2.elim
end
section
variable {X : Cx} {G : String → Option V}
end
end Mo
namespace Mo
open PySem PySem.Spec PyProof.Rows L2
def offE (D : Ends) (i : Nat) : Ends := { nx := fun σ H => D.nx (σ.set i none) H, rt := D.rt, bk := fun σ H => D.bk (σ.set i none) H, ct := fun σ H => D.ct (σ.set i none) H }
abbrev Cl := Value × Nat × (Addr → Value → Option Addr → TS)
def wNamed (K : PySem.W.Frag) (Wout : WX) (D : Ends) : List Cl → WX
  | [] => Wout
  | (c, i, ts) :: r => fun cls d σ H => ∃ b, PySem.W.exmOne K cls c = some b ∧ (b = true → ∀ a, H a = none → ts a cls d (offE D i) (σ.set i (some (.ref a))) H) ∧ (b = false → wNamed K Wout D r cls d σ H)
inductive ClsOk (X : Cx) : List ExceptHandler → List Cl → Prop
  | nil : ClsOk X [] []
  | cons {x n : Str} {c : Value} {i : Nat} {ts : Addr → Value → Option Addr → TS} {b₀ : Stmt} {suite : List Stmt} {np pos' : Pos} {hds : List ExceptHandler} {l : List Cl} (hi : X.N[i]? = some n) (hln : X.env.kindOf n = some .local) (hc : Names X x c)
      (hsu : ∀ (a : Addr) (oe : Obj) (cls : Value) (d : Option Addr) (pn : List (Addr × Obj)), Zc cls d oe → (∃ vs, oe.data = .fields vs) → PSs (X.suite a ((a, oe) :: pn)) (b₀ :: suite) (ts a cls d)) (r : ClsOk X hds l) :
      ClsOk X (.ExceptHandler (some (.Name x np)) (some n) (b₀ :: suite) pos' :: hds) ((c, i, ts) :: l)
section
variable {X : Cx} {body : List Stmt} {h₀ : ExceptHandler} {hds : List ExceptHandler} {l : List Cl} {pos : Pos} {tb : WX → TS} {Wout : WX}
end
end Mo
namespace Mo
open PySem L2
abbrev ClM := (String → Option Bool) × Nat × (XA → MS)
noncomputable def KTryN : List ClM → SR → SR
  | [], r => r
  | (xt, i, su) :: cl, r => match r with
    | .err e s h => match xt e.c with
      | some true => sUni fun a d => finT i (su ⟨a, d, e.c⟩ (s.set i (some (.exa a d h.length))) (h ++ [.xd e.c e.fs]))
      | some false => KTryN cl (.err e s h)
      | none => .no
    | r => r
section
variable {X : Cx} {G : String → Option V} {W : WX}
inductive HM (X : Cx) (G : String → Option V) : List ExceptHandler → List Cl → List ClM → Prop
  | nil : HM X G [] [] []
  | cons {x n : Str} {c : Value} {i : Nat} {xt : String → Option Bool} {su : XA → MS} {b₀ : Stmt} {suite : List Stmt} {np pos' : Pos} {hds : List ExceptHandler} {l : List Cl} {ms : List ClM} (E : ExmOk X.K G c xt) (hi : X.N[i]? = some n) (hln : X.env.kindOf n = some .local) (hc : Names X x c)
      (hsu : ∀ (y : XA) (oe : Obj) (cls : Value) (d : Option Addr) (C : Addr) (pn : List (Addr × Obj)), Zc cls d oe → (∃ vs, oe.data = .fields vs) → Held X G xt y cls d C → PSs (X.suite y.a ((y.a, oe) :: pn)) (b₀ :: suite) (RS X.K G noW (su y))) (r : HM X G hds l ms) :
      HM X G (.ExceptHandler (some (.Name x np)) (some n) (b₀ :: suite) pos' :: hds) ((c, i, tSu X G xt su) :: l) ((xt, i, su) :: ms)
theorem HM.cls {hds : List ExceptHandler} {l : List Cl} {ms : List ClM} (h : HM X G hds l ms) : ClsOk X hds l := by
  induction h with
  | nil => exact .nil
  | cons E hi hln hc hsu r ih =>
    exact .cons hi hln hc (fun a oe cls d pn hz hv => pss_ex fun y => pss_ex fun C => pss_and fun ⟨ha, hh⟩ => by subst ha; exact hsu y oe cls d C pn hz hv hh) ih
theorem HM.err {D : Ends} {hds : List ExceptHandler} {l : List Cl} {ms : List ClM} (h : HM X G hds l ms) : ∀ {v} {s : Lo} {m : MH} {ρ : List Addr} {H : Hp}, RSE X.K G W D ρ H (KTryN ms (.err v s m)) →
    ∀ (ρ1 : List Addr) (H1 : Hp) (σ1 : St) (cls : Value) (d : Option Addr), Ext X.K ρ H ρ1 H1 → HR X.K G ρ1 H1 m → SRl X.K G ρ1 H1 s σ1 → ER X.K G ρ1 H1 v cls d → wNamed X.K W D l cls d σ1 H1 := by
  induction h with
  | nil => intro v s m ρ H q ρ1 H1 σ1 cls d x1 hr sr er; exact q ρ1 H1 σ1 cls d x1 hr sr er
  | cons E hi hln hc hsu r ih =>
    rename_i x n c i xt su b₀ suite np pos' hds l ms
    intro v s m ρ H q ρ1 H1 σ1 cls d x1 hr sr er
    obtain ⟨C, a', vs, g, rfl, rfl, hnr, ha, hfs⟩ := id er
    unfold KTryN at q
    dsimp only at q
    cases ex : xt v.c with
    | none => simp only [ex] at q; exact q.elim
    | some bb =>
      refine ⟨bb, E.ok _ _ _ ex g, ?_, ?_⟩
      · rintro rfl a hna
        simp only [ex] at q
        refine ⟨⟨a, a', v.c⟩, C, ⟨rfl, g, rfl, rfl, ex⟩, ?_⟩
        obtain ⟨hr2, x2⟩ := hr.add (o := .xd v.c v.fs) hnr ⟨vs, ha, hfs⟩
        refine ⟨ρ1 ++ [a'], s.set i (some (.exa a a' m.length)), m ++ [.xd v.c v.fs], ⟨hr2, (sr.ext x2).set (by rw [VR]; exact ⟨rfl, by rw [← hr.len, List.getElem?_append_right (Nat.le_refl _)]; simp⟩)⟩, ?_⟩
        have x3 := x1.trans x2
        generalize hF : sUni _ = F at q
        have hne : F ≠ .no := by rintro rfl; exact q
        have hk := sUni_ok hF hne a a'
        subst hk
        cases eT : su ⟨a, a', v.c⟩ (s.set i (some (.exa a a' m.length))) (m ++ [.xd v.c v.fs]) with
        | nx s2 m2 => simp only [eT, finT] at q; exact fun ρ2 H2 σ2 e2 a2 b2 => q ρ2 H2 _ (x3.trans e2) a2 b2.gone
        | bk s2 m2 => simp only [eT, finT] at q; exact fun ρ2 H2 σ2 e2 a2 b2 => q ρ2 H2 _ (x3.trans e2) a2 b2.gone
        | ct s2 m2 => simp only [eT, finT] at q; exact fun ρ2 H2 σ2 e2 a2 b2 => q ρ2 H2 _ (x3.trans e2) a2 b2.gone
        | rt u m2 => simp only [eT, finT] at q; exact fun ρ2 H2 v2 e2 a2 b2 => q ρ2 H2 _ (x3.trans e2) a2 b2
        | err u s2 m2 => simp only [eT, finT] at q; exact q.elim
        | no => simp only [eT, finT] at q; exact q.elim
      · rintro rfl
        simp only [ex] at q
        exact ih q ρ1 H1 σ1 _ _ x1 hr sr er
end
end Mo
namespace Mo
open PySem L2
section
variable {K : PySem.W.Frag} {G : String → Option V}
end
end Mo
namespace Mo
open PySem PySem.Spec PyProof.Rows GenW L2
section
variable {M : Model} {A : Around} {R : GenEnd} {Y : Protocol} {n : Nat} {s₀ : Shared} {c : Code} {fs : List Frame} {s : Shared} {env : Env}
  {K : Flow → Sem PySem.Fin} {H : Value → Sem PySem.Fin} {gd : Bool → Bool} {lv : List Value → List Value}
end
section
variable {prog : Program} {w : World} {A : Around} {R : GenEnd} {Y : Protocol} {n : Nat} {s₀ : Shared} {fs : List Frame} {s : Shared} {env : Env}
end
section
variable {X : Cx}
end
end Mo
namespace Mo
open PySem PySem.Spec PyProof.Rows GenW L2
abbrev MGn := List MV → Lo → MH → List MV × SR
def gPl (m : MS) : MGn := fun ys s h => (ys, m s h)
def gNx : MGn := fun ys s h => (ys, .nx s h)
def gKY (ys : List MV) (s : Lo) : Rz MV → List MV × SR
  | .ok v h1 => (ys ++ [v], .nx s h1)
  | .err e h1 => (ys, .err e s h1)
  | .no => (ys, .no)
def gKS (b : MGn) : List MV × SR → List MV × SR
  | (zs, .nx s1 h1) => b zs s1 h1
  | r => r
def gSq (a b : MGn) : MGn := fun ys s h => gKS b (a ys s h)
def gKI (a b : MGn) (ys : List MV) (s : Lo) : Rz Bool → List MV × SR
  | .ok k h1 => if k = true then a ys s h1 else b ys s h1
  | .err e h1 => (ys, .err e s h1)
  | .no => (ys, .no)
def gIf (c : MB) (a b : MGn) : MGn := fun ys s h => gKI a b ys s (c s h)
def gKT (again : MGn) : List MV × SR → List MV × SR
  | (zs, .nx s2 h2) => again zs s2 h2
  | (zs, .ct s2 h2) => again zs s2 h2
  | (zs, .bk s2 h2) => (zs, .nx s2 h2)
  | r => r
def gFoG (get : Itm) (g : MG) (b : MGn) : Nat → Nat → MGn
  | 0, _, ys, _, _ => (ys, .no)
  | n + 1, i, ys, s, h => match get i h with
    | none => (ys, .no)
    | some none => (ys, .nx s h)
    | some (some x) => match g x s with
      | none => (ys, .no)
      | some s1 => gKT (gFoG get g b n (i + 1)) (b ys s1 h)
def gKF (g : MG) (b : MGn) (ys : List MV) (s : Lo) : Rz MV → List MV × SR
  | .ok v h1 => match asT v with
    | some xs => gFoG (getL xs) g b (xs.length + 1) 0 ys s h1
    | none => match seqOf h1 v with
      | some xs => gFoG (getSeq v) g b (xs.length + 1) 0 ys s h1
      | none => (ys, .no)
  | .err e h1 => (ys, .err e s h1)
  | .no => (ys, .no)
def gFor (it : ME) (g : MG) (b : MGn) : MGn := fun ys s h => gKF g b ys s (it s h)
section
variable {K : PySem.W.Frag} {G : String → Option V} {W : WX}
def RGE (K : PySem.W.Frag) (G : String → Option V) (W : WX) (D : GEnds) (ρ : List Addr) (H : Hp) (r : List MV × SR) : Prop :=
  match r.2 with
  | .nx sm1 mh1 => ∀ ρ1 H1 σ1 ys1, Ext K ρ H ρ1 H1 → HR K G ρ1 H1 mh1 → SRl K G ρ1 H1 sm1 σ1 → VRs K G ρ1 H1 r.1 ys1 → D.nx ys1 σ1 H1
  | .bk sm1 mh1 => ∀ ρ1 H1 σ1 ys1, Ext K ρ H ρ1 H1 → HR K G ρ1 H1 mh1 → SRl K G ρ1 H1 sm1 σ1 → VRs K G ρ1 H1 r.1 ys1 → D.bk ys1 σ1 H1
  | .ct sm1 mh1 => ∀ ρ1 H1 σ1 ys1, Ext K ρ H ρ1 H1 → HR K G ρ1 H1 mh1 → SRl K G ρ1 H1 sm1 σ1 → VRs K G ρ1 H1 r.1 ys1 → D.ct ys1 σ1 H1
  | .rt v mh1 => ∀ ρ1 H1 v1 ys1, Ext K ρ H ρ1 H1 → HR K G ρ1 H1 mh1 → VR K G ρ1 H1 v v1 → VRs K G ρ1 H1 r.1 ys1 → D.rt ys1 v1 H1
  | .err e sm1 mh1 => ∀ ρ1 H1 σ1 cls d, Ext K ρ H ρ1 H1 → HR K G ρ1 H1 mh1 → SRl K G ρ1 H1 sm1 σ1 → ER K G ρ1 H1 e cls d → W cls d σ1 H1
  | .no => False
theorem RGE.mono {D : GEnds} {ρ ρ1 : List Addr} {H H1 : Hp} {r : List MV × SR} (x : Ext K ρ H ρ1 H1) (h : RGE K G W D ρ H r) : RGE K G W D ρ1 H1 r := by
  obtain ⟨zs, r⟩ := r
  cases r with
  | nx s m => exact fun ρ2 H2 σ1 ys1 e a b c => h ρ2 H2 σ1 ys1 (x.trans e) a b c
  | bk s m => exact fun ρ2 H2 σ1 ys1 e a b c => h ρ2 H2 σ1 ys1 (x.trans e) a b c
  | ct s m => exact fun ρ2 H2 σ1 ys1 e a b c => h ρ2 H2 σ1 ys1 (x.trans e) a b c
  | rt v m => exact fun ρ2 H2 σ1 ys1 e a b c => h ρ2 H2 σ1 ys1 (x.trans e) a b c
  | err v s m => exact fun ρ2 H2 σ1 c d e a b => h ρ2 H2 σ1 c d (x.trans e) a b
  | no => exact h
variable {X : Cx} {st : Stmt} {sts : List Stmt}
end
end Mo
namespace Mo
open PySem PySem.Spec PyProof.Rows L2
def inK (ks : List Key) (l : List (List Key)) : Bool := l.any fun z => decide (z = ks)
section
variable {P : Program} {w : World} {K : PySem.W.Frag} {H : Hp} {h : Heap} {a b : Addr} {ks : List Key} {xs : List (List Key × Addr)}
end
section
variable {X : Cx} {pins : List (Addr × Obj)} {σ : L2.St} {H : Hp} {s : Shared} {a b : Addr} {ks : List Key} {xs : List (List Key × Addr)} {E : Value → Shared → Prop} {A : Around}
end
end Mo
namespace Mo
open PySem L2
def keyX : MV → Option (List Key)
  | .tup ys => keysM ys
  | .ktp ys => keysM ys
  | _ => none
open Classical in
noncomputable def putX (hs0 : List Key → Int) (d k v : MV) (h : MH) : Option MH := match d, v with
  | .ref i, .bl true => match h[i]? with
    | some (.dx hs ks) => match keyX k with
      | some k => if hs = hs0 ∧ ks.length < SZ ∧ inK k ks = false then some (h.set i (.dx hs (ks ++ [k]))) else none
      | none => none
    | _ => none
  | _, _ => none
noncomputable def sPutX (hs0 : List Key → Int) (d k e : ME) : MS := fun s h => (e s h).bnS s fun v h1 => (d s h1).bnS s fun x h2 => (k s h2).bnS s fun y h3 => match putX hs0 x y v h3 with
  | some h4 => .nx s h4
  | none => .no
def eDx0 (hs0 : List Key → Int) : ME := fun _ h => .ok (.ref h.length) (h ++ [.dx hs0 []])
section
variable {K : PySem.W.Frag} {G : String → Option V} {ρ : List Addr} {H : Hp} {mh : MH}
theorem HR.dx (hr : HR K G ρ H mh) {i : Nat} {hs : List Key → Int} {ks : List (List Key)} {v : V} (e : mh[i]? = some (.dx hs ks)) (r : VR K G ρ H (.ref i) v) :
    ∃ a xs, v = .ref a ∧ ρ[i]? = some a ∧ H a = some (.ext (dxP hs a xs)) ∧ xs.map (fun x : List Key × Addr => x.1) = ks ∧ ∀ x ∈ xs, KeyAt K H x.2 x.1 := by
  simp only [VR] at r
  obtain ⟨a, rfl, ha⟩ := r
  obtain ⟨xs, h1, h2, h3⟩ := hr.get e ha
  exact ⟨a, xs, rfl, ha, h1, h2, h3⟩
theorem KeyAt.ext {ρ1 : List Addr} {H1 : Hp} {b : Addr} {ks : List Key} (x : Ext K ρ H ρ1 H1) (q : KeyAt K H b ks) : KeyAt K H1 b ks := q.imp_left (x.tup _ _)
end
section
variable {X : Cx} {G : String → Option V} {W : WX}
end
section
variable {h : MH} {hs : List Key → Int} {i : Nat} {ks : List (List Key)} {kvs : List (List Key × MV)} {k : List Key} {y : MV} {f : Bool → Bool}
variable {s : Lo} {v : MV} {a b c : ME}
@[simp] theorem eDx0_ev : eDx0 hs s h = .ok (.ref h.length) (h ++ [.dx hs []]) := rfl
noncomputable def KPX1 (r : Rz MV) (hs0 : List Key → Int) (d k : ME) (s : Lo) : SR := r.bnS s fun v h1 => (d s h1).bnS s fun x h2 => (k s h2).bnS s fun y h3 => match putX hs0 x y v h3 with
  | some h4 => .nx s h4
  | none => .no
noncomputable def KPX2 (r : Rz MV) (hs0 : List Key → Int) (v : MV) (k : ME) (s : Lo) : SR := r.bnS s fun x h2 => (k s h2).bnS s fun y h3 => match putX hs0 x y v h3 with
  | some h4 => .nx s h4
  | none => .no
noncomputable def KPX3 (r : Rz MV) (hs0 : List Key → Int) (v x : MV) (s : Lo) : SR := r.bnS s fun y h3 => match putX hs0 x y v h3 with
  | some h4 => .nx s h4
  | none => .no
variable {d kk e : ME} {x : MV}
@[simp] theorem sPutX_ev : sPutX hs d kk e s h = KPX1 (e s h) hs d kk s := rfl
@[simp] theorem KPX1_ok : KPX1 (.ok v h) hs d kk s = KPX2 (d s h) hs v kk s := rfl
@[simp] theorem KPX2_ok : KPX2 (.ok x h) hs v kk s = KPX3 (kk s h) hs v x s := rfl
@[simp] theorem KPX3_ok : KPX3 (.ok y h) hs v x s = KNx (putX hs x y v h) s := rfl
variable {ys : List MV} {g : MG} {bb : MGn}
@[simp] theorem gPl_ev {m : MS} : gPl m ys s h = (ys, m s h) := rfl
@[simp] theorem gSq_ev {aa : MGn} : gSq aa bb ys s h = gKS bb (aa ys s h) := rfl
@[simp] theorem gKS_nx : gKS bb (ys, .nx s h) = bb ys s h := rfl
@[simp] theorem gNx_ev : gNx ys s h = (ys, .nx s h) := rfl
@[simp] theorem gKY_ok : gKY ys s (.ok v h) = (ys ++ [v], .nx s h) := rfl
@[simp] theorem gIf_ev {mc : MB} {aa : MGn} : gIf mc aa bb ys s h = gKI aa bb ys s (mc s h) := rfl
@[simp] theorem gKI_ok {b : Bool} {aa : MGn} : gKI aa bb ys s (.ok b h) = if b = true then aa ys s h else bb ys s h := rfl
@[simp] theorem gFor_ev {it : ME} : gFor it g bb ys s h = gKF g bb ys s (it s h) := rfl
end
end Mo
namespace Mo
open PySem PySem.Spec PyProof.Rows L2
open PySem.W (KSb.Asc KSb.enc KSb.codes)
namespace Asci
open Builtin
theorem found {b : Array UInt8} {p : Nat} (h : (b.getD p 0).toNat < 128) : _codecs.asciiDecoder.find true b p = .text [(b.getD p 0).toNat] (p + 1) := by
  show (let c := (b.getD p 0).toNat; if c < 128 then _codecs.Found.char c (p + 1) else .bad (p + 1) "ordinal not in range(128)" false) = _
  dsimp only
  rw [if_pos h]
  rfl
theorem run {b : Array UInt8} (ha : ∀ p, p < b.size → (b.getD p 0).toNat < 128) (hz : b.size ≤ 16777216) (id : String) :
    _codecs.runDecoder id _codecs.asciiDecoder none true b 0 [] = pure ((b.toList.map UInt8.toNat).toArray, b.size) := by
  have big : ∀ p, ¬ ((PySem.W.KBdo.out b p).size > sizeLine) := fun p => by
    have h := PySem.W.KBdo.out_size b p
    rw [sizeLine_eq]
    omega
  unfold _codecs.runDecoder
  refine (PySem.W.KBdo.loop_bind (mk := fun p => ((p, PySem.W.KBdo.out b p, ({} : _codecs.Faults)) : Nat × Array Nat × _codecs.Faults)) (n := b.size) (fun x p hp => ?_)).trans ?_
  · simp only [if_neg (big p), if_neg (Nat.not_le.mpr hp), found (ha p hp), PySem.W.KBdo.out_next hp]
  · show pure (PySem.W.KBdo.out b b.size, b.size) = _
    rw [PySem.W.KBdo.out_whole]
section
variable {b : Array UInt8} {c : UInt8} {cs : List UInt8} {t u : Tok} {x : PySem.Str} {n : Nat}
end
def txt (b : Array UInt8) : PySem.Str := ⟨(b.toList.map UInt8.toNat).toArray⟩
section
variable {prog : Program} {w : World} {A : Around} {E : Value → Shared → Prop} {s : Shared} {b : Array UInt8} {t u : Tok}
end
end Asci
section
variable {X : Cx}
end
instance (a : PySem.Str) : Decidable (PySem.W.KSb.Asc a) := by unfold PySem.W.KSb.Asc; infer_instance
def fDecA (x y : MV) (h : MH) : OV := match x, y with
  | .byt b, .str e => if e = Str.ofString "ascii" ∧ (∀ c ∈ b.toList, c.toNat < 128) ∧ b.size ≤ 16777216 then some (.str (Asci.txt b), h) else none
  | _, _ => none
def KDec (r : Rz MV) (me : ME) (s : Lo) : Rz MV := r.bnd fun x h1 => match x with
  | .byt b => (me s h1).bnd fun y h2 => lift (fDecA (.byt b) y h2)
  | _ => .no
def eDecA (mo me : ME) : ME := fun s h => KDec (mo s h) me s
section
variable {X : Cx} {G : String → Option V} {W : WX}
end
end Mo
namespace Mo
open PySem PySem.Spec PyProof.Rows L2
section
variable {X : Cx} {G : String → Option V} {W : WX}
inductive PJM (X : Cx) (G : String → Option V) (W : WX) : List Expr → List ME → Prop where
  | nil : PJM X G W [] []
  | cons {e : Expr} {m : ME} {es : List Expr} {ms : List ME} (h : PE X e (RE X.K G W m)) (r : PJM X G W es ms) : PJM X G W (e :: es) (m :: ms)
def KCF (n : Nat) (f : MF) (xs : List MV) (h : MH) : Rz MV := if xs.length = n then okR (f xs h) else .no
def eCFn (n : Nat) (f : MF) (ms : MEs) : ME := fun s h => (ms s h).bnd (KCF n f)
end
end Mo
namespace Mo
open PySem PySem.Spec PyProof.Rows L2
def fDivW (x y : MV) (h : MH) : OV := match x, y with
  | .int i, .int j => if 0 < j ∧ j < 4611686018427387904 then some (.int (i / j), h) else none
  | _, _ => none
@[simp] theorem fDivW_ev {i j : Int} {h : MH} : fDivW (.int i) (.int j) h = if 0 < j ∧ j < 4611686018427387904 then some (.int (i / j), h) else none := rfl
section
variable {s : Lo} {h : MH} {m me : ME} {ms : List ME} {acc : Str} {f : MF} {n : Nat} {as : MEs} {xs : List MV} {v : MV} {x : MX}
def KCFn (r : Rz (List MV)) (n : Nat) (f : MF) : Rz MV := r.bnd (KCF n f)
@[simp] theorem eCFn_ev : eCFn n f as s h = KCFn (as s h) n f := rfl
@[simp] theorem KCFn_ok : KCFn (.ok xs h) n f = if xs.length = n then okR (f xs h) else .no := rfl
@[simp] theorem eDecA_ev : eDecA m me s h = KDec (m s h) me s := rfl
@[simp] theorem KDec_ok {b : Array UInt8} : KDec (.ok (.byt b) h) me s = K3 (me s h) fDecA (.byt b) := rfl
end
end Mo
namespace Mo
open PySem PySem.Spec PyProof.Rows L2
section
variable {X : Cx} {G : String → Option V}
def fListB (xs : List MV) (h : MH) : OV := match xs with
  | [.byt b] => if b.size ≤ 16777216 then some (.ref h.length, h ++ [.lst ((bi b).map .int)]) else none
  | _ => none
def fOrd (xs : List MV) (h : MH) : OV := match xs with
  | [.str x] => if x.length = 1 then some (.int (x.cps.getD 0 0 : Nat), h) else none
  | _ => none
@[simp] theorem fListB_ev {b : Array UInt8} {h : MH} : fListB [.byt b] h = if b.size ≤ 16777216 then some (.ref h.length, h ++ [.lst ((bi b).map .int)]) else none := rfl
@[simp] theorem fOrd_ev {x : Str} {h : MH} : fOrd [.str x] h = if x.length = 1 then some (.int (x.cps.getD 0 0 : Nat), h) else none := rfl
end
end Mo
namespace Mo
open PySem L2
structure OwnD (P : Program) (w : World) (K : PySem.W.Frag) (mg : Str → Option Value) (base : Heap) (G : String → Option V) (k : Nat) (name : Str) (n : Nat) (p : String × MF) : Prop where
  ex : ∃ C fa fd ps, G p.1 = some (.ref C) ∧ Meth K C name fa ∧ FnOk P w K mg base (L2.CX P w) k fa fd ps (SpM K G ps.length p.2) ∧ Binds K fd ps [] ∧ ps.length = n
section
variable {X : Cx} {G : String → Option V} {W : WX} {k n : Nat} {f : MF} {C fa : Addr} {fd : FuncData} {ps : List Str}
end
def dunRun (tab : List (String × MF)) (xs : List MV) (h : MH) : MR := match xs with
  | x :: _ => match insC h x with
    | some c => match tab.lookup c with
      | some g => match g xs h with
        | .ok v h1 => .ok v h1
        | _ => .no
      | none => .no
    | none => .no
  | [] => .no
def notB (neg : Bool) (v : MV) (h : MH) : MR := match v with
  | .bl b => .ok (.bl (if neg then !b else b)) h
  | _ => .no
def eInO (tab : List (String × MF)) (neg : Bool) (a b : ME) : ME := fun s h => (a s h).bnd fun x h1 => (b s h1).bnd fun y h2 => (dunRun tab [y, x] h2).bnd (notB neg)
def lenB (v : MV) (h : MH) : MR := match v with
  | .int i => if 0 ≤ i ∧ i < 9223372036854775808 then .ok (.int i) h else .no
  | _ => .no
def eLenO (tab : List (String × MF)) (ms : MEs) : ME := fun s h => (ms s h).bnd fun xs h1 => if xs.length = 1 then (dunRun tab xs h1).bnd lenB else .no
section
variable {X : Cx} {G : String → Option V} {W : WX} {k n : Nat} {a b e : Expr} {es : List Expr} {ma mb : ME} {ms : MEs} {pos p : Pos} {tab : List (String × MF)} {x : Str}
end
end Mo
namespace Mo
open PySem L2
section
variable {X : Cx} {G : String → Option V} {W : WX} {k n : Nat} {a b e : Expr} {es : List Expr} {ma mb : ME} {ms : MEs} {pos p : Pos} {tab : List (String × MF)} {x : Str}
end
def sAugO (tab : List (String × MF)) (i : Nat) (m : ME) : MS := fun s h => match s[i]? with
  | some (some x) => (m s h).bnS s fun y h1 => (dunRun tab [x, y] h1).bnS s fun z h2 => .nx (s.set i (some z)) h2
  | _ => .no
def augI (f : Int → Int → Int) (x y : MV) : Option MV := match x, y with
  | .int i, .int j => some (.int (f i j))
  | _, _ => none
def sAugI (f : Int → Int → Int) (i : Nat) (m : ME) : MS := fun s h => match s[i]? with
  | some (some x) => (m s h).bnS s fun y h1 => match augI f x y with
    | some z => .nx (s.set i (some z)) h1
    | none => .no
  | _ => .no
section
variable {X : Cx} {G : String → Option V} {W : WX} {k n i : Nat} {e : Expr} {m : ME} {pos pos' : Pos} {tab : List (String × MF)} {x nm : Str} {op : Operator} {f : Int → Int → Int}
end
end Mo
namespace Mo
open PySem L2
open PyProof.Rows hiding St
structure OwnG (P : Program) (w : World) (K : PySem.W.Frag) (mg : Str → Option Value) (base : Heap) (G : String → Option V) (k : Nat) (name : Str) (n : Nat) (p : String × MF) : Prop where
  ex : ∃ C fa fd ps, G p.1 = some (.ref C) ∧ Meth K C name fa ∧ FnOk P w K mg base (L2.CX P w) k fa fd ps (SpM K G ps.length p.2) ∧ Binds K fd ps [] ∧ ps.length = n ∧ PySem.W.fnIn K fa = true ∧ PySem.W.noSeq K C = true
def dunRunE (tab : List (String × MF)) (xs : List MV) (h : MH) : MR := match xs with
  | x :: _ => match insC h x with
    | some c => match tab.lookup c with
      | some g => g xs h
      | none => .no
    | none => .no
  | [] => .no
def eIxO (tab : List (String × MF)) (a b : ME) : ME := fun s h => (a s h).bnd fun x h1 => (b s h1).bnd fun y h2 => dunRunE tab [x, y] h2
def sPutO (tab : List (String × MF)) (d k e : ME) : MS := fun s h => (e s h).bnS s fun v h1 => (d s h1).bnS s fun x h2 => (k s h2).bnS s fun y h3 => (dunRunE tab [x, y, v] h3).bnS s fun _ h4 => .nx s h4
section
variable {X : Cx} {G : String → Option V} {W : WX} {k n : Nat} {a b : Expr} {ma mb : ME} {pos : Pos} {tab : List (String × MF)}
end
section
variable {X : Cx} {G : String → Option V} {W : WX} {o i value : Expr} {mo mi me : ME} {pos pos' tpos : Pos} {k : Nat} {tab : List (String × MF)} {op : Operator} {f : Int → Int → Int} {fl : Str}
end
end Mo
namespace Mo
open PySem L2
def leS (a b : Str) : Bool := !PySem.Spec.ltCps b.cps.toList a.cps.toList
theorem leS_iff {a b : Str} : leS a b = true ↔ a.cps.toList ≤ b.cps.toList := by
  unfold leS
  rw [PyProof.Rows.ltCps_eq]
  simp
theorem leS_trans (a b c : Str) (h1 : leS a b = true) (h2 : leS b c = true) : leS a c = true := leS_iff.mpr (List.le_trans (leS_iff.mp h1) (leS_iff.mp h2))
theorem leS_total (a b : Str) : (leS a b || leS b a) = true := by
  rw [Bool.or_eq_true, leS_iff, leS_iff]
  exact List.le_total ..
theorem leS_anti (a b : Str) (h1 : leS a b = true) (h2 : leS b a = true) : a = b := TL.ext_tl (List.le_antisymm (leS_iff.mp h1) (leS_iff.mp h2))
theorem rising_pw : ∀ (l : List Str) (p : Str), PyProof.Rows.risingS p l = true → (p :: l).Pairwise (fun a b => leS a b = true)
  | [], p, _ => by simp
  | x :: r, p, h => by
    unfold PyProof.Rows.risingS at h
    obtain ⟨h1, h2⟩ := Bool.and_eq_true_iff.mp h
    have ih := rising_pw r x h2
    have px : leS p x = true := h1
    refine List.pairwise_cons.mpr ⟨fun y hy => ?_, ih⟩
    rcases List.mem_cons.mp hy with rfl | hy
    · exact px
    · exact leS_trans _ _ _ px ((List.pairwise_cons.mp ih).1 y hy)
theorem sortedS_pw : ∀ (l : List Str), PyProof.Rows.sortedS l = true → l.Pairwise (fun a b => leS a b = true)
  | [], _ => List.Pairwise.nil
  | x :: r, h => rising_pw r x h
def srt (xs : List Str) : List Str := xs.mergeSort leS
theorem srt_perm (xs : List Str) : (srt xs).Perm xs := List.mergeSort_perm xs leS
theorem srt_pw (xs : List Str) : (srt xs).Pairwise (fun a b => leS a b = true) := List.pairwise_mergeSort leS_trans leS_total xs
theorem srt_eq {xs ys : List Str} (hp : ys.Perm xs) (hs : PyProof.Rows.sortedS ys = true) : ys = srt xs :=
  List.Perm.eq_of_pairwise (fun a b _ _ h1 h2 => leS_anti a b h1 h2) (sortedS_pw _ hs) (srt_pw xs) (hp.trans (srt_perm xs).symm)
def fSortS (xs : List MV) (h : MH) : OV := match xs with
  | [.ref i] => match h[i]? with
    | some (.lst zs) => match strsM zs with
      | some ys => if ys.length < 64 then some (.ref h.length, h ++ [.lst ((srt ys).map .str)]) else none
      | none => none
    | _ => none
  | _ => none
section
variable {X : Cx} {G : String → Option V}
theorem VRs_strs {K : PySem.W.Frag} {ρ : List Addr} {H : Hp} : ∀ l : List Str, VRs K G ρ H (l.map MV.str) (l.map V.str)
  | [] => by simp [VRs]
  | x :: l => by simp only [List.map_cons, VRs]; exact ⟨_, _, rfl, by simp [VR], VRs_strs l⟩
theorem s_sortS : CallS X.K G (rSortedS X.K) fSortS := by
  intro ρ H mh mh1 xs z vs Q hr rvs e k
  unfold fSortS at e
  split at e
  · obtain ⟨v, rfl, rv⟩ := rvs.one
    split at e
    · rename_i zs q
      split at e
      · rename_i ys hy
        split at e
        · rename_i h64
          cases e
          obtain ⟨a, us, rfl, ha, g1, g2⟩ := hr.lst q rv
          have eu := strs_V hy g2
          subst eu
          refine ⟨a, ys, rfl, SqL.of g1, h64, fun ws p hp hs hn => ?_⟩
          rw [srt_eq hp hs]
          obtain ⟨a1, a2, a3⟩ := new_lst hr (VRs_strs (srt ys)) hn
          exact k _ _ a2 a1 _ a3
        · cases e
      · cases e
    · cases e
  · cases e
def fStrS (xs : List MV) (h : MH) : OV := match xs with
  | [.str a] => some (.str a, h)
  | _ => none
@[simp] theorem fStrS_ev {a : Str} {h : MH} : fStrS [.str a] h = some (.str a, h) := rfl
theorem fSortS_ev {i : Nat} {xs : List Str} {h : MH} (e : h[i]? = some (.lst (xs.map .str))) (hl : xs.length < 64) : fSortS [.ref i] h = some (.ref h.length, h ++ [.lst ((srt xs).map .str)]) := by
  have : ∀ l : List Str, strsM (l.map MV.str) = some l := fun l => by
    induction l with
    | nil => rfl
    | cons x l ih => simp [strsM, ih]
  simp [fSortS, e, this, hl]
end
end Mo
namespace Mo
open PySem L2
section
variable {s : Lo} {h : MH} {x y z v : MV} {e : MX} {tab : List (String × MF)} {neg : Bool} {xs : List MV} {i : Nat} {f : Int → Int → Int} {c : String} {g : MF}
def KDu (o : Option String) (tab : List (String × MF)) (xs : List MV) (h : MH) : MR := match o with
  | some c => match tab.lookup c with
    | some g => match g xs h with
      | .ok v h1 => .ok v h1
      | _ => .no
    | none => .no
  | none => .no
def KDv (o : Option MF) (xs : List MV) (h : MH) : MR := match o with
  | some g => match g xs h with
    | .ok v h1 => .ok v h1
    | _ => .no
  | none => .no
def KDw (r : MR) : MR := match r with
  | .ok v h1 => .ok v h1
  | _ => .no
@[simp] theorem dunRun_ev : dunRun tab (x :: xs) h = KDu (insC h x) tab (x :: xs) h := rfl
@[simp] theorem KDu_some : KDu (some c) tab xs h = KDv (tab.lookup c) xs h := rfl
@[simp] theorem KDv_some : KDv (some g) xs h = KDw (g xs h) := rfl
@[simp] theorem KDw_ok : KDw (.ok v h) = .ok v h := rfl
def KI1 (r : MR) (tab : List (String × MF)) (neg : Bool) (b : ME) (s : Lo) : MR := r.bnd fun x h1 => (b s h1).bnd fun y h2 => (dunRun tab [y, x] h2).bnd (notB neg)
def KI2 (r : MR) (tab : List (String × MF)) (neg : Bool) (x : MV) : MR := r.bnd fun y h2 => (dunRun tab [y, x] h2).bnd (notB neg)
def KI3 (r : MR) (neg : Bool) : MR := r.bnd (notB neg)
@[simp] theorem eInO_ev {a b} : eInO tab neg a b s h = KI1 (a s h) tab neg b s := rfl
@[simp] theorem KI1_ok {b} : KI1 (.ok x h) tab neg b s = KI2 (b s h) tab neg x := rfl
@[simp] theorem KI2_ok : KI2 (.ok y h) tab neg x = KI3 (dunRun tab [y, x] h) neg := rfl
@[simp] theorem KI3_f {b : Bool} : KI3 (.ok (.bl b) h) false = .ok (.bl b) h := rfl
@[simp] theorem KI3_t {b : Bool} : KI3 (.ok (.bl b) h) true = .ok (.bl (!b)) h := rfl
@[simp] theorem KI1_err {b} : KI1 (.err e h) tab neg b s = .err e h := rfl
@[simp] theorem KI2_err : KI2 (.err e h) tab neg x = .err e h := rfl
def KL1 (r : Rz (List MV)) (tab : List (String × MF)) : MR := r.bnd fun xs h1 => if xs.length = 1 then (dunRun tab xs h1).bnd lenB else .no
def KL2 (r : MR) : MR := r.bnd lenB
@[simp] theorem eLenO_ev {ms} : eLenO tab ms s h = KL1 (ms s h) tab := rfl
@[simp] theorem KL1_ok : KL1 (.ok [x] h) tab = KL2 (dunRun tab [x] h) := rfl
def KDuE (o : Option String) (tab : List (String × MF)) (xs : List MV) (h : MH) : MR := match o with
  | some c => match tab.lookup c with
    | some g => g xs h
    | none => .no
  | none => .no
def KDvE (o : Option MF) (xs : List MV) (h : MH) : MR := match o with
  | some g => g xs h
  | none => .no
@[simp] theorem dunRunE_ev : dunRunE tab (x :: xs) h = KDuE (insC h x) tab (x :: xs) h := rfl
@[simp] theorem KDuE_some : KDuE (some c) tab xs h = KDvE (tab.lookup c) xs h := rfl
@[simp] theorem KDvE_some : KDvE (some g) xs h = g xs h := rfl
def KX1 (r : MR) (tab : List (String × MF)) (b : ME) (s : Lo) : MR := r.bnd fun x h1 => (b s h1).bnd fun y h2 => dunRunE tab [x, y] h2
def KX2 (r : MR) (tab : List (String × MF)) (x : MV) : MR := r.bnd fun y h2 => dunRunE tab [x, y] h2
@[simp] theorem eIxO_ev {a b} : eIxO tab a b s h = KX1 (a s h) tab b s := rfl
@[simp] theorem KX1_ok {b} : KX1 (.ok x h) tab b s = KX2 (b s h) tab x := rfl
@[simp] theorem KX2_ok : KX2 (.ok y h) tab x = dunRunE tab [x, y] h := rfl
@[simp] theorem KX1_err {b} : KX1 (.err e h) tab b s = .err e h := rfl
@[simp] theorem KX2_err : KX2 (.err e h) tab x = .err e h := rfl
def KP1 (r : MR) (tab : List (String × MF)) (d k : ME) (s : Lo) : SR := r.bnS s fun v h1 => (d s h1).bnS s fun x h2 => (k s h2).bnS s fun y h3 => (dunRunE tab [x, y, v] h3).bnS s fun _ h4 => .nx s h4
def KP2 (r : MR) (tab : List (String × MF)) (v : MV) (k : ME) (s : Lo) : SR := r.bnS s fun x h2 => (k s h2).bnS s fun y h3 => (dunRunE tab [x, y, v] h3).bnS s fun _ h4 => .nx s h4
def KP3 (r : MR) (tab : List (String × MF)) (v x : MV) (s : Lo) : SR := r.bnS s fun y h3 => (dunRunE tab [x, y, v] h3).bnS s fun _ h4 => .nx s h4
def KP4 (r : MR) (s : Lo) : SR := r.bnS s fun _ h4 => .nx s h4
@[simp] theorem sPutO_ev {d k m} : sPutO tab d k m s h = KP1 (m s h) tab d k s := rfl
@[simp] theorem KP1_ok {d k} : KP1 (.ok v h) tab d k s = KP2 (d s h) tab v k s := rfl
@[simp] theorem KP2_ok {k} : KP2 (.ok x h) tab v k s = KP3 (k s h) tab v x s := rfl
@[simp] theorem KP3_ok : KP3 (.ok y h) tab v x s = KP4 (dunRunE tab [x, y, v] h) s := rfl
@[simp] theorem KP4_ok : KP4 (.ok v h) s = .nx s h := rfl
@[simp] theorem KP4_err : KP4 (.err e h) s = .err e s h := rfl
@[simp] theorem KP1_err {d k} : KP1 (.err e h) tab d k s = .err e s h := rfl
def KA0 (o : Option (Option MV)) (tab : List (String × MF)) (i : Nat) (m : ME) (s : Lo) (h : MH) : SR := match o with
  | some (some x) => (m s h).bnS s fun y h1 => (dunRun tab [x, y] h1).bnS s fun z h2 => .nx (s.set i (some z)) h2
  | _ => .no
def KA1 (r : MR) (tab : List (String × MF)) (i : Nat) (x : MV) (s : Lo) : SR := r.bnS s fun y h1 => (dunRun tab [x, y] h1).bnS s fun z h2 => .nx (s.set i (some z)) h2
def KA2 (r : MR) (i : Nat) (s : Lo) : SR := r.bnS s fun z h2 => .nx (s.set i (some z)) h2
@[simp] theorem sAugO_ev {m} : sAugO tab i m s h = KA0 (s[i]?) tab i m s h := rfl
@[simp] theorem KA0_some {m} : KA0 (some (some x)) tab i m s h = KA1 (m s h) tab i x s := rfl
@[simp] theorem KA1_ok : KA1 (.ok y h) tab i x s = KA2 (dunRun tab [x, y] h) i s := rfl
@[simp] theorem KA2_ok : KA2 (.ok z h) i s = .nx (s.set i (some z)) h := rfl
def KGu0 (o : Option (Option MV)) (f : Int → Int → Int) (i : Nat) (m : ME) (s : Lo) (h : MH) : SR := match o with
  | some (some x) => (m s h).bnS s fun y h1 => match augI f x y with
    | some z => .nx (s.set i (some z)) h1
    | none => .no
  | _ => .no
def KGu1 (r : MR) (f : Int → Int → Int) (i : Nat) (x : MV) (s : Lo) : SR := r.bnS s fun y h1 => match augI f x y with
    | some z => .nx (s.set i (some z)) h1
    | none => .no
@[simp] theorem sAugI_ev {m} : sAugI f i m s h = KGu0 (s[i]?) f i m s h := rfl
@[simp] theorem KG0_some {m} : KGu0 (some (some x)) f i m s h = KGu1 (m s h) f i x s := rfl
@[simp] theorem KG1_ok {a b : Int} : KGu1 (.ok (.int b) h) f i (.int a) s = .nx (s.set i (some (.int (f a b)))) h := rfl
end
end Mo
namespace Mo
open PySem L2
section
variable {X : Cx} {W : WX}
end
def kM : Key → MV
  | .inl i => .int i
  | .inr x => .str x
theorem KRs.at {K : PySem.W.Frag} {G : String → Option V} {ρ : List Addr} {H : Hp} : ∀ {xs : List (Key × MV)} {vs : List (Key × V)} (i : Nat), KRs K G ρ H id xs vs → (∀ {k v}, vs[i]? = some (k, v) → ∃ y, xs[i]? = some (k, y) ∧ VR K G ρ H y v)
  | [], vs, i, h, k, v, e => by cases h; simp at e
  | x :: xs, vs, i, h, k, v, e => by
    obtain ⟨w, r, rfl, hw, hr⟩ := h
    cases i with
    | zero => simp only [List.getElem?_cons_zero, Option.some.injEq] at e; cases e; exact ⟨x.2, rfl, hw⟩
    | succ i => simp only [List.getElem?_cons_succ] at e ⊢; exact KRs.at i hr e
section
variable {X : Cx} {G : String → Option V} {W : WX} {tg iter : Expr} {body : List Stmt} {m : ME} {g : MG} {b : MS} {t : TG} {pos : Pos}
end
end Mo
namespace Mo
open PySem L2
section
variable {X : Cx} {G : String → Option V} {W : WX} {tg iter elt : Expr} {ifs : List Expr} {m me : ME} {g : MG} {c : MB} {t : TG} {pos : Pos} {scope : Scope} {own : List (Str × Nat)}
end
section
variable {s : Lo} {h : MH} {g : MG} {b : MS} {c : MB} {m me : ME} {us : List Nat} {i : Nat} {kvs : List (Key × MV)} {h0 : MH}
end
end Mo
namespace Mo
open PySem L2
section
variable {K : PySem.W.Frag} {G : String → Option V} {W : WX}
end
section
variable {X : Cx} {G : String → Option V} {W : WX} {tg iter kx vx : Expr} {ifs : List Expr} {m mk mv : ME} {g : MG} {c : MB} {t : TG} {pos : Pos} {scope : Scope} {own : List (Str × Nat)}
end
end Mo
namespace Mo
open PySem L2
def fListD (xs : List MV) (h : MH) : OV := match xs with
  | [.ref i] => match h[i]? with
    | some (.dk kvs) => some (.ref h.length, h ++ [.lst (kvs.map fun kv => kM kv.1)])
    | _ => none
  | _ => none
section
variable {X : Cx} {G : String → Option V}
end
end Mo
namespace Mo
open PySem L2
section
variable {X : Cx} {G : String → Option V} {W : WX} {iter : Expr} {elts : List Expr} {kk : Nat} {body : List Stmt} {m : ME} {g : MG} {b : MS} {t : TG} {pos tpos apos cpos : Pos}
end
section
variable {s : Lo} {h : MH} {g : MG} {b : MS} {m : ME} {i : Nat} {kvs : List (Key × MV)} {h0 : MH}
end
end Mo
namespace Mo
open PySem L2
open PyProof.Rows hiding St
structure PSet' (K : PySem.W.Frag) (C : Addr) (f : Str) (p g : Addr) : Prop where
  sa : PySem.W.findIn K (.ref C) "__setattr__" = some (some (.builtin "object.__setattr__"))
  po : PySem.W.plainOver K C = true
  tk : PySem.W.takerIn K C f = some (some (.ref p))
  ty : PySem.W.typeIn K (.ref p) = some (.type "property")
  rc : ∃ a rest, PySem.W.recIn K p "property" = some (a :: .ref g :: rest)
def eProp (c : String) (g : MF) (m : ME) : ME := fun s h => (m s h).bnd fun x h1 => dunRun [(c, g)] [x] h1
def sPutP (c : String) (g : MF) (o e : ME) : MS := fun s h => (e s h).bnS s fun v h1 => (o s h1).bnS s fun x h2 => (dunRunE [(c, g)] [x, v] h2).bnS s fun _ h3 => .nx s h3
section
variable {X : Cx} {G : String → Option V} {W : WX} {k : Nat} {C p fa : Addr} {fd : FuncData} {ps : List Str} {f : Str} {g : MF} {c : String} {e o value : Expr} {pos pos' : Pos} {m mo me : ME}
end
end Mo
namespace Mo
open PySem L2
open PyProof.Rows hiding St
def eMk00 (c : String) : ME := fun _ h => .ok (.ref h.length) (h ++ [.ins c []])
structure Mk00 (K : PySem.W.Frag) (C : Addr) : Prop where
  makes : PySem.W.makesIn K C = true
  init : PySem.W.findIn K (.ref C) "__init__" = some (some (.builtin "object.__init__"))
  kp : PySem.W.keepIn K (.ref C) = true
section
variable {X : Cx} {G : String → Option V} {W : WX} {C : Addr} {c : String} {x : Str} {p pos : Pos}
end
@[simp] theorem eMk00_ev {c : String} {s : Lo} {h : MH} : eMk00 c s h = .ok (.ref h.length) (h ++ [.ins c []]) := rfl
end Mo
namespace Mo
open PySem L2
section
variable {get : Itm} {g : MG} {c : MB} {m mk mv : ME} {p n i k : Nat} {s s1 : Lo} {h h2 h3 h4 : MH} {x y z v : MV} {us : List Nat}
theorem lcG_stepY (e1 : get i h = some (some x)) (e2 : g x s = some s1) (e3 : c s1 h = .ok true h) (e4 : m s1 h = .ok y h2) (e5 : putLc k y h2 = some h3) :
    lcG get g c m k (n + 1) i s h = lcG get g c m k n (i + 1) s h3 := by
  conv => lhs; unfold lcG
  rw [e1]
  simp only [e2, e3, Rz.bdN, if_true, e4, e5]
theorem lcG_stepN (e1 : get i h = some (some x)) (e2 : g x s = some s1) (e3 : c s1 h = .ok false h2) :
    lcG get g c m k (n + 1) i s h = lcG get g c m k n (i + 1) s h2 := by
  conv => lhs; unfold lcG
  rw [e1]
  simp only [e2, e3, Rz.bdN, Bool.false_eq_true, if_false]
theorem lcG_end0 (e1 : get i h = some none) : lcG get g c m k (n + 1) i s h = .ok (.ref k) h := by
  conv => lhs; unfold lcG
  rw [e1]
theorem lcG_inv {N : Nat} (I : Nat → MH → Prop) (R : MR → Prop) (end_ : ∀ h, I N h → get N h = some none ∧ R (.ok (.ref k) h))
    (step : ∀ i h, i < N → I i h → ∃ x s1, get i h = some (some x) ∧ g x s = some s1 ∧ ((∃ h2, c s1 h = .ok false h2 ∧ I (i + 1) h2) ∨ ∃ y h2 h3, c s1 h = .ok true h ∧ m s1 h = .ok y h2 ∧ putLc k y h2 = some h3 ∧ I (i + 1) h3)) :
    ∀ n i h, i + n = N → I i h → R (lcG get g c m k (n + 1) i s h) := by
  intro n
  induction n with
  | zero =>
    intro i h e hI
    have : i = N := by omega
    subst this
    obtain ⟨e1, e2⟩ := end_ h hI
    rw [lcG_end0 e1]
    exact e2
  | succ n ih =>
    intro i h e hI
    obtain ⟨x, s1, e1, e2, t⟩ := step i h (by omega) hI
    rcases t with ⟨h2, e3, t⟩ | ⟨y, h2, h3, e3, e4, e5, t⟩
    · rw [lcG_stepN e1 e2 e3]
      exact ih (i + 1) h2 (by omega) t
    · rw [lcG_stepY e1 e2 e3 e4 e5]
      exact ih (i + 1) h3 (by omega) t
end
section
variable {s : Lo} {h : MH} {x v : MV} {e : MX} {c : String} {g : MF}
def KPr (r : MR) (c : String) (g : MF) : MR := r.bnd fun x h1 => dunRun [(c, g)] [x] h1
@[simp] theorem eProp_ev {m : ME} : eProp c g m s h = KPr (m s h) c g := rfl
@[simp] theorem KPr_ok : KPr (.ok x h) c g = dunRun [(c, g)] [x] h := rfl
def KQ1 (r : MR) (c : String) (g : MF) (o : ME) (s : Lo) : SR := r.bnS s fun v h1 => (o s h1).bnS s fun x h2 => (dunRunE [(c, g)] [x, v] h2).bnS s fun _ h3 => .nx s h3
def KQ2 (r : MR) (c : String) (g : MF) (v : MV) (s : Lo) : SR := r.bnS s fun x h2 => (dunRunE [(c, g)] [x, v] h2).bnS s fun _ h3 => .nx s h3
@[simp] theorem sPutP_ev {o m : ME} : sPutP c g o m s h = KQ1 (m s h) c g o s := rfl
@[simp] theorem KQ1_ok {o : ME} : KQ1 (.ok v h) c g o s = KQ2 (o s h) c g v s := rfl
@[simp] theorem KQ2_ok : KQ2 (.ok x h) c g v s = KP4 (dunRunE [(c, g)] [x, v] h) s := rfl
end
end Mo
namespace Mo
open PySem L2
end Mo
namespace Mo
open PySem L2 PySem.Spec
open PyProof.Rows hiding St
section
variable {X : Cx} {e : Expr} {td : TE} {apos cpos pos p : Pos}
end
def eLK (m : ME) : ME := fun s h => (m s h).bnd fun x h1 => lift (fListD [x] h1)
section
variable {X : Cx} {G : String → Option V} {W : WX} {e : Expr} {m : ME} {apos cpos pos p : Pos}
end
section
variable {s : Lo} {h : MH} {m : ME} {i : Nat} {kvs : List (Key × MV)} {x : MV}
def KLK (r : MR) : MR := r.bnd fun x h1 => lift (fListD [x] h1)
@[simp] theorem eLK_ev : eLK m s h = KLK (m s h) := rfl
end
end Mo
namespace Mo
open PySem L2
section
variable {X : Cx} {G : String → Option V}
end
end Mo
namespace Mo
open PySem PySem.Spec PyProof.Rows GenW L2
section
variable {X : Cx} {st : Stmt} {t : TGn}
end
section
variable {X : Cx} {G : String → Option V} {tg iter : Expr} {body : List Stmt} {m : ME} {g : MG} {b : MGn} {t : TG} {pos : Pos}
end
section
variable {X : Cx} {G : String → Option V} {W : WX} {o : Expr} {mo : ME} {m : Str} {c : String} {C : Addr}
end
end Mo
namespace Mo
open PySem PySem.Spec PyProof.Rows L2
section
variable {X : Cx} {e : Expr} {es : List Expr} {ta : TA} {p pos : Pos}
end
section
variable {X : Cx} {G : String → Option V} {W : WX} {e : Expr} {es : List Expr} {ms ms2 : MEs} {x y : Str} {p pos rpos p2 pos2 : Pos} {c c2 : String} {f f2 : Str} {C C2 : Addr} {e2 : Expr} {t2 : TA}
theorem RaiM.one {P : Program} {w : World} {K : PySem.W.Frag} {mg : Str → Option Value} {base : Heap} (R : RaiM P w K mg base G c [f] C) : G c = some (.ref C) ∧ OexC K C ∧ ∃ fI fd ps, PySem.W.findIn K (.ref C) "__init__" = some (some (.ref fI)) ∧ PySem.W.typeIn K (.ref fI) = some (.type "function") ∧ FnOk P w K mg base (L2.CX P w) 1 fI fd ps (spS1 C f) ∧ Binds K fd ps [] := by
  obtain ⟨g, T, fI, fd, ps, sp, iC, tI, F, hb, hsp⟩ := R
  rcases hsp with ⟨f1, e1, rfl⟩ | ⟨f1, f2, e1, _⟩
  · cases e1; exact ⟨g, T, fI, fd, ps, iC, tI, F, hb⟩
  · cases e1
end
section
variable {s : Lo} {h : MH} {c : String} {fs : List Str} {ms ms2 : MEs}
end
end Mo
namespace Mo
open PySem PySem.Spec PyProof.Rows L2
structure FnX (P : Program) (w : World) (K : PySem.W.Frag) (mg : Str → Option Value) (base : Heap) (k : Nat) (f : Addr) (fd : FuncData) (ps : List Str) (sp : Sp) : Prop where
  len : ∀ vs H Q E, sp vs H Q E → vs.length = ps.length
  run : ∀ (A : Around) (outer : List Env) (s : Shared) (H : Hp) (args : Args) (us : List Value) (vs : List V) (Q : VK) (E : XK), L2H.RoomH k A → Env0 P w K mg base A outer s H → BindsTo s fd args (ps.zip us) → Vals vs us → sp vs H Q E →
    codeAny (model P w) A (.call (.ref f) args) (CR (L2.CX P w) outer P w H s Q E) s
def exH (K : PySem.W.Frag) (f g : Str) (a : Addr) (H : Hp) (k : Hp → Prop) : Prop := ∃ (C dx : Addr) (fs : List (Str × V)) (hh C2 dx2 : Addr) (fs2 : List (Str × V)), H a = some (.ins C dx fs) ∧ Cls K C ∧ NoAttr K C f ∧ fs.lookup f = some (.ref hh) ∧
  H hh = some (.ins C2 dx2 fs2) ∧ Cls K C2 ∧ NoAttr K C2 g ∧ fs2.length < 1000 ∧ k (upd H hh (.ins C2 dx2 (putF g .non fs2)))
theorem exH.imp {K : PySem.W.Frag} {f g : Str} {a : Addr} {H : Hp} {k k' : Hp → Prop} (h : exH K f g a H k) (i : ∀ H', k H' → k' H') : exH K f g a H k' := by
  obtain ⟨C, dx, fs, hh, C2, dx2, fs2, a1, a2, a3, a4, a5, a6, a7, a8, a9⟩ := h
  exact ⟨C, dx, fs, hh, C2, dx2, fs2, a1, a2, a3, a4, a5, a6, a7, a8, i _ a9⟩
section
variable {prog : Program} {w : World} {A : Around} {E : Value → Shared → Prop} {s : Shared} {env : Env} {K : PySem.W.Frag} {x C fe fx : Addr} {ox : Obj} {od : Option Obj} {pos : Pos}
end
section
variable {X : Cx} {f g : Str} {fx : Addr} {fd : FuncData} {ps : List Str} {kX : Nat}
end
end Mo
namespace Mo
open PySem L2
section
variable {X : Cx} {kx vx tg iter : Expr} {ifs : List Expr} {scope : Scope} {own : List (Str × Nat)} {i : Nat} {y : Str} {py pos spos : Pos}
variable {G : String → Option V} {W : WX} {m mk mv me : ME} {g : MG} {c : MB} {t : TG} {elt : Expr}
end
end Mo
namespace Mo
open PySem L2
section
variable {K : PySem.W.Frag} {G : String → Option V} {W : WX} {f g : Str} {cs1 cs2 : List String}
end
section
variable {X : Cx} {G : String → Option V} {W : WX} {c : String} {f g : Str} {cs1 cs2 : List String} {ctx : Expr} {body : List Stmt} {mk : ME} {fe : MF} {b : MS} {pos : Pos} {C fae fax : Addr} {fdE fdX : FuncData} {psE psX : List Str} {kE kX : Nat}
end
section
variable {c : String} {f g : Str} {cs1 cs2 : List String} {mk : ME} {fe : MF} {b : MS} {s : Lo} {h h1 h2 : MH} {i : Nat} {fs : List (Str × MV)} {v : MV}
end
end Mo
namespace Mo
open PySem L2
section
variable {K : PySem.W.Frag} {G : String → Option V}
end
end Mo
namespace Mo
open PySem L2
section
variable {X : Cx} {CX : CXT} {k n : Nat} {f C : Addr} {fd : FuncData} {ps ks : List Str} {sp : Sp} {m : Str} {pos apos : Pos} {o e : Expr} {es : List Expr} {kws : List Keyword} {ta : TE} {t tk : TA} {g : List Value → List Value → List Value} {gV : List V → List V → List V}
end
section
variable {X : Cx} {G : String → Option V} {W : WX} {o e : Expr} {es : List Expr} {mo : ME} {ms mk : MEs} {m : Str} {pos apos : Pos} {k n l : Nat} {fa C : Addr} {fd : FuncData} {ps ks : List Str} {f : MF} {c : String} {kws : List Keyword} {g : List Value → List Value → List Value} {gM : List MV → List MV → List MV} {gV : List V → List V → List V}
end
section
variable {s : Lo} {h h1 h2 h3 : MH} {x : MV} {c : String} {m : Str} {n l N : Nat} {f : MF} {g : List MV → List MV → List MV} {a : ME} {as ks : MEs} {fs : List (Str × MV)} {i : Nat} {xs ys : List MV}
end
end Mo
namespace Mo
open PySem L2
theorem fnA_ofN {K : PySem.W.Frag} {a : Addr} {n q : Str} {p : Arguments} {b : FuncBody} {s : Scope} {g bi : Addr} (h : fnN K a = some (n, q, p, b, s, g, [], bi)) : He5.fnA K a = some (n, q, p, b, s, g, [], bi) := by
  unfold fnN nmCl at h
  cases e : He5.fnA K a with
  | none => rw [e] at h; cases h
  | some z =>
    obtain ⟨z1, z2, z3, z4, z5, z6, z7, z8⟩ := z
    rw [e] at h
    simp only [Option.map_some, Option.some.injEq, Prod.mk.injEq, List.map_eq_nil_iff] at h
    obtain ⟨rfl, rfl, rfl, rfl, rfl, rfl, rfl, rfl⟩ := h
    rfl
theorem fnC_ofN {K : PySem.W.Frag} {f : Addr} {qual : Str} {prm : Arguments} {body : List Stmt} {scope : Scope} (h : fnN K f = some (("__init__" : Str), qual, prm, FuncBody.stmts body, scope, mainGlobals, [("__class__" : Str)], builtinsNs)) : fnC K f qual prm body scope := by
  unfold fnC
  unfold fnN nmCl at h
  cases e : He5.fnA K f with
  | none => rw [e] at h; cases h
  | some z =>
    obtain ⟨z1, z2, z3, z4, z5, z6, z7, z8⟩ := z
    rw [e] at h
    simp only [Option.map_some, Option.some.injEq, Prod.mk.injEq] at h
    obtain ⟨rfl, rfl, rfl, rfl, rfl, rfl, h7, rfl⟩ := h
    match z7, h7, e with
    | [(x, c)], h7, e =>
      have hx : x = ("__class__" : Str) := by
        injection h7
      subst hx
      have : ccOf K f = c := by
        unfold He5.fnA at e
        unfold ccOf
        cases q : K.lookup f with
        | none => rw [q] at e; cases e
        | some o =>
          rw [q] at e
          obtain ⟨oc, od, dt, sl⟩ := o
          cases dt with
          | func fd =>
            have e2 := Option.some.inj e
            simp only [Prod.mk.injEq] at e2
            have e3 := e2.2.2.2.2.2.2.1
            show (match fd.closure with | [(_, c)] => c | _ => 0) = c
            rw [e3]
          | _ => cases e
      rw [this]
theorem SaysM.at {fa : List He.Fa} {fn : List He.DefD} {ts : List He.Tab} {ex : PySem.W.Frag → Bool} {ps : List (PySem.W.Frag → Addr)} {vs : List FnN} {w : World} {K : PySem.W.Frag} (c : SaysM fa fn ts ex ps vs w K) (i : Nat) {p : PySem.W.Frag → Addr} {v : FnN} (h : ps[i]? = some p := by rfl) (hv : vs[i]? = some v := by rfl) : fnN K (p K) = v := by
  have e : (ps.map fun p => fnN K (p K))[i]? = vs[i]? := by rw [c.p]
  rw [List.getElem?_map, h, hv] at e
  exact Option.some.inj e
theorem obsM_eq {n : Nat} {fa : List He.Fa} {fn : List He.DefD} {ts : List He.Tab} {ex : PySem.W.Frag → Bool} {ps : List (PySem.W.Frag → Addr)} {vs : List FnN} (s : PySem.W.SharedT) : obsM fa fn ts ex ps (gM n (HandSHeadRun.getT s)) = (hookM n fa fn ts ex ps vs).obs s.abs := by
  have e : HandSHeadRun.getT s = s.abs.heap.get? := funext (HandSHeadRun.getT_eq s)
  rw [e]
  rfl
theorem law_walkE {l : PySem.W.OpenLaw} {q : Program} {loose : List Str} {XP : (Str → Option Value) → Heap → Prop} {YP : World → Heap → Prop} {d : DefRec} {k : Nat} (hk : k ≤ 200) (hn : l.most = some 63) (hdf : d.params.defaults = [])
    (F : ∀ (w : World) (mg : Str → Option Value) (fa : Addr) (h : Heap), YP w h → h.Ns mainGlobals mg → mg d.name = some (.ref fa) → ∃ K : PySem.W.Frag, K.In h ∧
      ∃ fd : FuncData, (∀ (s : Shared) (u : Value), BindsTo s fd ⟨[u], []⟩ [("_law_script", u)]) ∧ ∀ base : Heap, K.In base → base.Ns mainGlobals mg → FnOk l.prog w K mg base (L2.CX l.prog w) k fa fd ["_law_script"] (spLaw K)) :
    PySem.W.WalkO q loose XP YP l.row.toRowW d [] (fun f vs => PySem.call f vs) := by
  have hr : Room k callerA := Room.mono (k := 200) ⟨rfl, by decide, by decide⟩ hk
  refine Att.attach_call hn hdf ?_
  intro w s0 s1 mg mb fa o pm cd doc a vs ns G Y ho hd hcd hmg hob hin hln hge
  obtain ⟨K, hK, fd, hb, hF⟩ := F w mg fa _ Y G.T.g hmg
  have hl63 : ns.length ≤ sizeLine := Nat.le_trans hln (by decide)
  refine law_call hK G.T.g G.T.b G.T.builtins G.T.nolimit hge hob hin hl63 hr hF hb ?_ ?_
  · intro H hO hS
    exact ⟨a, ns, rfl, hO, hS, hln, fun _ _ e => e⟩
  · intro H e s' h
    exact no_out h
end Mo
namespace Mo
open PySem L2
section
variable {X : Cx} {G : String → Option V} {W : WX} {a b i o : Expr} {ma mb : ME} {pos : Pos} {k : Nat}
end
end Mo
namespace Mo
open PySem L2
section
variable {K : PySem.W.Frag} {G : String → Option V}
end
end Mo
namespace Mo
open PySem L2
def fIsB (x y : MV) (h : MH) : OV := match x, y with
  | .bl a, .bl b => some (.bl (decide (a = b)), h)
  | .non, .bl _ => some (.bl false, h)
  | _, _ => none
def fNotB (x y : MV) (h : MH) : OV := match x, y with
  | .bl a, .bl b => some (.bl (!decide (a = b)), h)
  | .non, .bl _ => some (.bl true, h)
  | _, _ => none
section
variable {K : PySem.W.Frag} {G : String → Option V}
end
@[simp] theorem fIsB_bl {a b : Bool} {h : MH} : fIsB (.bl a) (.bl b) h = some (.bl (decide (a = b)), h) := rfl
@[simp] theorem fNotB_bl {a b : Bool} {h : MH} : fNotB (.bl a) (.bl b) h = some (.bl (!decide (a = b)), h) := rfl
@[simp] theorem fIsB_non {b : Bool} {h : MH} : fIsB .non (.bl b) h = some (.bl false, h) := rfl
@[simp] theorem fNotB_non {b : Bool} {h : MH} : fNotB .non (.bl b) h = some (.bl true, h) := rfl
end Mo
namespace Mo
open PySem PySem.W PySem.Calls PyProof.Rows L2 HandSHeadRun
theorem run_two {r : OpenRow} {q : Program} {n M : Nat} {fa : List He.Fa} {fn : List He.DefD} {ts : List He.Tab} {ex : PySem.W.Frag → Bool} {ps : List (PySem.W.Frag → Addr)} {vs : List FnN} {loose : List PySem.Str} {w : World}
    (h1 : RunA r q n ts ex ps vs M loose w) (h2 : RunB r n fa fn M w) : RunEq r q (hookM n fa fn ts ex ps vs) (fun s => obsM fa fn ts ex ps (gM n (getT s))) M loose w := by
  intro os
  have h1 := h1 os
  have h2 := h2 os
  cases e : endF (stepQ (denQ tabQ) r.prog w) M r.prog w os with
  | none => rw [e] at h2; cases h2
  | some s =>
    rw [e] at h1 h2
    rw [Option.map_some] at h1 h2 ⊢
    have h2 := Option.some.inj h2
    have h1 := Option.some.inj h1
    have a1 := congrArg (fun z => z.1) h1
    have a2 := congrArg (fun z => z.2.1) h1
    have a3 : (ts.map fun t => He.dicW (gM n (getT s)) (t.1 (gM n (getT s)))) = ts.map fun t => some (He.keysIn w.params t.2) := congrArg (fun z => z.2.2.1) h1
    have a4 : ex (gM n (getT s)) = true := congrArg (fun z => z.2.2.2.1) h1
    have a5 : (ps.map fun p => fnN (gM n (getT s)) (p (gM n (getT s)))) = vs := congrArg (fun z => z.2.2.2.2) h1
    have key : obsM fa fn ts ex ps (gM n (getT s)) = vlM fn ts vs w := by
      show ((He.obsD fa fn (gM n (getT s)), ts.map fun t => He.dicW (gM n (getT s)) (t.1 (gM n (getT s)))), ex (gM n (getT s)), ps.map fun p => fnN (gM n (getT s)) (p (gM n (getT s)))) = ((He.valD fn, ts.map fun t => some (He.keysIn w.params t.2)), true, vs)
      rw [h2, a3, a4, a5]
    exact congrArg some (congr (congrArg Prod.mk a1) (congr (congrArg Prod.mk a2) key))
end Mo
namespace Mo
open PySem L2
def getEn (v : MV) : Itm := fun j h => match seqOf h v with
  | some xs => some ((xs[j]?).map fun x => MV.tup [.int (j : Nat), x])
  | none => none
theorem its_enum {K : PySem.W.Frag} {G : String → Option V} {ρ0 : List Addr} {H0 : Hp} {v : MV} {a : Addr} (hv : VR K G ρ0 H0 v (.ref a)) (hn : asT v = none) : ItS K G ρ0 H0 (Ite K a) (getEn v) := by
  have key : ∀ {ρ H mh xs}, Ext K ρ0 H0 ρ H → HR K G ρ H mh → seqOf mh v = some xs → ∃ vs, SqL K H a vs ∧ VRs K G ρ H xs vs := fun {ρ H mh xs} x hr e => by
    cases v with
    | ref i =>
      simp only [seqOf] at e
      split at e
      · rename_i q
        cases e
        obtain ⟨b, vs, e1, _, h1, h2⟩ := hr.lst q (hv.ext x)
        cases e1
        exact ⟨vs, SqL.of h1, h2⟩
      · cases e
    | frl ys =>
      simp only [seqOf] at e; cases e
      have := hv.ext x
      simp only [VR] at this
      obtain ⟨b, vs, e1, h1, h2⟩ := this
      cases e1
      exact ⟨vs, h1.sq, h2⟩
    | tup _ => simp [asT] at hn
    | ktp _ => simp [asT] at hn
    | _ => simp [seqOf] at e
  have get : ∀ {i mh o}, getEn v i mh = some o → ∃ xs, seqOf mh v = some xs ∧ o = (xs[i]?).map fun x => MV.tup [.int (i : Nat), x] := fun {i mh o} e => by
    unfold getEn at e
    cases h : seqOf mh v with
    | none => rw [h] at e; cases e
    | some xs => rw [h] at e; exact ⟨xs, rfl, (Option.some.inj e).symm⟩
  refine ⟨fun {i ρ H mh} x hr e => ?_, fun {i ρ H mh z} x hr e => ?_, fun {i ρ H mh z y H'} x hr e hy => ?_⟩
  · obtain ⟨xs, e1, e2⟩ := get e
    obtain ⟨vs, h1, h2⟩ := key x hr e1
    refine ⟨vs, h1, ?_⟩
    rw [← h2.length]
    cases q : xs[i]? with
    | none => exact List.getElem?_eq_none_iff.mp q
    | some p => rw [q] at e2; cases e2
  · obtain ⟨xs, e1, e2⟩ := get e
    obtain ⟨vs, h1, h2⟩ := key x hr e1
    cases q : xs[i]? with
    | none => rw [q] at e2; cases e2
    | some p =>
      obtain ⟨u, h3, _⟩ := h2.get q
      exact ⟨vs, u, h1, h3⟩
  · obtain ⟨xs, e1, e2⟩ := get e
    obtain ⟨vs, h1, h2⟩ := key x hr e1
    cases q : xs[i]? with
    | none => rw [q] at e2; cases e2
    | some p =>
      rw [q] at e2
      cases e2
      obtain ⟨u, h3, h4⟩ := h2.get q
      obtain ⟨T, w, rfl, hT, rfl, h5⟩ := hy
      have := h5 vs h1
      rw [h3] at this; cases this
      have ri : VR K G ρ H (.int (i : Nat)) (.int (i : Nat)) := by simp only [VR]
      obtain ⟨a1, a2, a3⟩ := new_tup hr (VRs.cons ri (VRs.cons h4 VRs.nil)) hT
      exact ⟨ρ, a2, a1, a3⟩
def sForE (it : ME) (g : MG) (b : MS) : MS := fun s h => (it s h).bnS s fun v h1 => match v with
  | .ref i => match h1[i]? with
    | some (.lst xs) => forG (getEn (.ref i)) g b (xs.length + 1) 0 s h1
    | _ => .no
  | _ => .no
def eLcE (it : ME) (g : MG) (c : MB) (m : ME) (vs : List Nat) : ME := fun s h => (it s h).bnd fun v h1 => match v with
  | .ref i => match h1[i]? with
    | some (.lst xs) => lcG (getEn (.ref i)) g c m h1.length (xs.length + 1) 0 (wipeM s vs) (h1 ++ [.lst []])
    | _ => .no
  | _ => .no
section
variable {X : Cx} {G : String → Option V} {W : WX} {elt e : Expr} {elts : List Expr} {kk : Nat} {ifs : List Expr} {scope : Scope} {own : List (Str × Nat)} {p pos cpos tpos : Pos} {mi m : ME} {c : MB} {t : TG} {g : MG} {body : List Stmt} {b : MS}
theorem enum_ta (he : PE X e (RE X.K G W mi)) (hst : starEach [e] X.env = [(false, eval e X.env)]) : PA X [e] (tCons (RE X.K G W mi) tNil) := pa_cons he pa_nil (by rw [hst]; rfl)
theorem m_forE (hp : PassesOwn (model X.prog X.w) X.A X.env X.xe) (hc : X.calm = true) (hg1 : Gl X "enumerate") (hm1 : X.mg "enumerate" = none) (he : PE X e (RE X.K G W mi)) (hg : PG X (.Tuple elts kk tpos) t) (hgs : GS X.K G t g) (hb : PSs X body (RS X.K G W b))
    (hst : starEach [e] X.env = [(false, eval e X.env)] := by rfl) (hs : ∀ x, foldedSetIterable (.Call (.Name "enumerate" p) [e] [] cpos) X.env x = pure x := by intro _; rfl) :
    PS X (.For (.Tuple elts kk tpos) (.Call (.Name "enumerate" p) [e] [] cpos) body [] pos) (RS X.K G W (sForE mi g b)) := by
  refine ps_imp (ps_for hp hc (pi_enum hg1 hm1 (enum_ta he hst) hst) hg hb hs) fun D σ H ⟨ρ, sm, mh, r, q⟩ => ?_
  refine res_bnd (m := mi) r q fun v ρ1 H1 mh1 x x1 r1 rv q1 => ?_
  split at q1
  · split at q1
    · rename_i i xs hx
      obtain ⟨a, vs, rfl, ha, h1, h2⟩ := r1.hr.lst hx rv
      exact ⟨a, vs, rfl, SqL.of h1, for_sim (its_enum rv rfl) hgs (Ext.refl (ρ := ρ1)) r1 q1⟩
    · exact False.elim q1
  · exact False.elim q1
theorem lce_re {us : List Nat} (hgw : GW X.K G t g us) (σ : St) (H : Hp) (Q : VK) (h : RE X.K G W (eLcE mi g c m us) σ H Q) : tLc (iEnum X.K (tCons (RE X.K G W mi) tNil)) t (RT X.K G noW c) (RE X.K G noW m) us σ H Q := by
  obtain ⟨ρ, sm, mh, r, q⟩ := h
  refine re_bnd (m := mi) r q fun v ρ1 H1 mh1 x x1 r1 rv q1 => ?_
  split at q1
  · split at q1
    · rename_i i xs hx
      obtain ⟨a, vs, rfl, ha, h1, h2⟩ := r1.hr.lst hx rv
      exact ⟨a, vs, rfl, SqL.of h1, fun D hD => lc_sim (its_enum rv rfl) hgw (Ext.refl (ρ := ρ1)) r1 hD q1⟩
    · exact False.elim q1
  · exact False.elim q1
theorem m_setLcE {i : Nat} {y : Str} {py spos : Pos} (hc : X.calm = true) (hN : X.N.Nodup) (hy : X.N[i]? = some y) (hyl : X.env.scope.names.lookup y = some .local) (hsw : swapsWith (.ListComp elt [⟨.Tuple elts kk tpos, .Call (.Name "enumerate" p) [e] [] cpos, ifs, 0⟩] scope pos) (some (.Name y py)) spos.line X.env = pure true)
    (ok : BlkOk X.N X.env.scope scope own) (hg1 : Gl X "enumerate") (hm1 : X.mg "enumerate" = none) (he : PE X e (RE X.K G W mi)) (hgw : GW X.K G t g (own.map (·.2)))
    (hg : InBlk X scope fun Y => PG Y (.Tuple elts kk tpos) t) (ht : InBlk X scope fun Y => PTs Y ifs (RT X.K G noW c)) (hm : InBlk X scope fun Y => PE Y elt (RE X.K G noW m))
    (hst : starEach [e] X.env = [(false, eval e X.env)] := by rfl) (hs : ∀ x, foldedSetIterable (.Call (.Name "enumerate" p) [e] [] cpos) X.env x = pure x := by intro _; rfl) :
    PS X (.Assign [.Name y py] (.ListComp elt [⟨.Tuple elts kk tpos, .Call (.Name "enumerate" p) [e] [] cpos, ifs, 0⟩] scope pos) spos) (RS X.K G W (sAsg (eLcE mi g c m (own.map (·.2))) (gN i))) :=
  ps_imp (ps_setLc hc hN hy hyl hsw (pi_enum hg1 hm1 (enum_ta he hst) hst) ok hg ht hm hs) fun D σ H h => asg_re gs_name (te := fun σ H Q => tLc (iEnum X.K (tCons (RE X.K G W mi) tNil)) t (RT X.K G noW c) (RE X.K G noW m) (own.map fun y : Str × Nat => y.2) σ H Q) (fun σ H Q h => lce_re hgw σ H Q h) D σ H h
end
section
variable {s : Lo} {h : MH} {g : MG} {b : MS} {c : MB} {m : ME}
theorem sForE_at {it : ME} {i : Nat} {h1 : MH} {xs : List MV} (e : it s h = .ok (.ref i) h1) (q : h1[i]? = some (.lst xs)) : sForE it g b s h = forG (getEn (.ref i)) g b (xs.length + 1) 0 s h1 := by
  simp only [sForE, e, Rz.bnS, q]
theorem eLcE_at {it : ME} {us : List Nat} {i : Nat} {h1 : MH} {xs : List MV} (e : it s h = .ok (.ref i) h1) (q : h1[i]? = some (.lst xs)) : eLcE it g c m us s h = lcG (getEn (.ref i)) g c m h1.length (xs.length + 1) 0 (wipeM s us) (h1 ++ [.lst []]) := by
  simp only [eLcE, e, Rz.bnd, q]
theorem getEn_at {i j : Nat} {xs : List MV} (q : h[i]? = some (.lst xs)) : getEn (.ref i) j h = some ((xs[j]?).map fun x => .tup [.int (j : Nat), x]) := by
  simp only [getEn, seqOf, q]
end
end Mo
namespace Mo
open PySem PySem.Spec PyProof.Rows L2
section
open PySem.AutoSeq1 PySem.MeetsSeq PySem.MeetsSeq2 PySem.MeetsSeq3 PySem.SeqRoads2 PySem.SeqAt
theorem remove_loopAt (l : Addr) (items : Array Value) (n : Nat) (x : Value) (e : Value → Bool) (j : Nat) (hj : j < items.size) (hit : e items[j] = true) (k : Nat) (hs1 : items.size ≤ sizeLine) :
    ∀ i : Nat, j - i = k → i ≤ j → (∀ m (hm : m < items.size), i ≤ m → m < j → e items[m] = false) → Meets (Builtin.«list.remove.loop» ⟨[.ref l, x, rawInt i], []⟩)
      (fun A R s => s.heap.get? l = some { cls := .type "list", dict := none, data := .seq items n, slots := #[] } ∧ (∀ y, y ∈ items → EqAt A.in1 s y x (e y)) ∧ R (.ok (.ret .none)) { s with heap := s.heap.update l (Obj.mapSeq fun xs => xs.eraseIdxIfInBounds j) }) := by
  induction k with
  | zero =>
    intro i hk hij hno prog w A R s h
    obtain ⟨hp, g, d, tk, os⟩ := s; obtain ⟨hl, he, h⟩ := h
    have hij' : i = j := by omega
    subst hij'
    wp_walk using wpAny_loadPart' hl
    have hi : items[((i : Nat) : Int).toNat]? = some items[i] := by simp [hj]
    rw [hi]
    refine wpAny_bind (he _ (Array.getElem_mem hj) prog w _ _ ?_)
    rw [hit]
    have hz' : (items.eraseIdxIfInBounds i).size ≤ sizeLine + 1 := Nat.le_trans (size_erased items _) (Nat.le_succ_of_le hs1)
    wp_walk using (wpAny_updateSeq hl rfl (hz := hs1) (_hz' := hz')), wpAny_loadPart' hl
    simpa using h
  | succ k ih =>
    intro i hk hij hno prog w A R s h
    obtain ⟨hp, g, d, tk, os⟩ := s; obtain ⟨hl, he, h⟩ := h
    have hlt : i < items.size := by omega
    wp_walk using wpAny_loadPart' hl
    have hi : items[((i : Nat) : Int).toNat]? = some items[i] := by simp [hlt]
    have hc : ((i : Int) + 1) = ((i + 1 : Nat) : Int) := by push_cast; rfl
    rw [hi]
    refine wpAny_bind (he _ (Array.getElem_mem hlt) prog w _ _ ?_)
    rw [hno i hlt (Nat.le_refl _) (by omega)]
    wp_walk
    rw [hc]
    exact ⟨plainId_quiet plain_remove_loop _, codeAny_builtin entry_remove_loop (by
      rw [Around.under_plainId plain_remove_loop _]
      exact ih (i + 1) (by omega) (by omega) (fun m hm h1 h2 => hno m hm (by omega) h2) prog w A R _ ⟨hl, he, h⟩)⟩
theorem list_removeAt (l : Addr) (items : Array Value) (n : Nat) (x : Value) (e : Value → Bool) (j : Nat) (hj : j < items.size)
    (hit : e items[j] = true) (hno : ∀ m (hm : m < items.size), m < j → e items[m] = false) (hs1 : items.size ≤ sizeLine) :
    Meets (Builtin.«list.remove» ⟨[.ref l, x], []⟩)
      (fun A R s => s.heap.get? l = some { cls := .type "list", dict := none, data := .seq items n, slots := #[] } ∧ (∀ y, y ∈ items → EqAt A.in1 s y x (e y)) ∧ R (.ok (.ret .none)) { s with heap := s.heap.update l (Obj.mapSeq fun xs => xs.eraseIdxIfInBounds j) }) := by
  intro prog w A R s h
  obtain ⟨hp, g, d, tk, os⟩ := s; obtain ⟨hl, he, h⟩ := h
  wp_walk using wpAny_loadPart' hl
  exact ⟨plainId_quiet plain_remove_loop _, codeAny_builtin entry_remove_loop (by
    rw [Around.under_plainId plain_remove_loop _]
    exact remove_loopAt l items n x e j hj hit _ hs1 0 rfl (Nat.zero_le _) (fun m hm _ h2 => hno m hm h2) prog w A R _ ⟨hl, he, h⟩)⟩
end
section
variable {X : Cx}
def rRemD (K : PySem.W.Frag) : V → List V → Hp → VK → Prop := fun x xs H Q => ∃ (a : Addr) (y : V) (d : PyData) (ys : List V) (ds : List PyData) (j : Nat) (z : PyData), x = V.ref a ∧ xs = [y] ∧ H a = some (.lst ys) ∧ DpAll K H ys ds ∧ Dp K H y d ∧
  SeqAt.shaped (.list ds) = true ∧ (SeqAt.shaped d = true ∧ d.depth ≤ 60) ∧ ds[j]? = some z ∧ PyData.eqv z d = true ∧ (∀ (m : Nat) (z' : PyData), m < j → ds[m]? = some z' → PyData.eqv z' d = false) ∧ Q .non (upd H a (.lst (ys.eraseIdx j)))
theorem mt_removeD (hu : X.A.units + 64 < cLine) : MtR X "list.remove" (rRemD X.K) := by
  intro pins s σ H x xs v us Q I rx rxs h
  obtain ⟨a, y, d, ys, ds, j, z, rfl, rfl, hH, ha, hy, sl, ⟨sd, dd⟩, hz, hzj, hno, q⟩ := h
  cases rx
  cases rxs with
  | cons ry rt =>
    rename_i uy ut
    cases rt
    obtain ⟨bs, r1⟩ := Dp.reads I d y uy hy ry
    have hxs : PyData.canLayAll0 ds = true := SeqAt.canLay_of_shaped sl
    have hroom : X.A.units + 1 + min (PyData.depthAll ds) d.depth < cLine := by have := Nat.min_le_right (PyData.depthAll ds) d.depth; omega
    obtain ⟨zz, its, n, rv, hvl, ho⟩ := I.lstM hH
    obtain ⟨as, h4⟩ := Dp.readsAll I ds _ its ha rv
    have hn : its.length = ds.length := SeqAt.ReadsAll.length ds its as h4
    have hmap : its.map (SeqAt.readOf s.heap) = ds := SeqAt.readsAll_map ds its as hxs h4
    obtain ⟨hjd, _⟩ := List.getElem?_eq_some_iff.mp hz
    have hjl : j < its.length := by omega
    have hj : j < its.toArray.size := by simpa using hjl
    have at_ : ∀ (m : Nat) (hm : m < its.toArray.size) (z' : PyData), ds[m]? = some z' → SeqAt.readOf s.heap its.toArray[m] = z' := by
      intro m hm z' hz'
      have hml : m < its.length := by simpa using hm
      rw [← hmap, List.getElem?_map, List.getElem?_eq_getElem hml] at hz'
      have e1 : SeqAt.readOf s.heap its[m] = z' := Option.some.inj (show some (SeqAt.readOf s.heap its[m]) = some z' from hz')
      simpa using e1
    have hsz : its.toArray.size ≤ sizeLine := by rw [List.size_toArray]; omega
    refine call_meets PySem.F.slot_list_remove ⟨_, ho, rfl⟩ PySem.F.entry_list_remove (PySem.F.args_list_remove_2 _ _)
      (list_removeAt a its.toArray n uy (fun u => PyData.eqv (SeqAt.readOf s.heap u) d) j hj ?_ ?_ hsz) ⟨ho, SeqAt.items_eqAt (vs := its.toArray) (show ReadsAll s.heap its.toArray.toList ds as from h4) r1 hxs (SeqAt.canLay_of_shaped sd) hroom, ?_⟩
    · show PyData.eqv (SeqAt.readOf s.heap its.toArray[j]) d = true
      rw [at_ j hj z hz]
      exact hzj
    · intro m hm hmj
      have hml : m < its.length := by simpa using hm
      have hmd : m < ds.length := by omega
      have hz' : ds[m]? = some ds[m] := List.getElem?_eq_getElem hmd
      show PyData.eqv (SeqAt.readOf s.heap its.toArray[m]) d = false
      rw [at_ m hm _ hz']
      exact hno m _ hmj hz'
    · refine ⟨.non, _, I.lset (its' := its.eraseIdx j) hH ho ?_ (rv.eraseIdx j) ?_, rfl, q⟩
      · show its.toArray.eraseIdxIfInBounds j = (its.eraseIdx j).toArray
        rw [List.eraseIdxIfInBounds_toArray]
      · have := List.length_eraseIdx_le ys j
        omega
end
def ltD (a : List Str) : PyData := .list (a.map .str)
theorem strD_lay : ∀ a : List Str, (∀ x ∈ a, PyData.strOk x = true) → PyData.canLayAll0 (a.map PyData.str) = true
  | [], _ => by simp [PyData.canLayAll0]
  | x :: a, h => by simp [PyData.canLayAll0, PyData.canLay0, strD_lay a fun y hy => h y (List.mem_cons_of_mem _ hy), h x List.mem_cons_self]
theorem strD_depth : ∀ a : List Str, PyData.depthAll (a.map PyData.str) ≤ 1
  | [] => by simp [PyData.depthAll]
  | x :: a => by
    have h := strD_depth a
    simp only [List.map_cons, PyData.depthAll, PyData.depth]
    omega
theorem ltD_depth (a : List Str) : (ltD a).depth ≤ 2 := by
  have h := strD_depth a
  unfold ltD
  simp only [PyData.depth]
  omega
theorem ltD_lay (a : List Str) (h : ∀ x ∈ a, PyData.strOk x = true) : (ltD a).canLay0 = true := by
  unfold ltD
  simp only [PyData.canLay0]
  exact strD_lay a h
theorem ltD_shaped (a : List Str) (h0 : ∀ x ∈ a, PyData.strOk x = true) : SeqAt.shaped (ltD a) = true := by
  have h := ltD_depth a
  show ((ltD a).canLay0 && decide ((ltD a).depth ≤ 64)) = true
  rw [Bool.and_eq_true]
  exact ⟨ltD_lay a h0, decide_eq_true (by omega)⟩
theorem ltDs_lay : ∀ ss : List (List Str), (∀ a ∈ ss, ∀ x ∈ a, PyData.strOk x = true) → PyData.canLayAll0 (ss.map ltD) = true
  | [], _ => by simp [PyData.canLayAll0]
  | a :: ss, h => by simp [PyData.canLayAll0, ltD_lay a (h a List.mem_cons_self), ltDs_lay ss fun b hb => h b (List.mem_cons_of_mem _ hb)]
theorem ltDs_depth : ∀ ss : List (List Str), PyData.depthAll (ss.map ltD) ≤ 2
  | [] => by simp [PyData.depthAll]
  | a :: ss => by
    have h1 := ltDs_depth ss
    have h2 := ltD_depth a
    simp only [List.map_cons, PyData.depthAll]
    omega
theorem ltDs_shaped (ss : List (List Str)) (h0 : ∀ a ∈ ss, ∀ x ∈ a, PyData.strOk x = true) : SeqAt.shaped (.list (ss.map ltD)) = true := by
  have h1 := ltDs_depth ss
  have h2 : PyData.depth (.list (ss.map ltD)) ≤ 64 := by
    simp only [PyData.depth]
    omega
  show ((PyData.list (ss.map ltD)).canLay0 && decide ((PyData.list (ss.map ltD)).depth ≤ 64)) = true
  rw [Bool.and_eq_true]
  refine ⟨?_, decide_eq_true h2⟩
  simp only [PyData.canLay0]
  exact ltDs_lay ss h0
theorem strD_eqv : ∀ a b : List Str, PyData.eqvAll (a.map .str) (b.map .str) = decide (a = b)
  | [], [] => by simp [PyData.eqvAll]
  | [], _ :: _ => by simp [PyData.eqvAll]
  | _ :: _, [] => by simp [PyData.eqvAll]
  | x :: a, y :: b => by
    simp only [List.map_cons, PyData.eqvAll, strD_eqv a b, PyData.eqv]
    by_cases c : x = y
    · subst c; simp
    · simp [c]
theorem ltD_eqv (a b : List Str) : PyData.eqv (ltD a) (ltD b) = decide (a = b) := by
  unfold ltD
  rw [PyData.eqv]
  exact strD_eqv a b
def strsAt (h : MH) (v : MV) : Option (List Str) := match v with
  | .ref k => match h[k]? with
    | some (.lst ys) => match strsM ys with
      | some a => if a.all PyData.strOk = true then some a else none
      | none => none
    | _ => none
  | _ => none
def strsAll (h : MH) : List MV → Option (List (List Str))
  | [] => some []
  | v :: r => match strsAt h v, strsAll h r with
    | some a, some b => some (a :: b)
    | _, _ => none
def fRemS (x : MV) (xs : List MV) (h : MH) : OV := match x, xs with
  | .ref i, [k] => match h[i]? with
    | some (.lst rs) => match strsAll h rs, strsAt h k with
      | some ss, some a => match ss.findIdx? fun b => decide (b = a) with
        | some j => some (.non, h.set i (.lst (rs.eraseIdx j)))
        | none => none
      | _, _ => none
    | _ => none
  | _, _ => none
section
variable {K : PySem.W.Frag} {G : String → Option V} {ρ : List Addr} {H : Hp} {mh : MH}
theorem dpAll_strs : ∀ a : List Str, DpAll K H (a.map V.str) (a.map PyData.str)
  | [] => .nil
  | x :: a => .cons (.str x) (dpAll_strs a)
theorem strsAt_V (hr : HR K G ρ H mh) {v : MV} {w : V} {a : List Str} (e : strsAt mh v = some a) (r : VR K G ρ H v w) : Dp K H w (ltD a) ∧ ∀ x ∈ a, PyData.strOk x = true := by
  unfold strsAt at e
  split at e
  · split at e
    · rename_i ys q
      split at e
      · rename_i b eb
        split at e
        · rename_i hb
          cases e
          obtain ⟨p, vs, rfl, _, h1, h2⟩ := hr.lst q r
          have := strs_V eb h2
          subst this
          exact ⟨.lst (SqL.of h1) (dpAll_strs a), List.all_eq_true.mp hb⟩
        · cases e
      · cases e
    · cases e
  · cases e
theorem strsAll_V (hr : HR K G ρ H mh) : ∀ {xs : List MV} {vs : List V} {ss : List (List Str)}, strsAll mh xs = some ss → VRs K G ρ H xs vs → DpAll K H vs (ss.map ltD) ∧ ∀ a ∈ ss, ∀ x ∈ a, PyData.strOk x = true
  | [], vs, ss, e, r => by
    simp only [VRs] at r
    subst r
    cases e
    exact ⟨.nil, fun a h => by cases h⟩
  | x :: xs, vs, ss, e, r => by
    simp only [VRs] at r
    obtain ⟨v, ws, rfl, r1, r2⟩ := r
    unfold strsAll at e
    split at e
    · rename_i a b ea eb
      cases e
      obtain ⟨g1, g2⟩ := strsAt_V hr ea r1
      obtain ⟨g3, g4⟩ := strsAll_V hr eb r2
      refine ⟨.cons g1 g3, fun c hc => ?_⟩
      rcases List.mem_cons.mp hc with rfl | hc
      · exact g2
      · exact g4 c hc
    · cases e
theorem vrs_erase : ∀ {xs : List MV} {vs : List V} (j : Nat), VRs K G ρ H xs vs → VRs K G ρ H (xs.eraseIdx j) (vs.eraseIdx j)
  | [], vs, j, r => by
    simp only [VRs] at r
    subst r
    simp [VRs]
  | x :: xs, vs, j, r => by
    simp only [VRs] at r
    obtain ⟨v, ws, rfl, r1, r2⟩ := r
    cases j with
    | zero => exact r2
    | succ j => exact VRs.cons r1 (vrs_erase j r2)
end
section
variable {X : Cx} {G : String → Option V}
theorem s_remS : MtS X.K G (rRemD X.K) fRemS := by
  intro ρ H mh mh1 x z xs v vs Q hr rv rvs e k
  unfold fRemS at e
  split at e
  · rename_i i kk
    split at e
    · rename_i rs q
      split at e
      · rename_i ss a es ea
        split at e
        · rename_i j hj
          cases e
          obtain ⟨p, ws, rfl, hp, g1, g2⟩ := hr.lst q rv
          obtain ⟨w, rfl, rw'⟩ := rvs.one
          obtain ⟨hl, f1, f2⟩ := List.findIdx?_eq_some_iff_getElem.mp hj
          have xw : Ext X.K ρ H ρ (upd H p (.lst (ws.eraseIdx j))) := ext_write g1 (by simp [Plain])
          obtain ⟨a1, a2⟩ := hr.write (u := .lst (ws.eraseIdx j)) (o1 := .lst (rs.eraseIdx j)) q hp ⟨_, upd_same, (vrs_erase j g2).ext xw⟩
          refine ⟨p, w, ltD a, ws, ss.map ltD, j, ltD ss[j], rfl, rfl, g1, (strsAll_V hr es g2).1, (strsAt_V hr ea rw').1, ltDs_shaped ss (strsAll_V hr es g2).2, ⟨ltD_shaped a (strsAt_V hr ea rw').2, by have := ltD_depth a; omega⟩, by rw [List.getElem?_map, List.getElem?_eq_getElem hl]; rfl, ?_, fun m z' hm hz => ?_, k _ _ a2 a1 _ (by simp [VR])⟩
          · rw [ltD_eqv]; exact f1
          · have hm' : m < ss.length := by omega
            rw [List.getElem?_map, List.getElem?_eq_getElem hm'] at hz
            cases hz
            rw [ltD_eqv]
            have := f2 m hm
            simpa using this
        · cases e
      · cases e
    · cases e
  · cases e
end
theorem fRemS_ref {h : MH} {i k j : Nat} {rs : List MV} {ss : List (List Str)} {a : List Str} (q : h[i]? = some (.lst rs)) (es : strsAll h rs = some ss) (ea : strsAt h (.ref k) = some a) (hj : ss.findIdx? (fun b => decide (b = a)) = some j) : fRemS (.ref i) [.ref k] h = some (.non, h.set i (.lst (rs.eraseIdx j))) := by
  simp only [fRemS, q, es, ea, hj]
end Mo
namespace Lw
open PySem L2 Mo
def FUEL : Nat := 100000
abbrev ownT : Own := ownOf tabT
def k_AT_WORK : MV := .ktp [.str "works", .str "late", .str "ghost", .str "ghost+"]
def k_IN_BOOK : MV := .ktp [.str "idle", .str "dealt", .str "works", .str "late", .str "rests"]
def k_MARKS : MV := .ktp [.str "any", .str "owner", .str "given"]
def k_MOVES : MV := .ktp [.str "once", .str "back"]
def k_OUTS : MV := .ktp [.str "once", .str "wait"]
def k_OWNERS : MV := .ktp [.str "dealt", .str "works", .str "rests"]
def k_PROMISES : MV := .ktp [.str "single", .str "calm", .str "steady", .str "norepeat", .str "forward"]
def k_STEP_WORDS : MV := .ktp [.str "enter", .str "leave", .str "out", .str "hear", .str "over", .str "read", .str "call"]
def k_STOPS : MV := .ktp [.str "asked", .str "all"]
def t_CHANGES : List (Str × MV) := [("enter", .glo "after_enter"), ("leave", .glo "after_leave"), ("out", .glo "after_out"), ("hear", .glo "after_hear"), ("over", .glo "after_over"), ("read", .glo "after_read"), ("call", .glo "after_call")]
noncomputable section
def b__law_mixed : MS :=
    sSeq (sAsg (e2 fMod (eA fInt (aCons (e2 fAdd (e2 fAdd (e2 fMul (eV 0) (eC (.int 48271))) (e2 fMul (eV 1) (eC (.int 69621)))) (eC (.int 11))) (aNil))) (eC (.int 2147483647))) (gN 2))
    (sRet (e2 fDiv (e2 fMod (eA fInt (aCons (e2 fMul (eV 2) (e2 fAdd (e2 fAdd (e2 fDiv (eV 2) (eC (.int 1024))) (e2 fMul (eC (.int 16807)) (eV 1))) (eC (.int 5)))) (aNil))) (eC (.int 2147483399))) (eC (.int 16))))
def m__law_mixed : MF := gc (mDef 3 b__law_mixed)
def L0__law_row : MS :=
    sIf (bB (e2 fGt (eV 4) (eC (.int 0)))) (sSeq (sExp (eMt isL fAppend (eV 3) (aCons (e2 fMod (eA fInt (aCons (eV 4) (aNil))) (eV 2)) (aNil))))
    (sAsg (e2 fDiv (eV 4) (eV 2)) (gN 4))) (sExp (eMt isL fAppend (eV 3) (aCons (e2 fMod (eA fInt (aCons (call 2 m__law_mixed (aCons (eV 0) (aCons (eV 5) (aNil)))) (aNil))) (eV 2)) (aNil))))
def b__law_row : MS :=
    sSeq (sAsg (eA fLst (aNil)) (gN 3))
    (sSeq (sAsg (eA fAbs (aCons (eV 0) (aNil))) (gN 4))
    (sSeq (sIf (bB (e2 fLt (eV 4) (e2 fPow (eC (.int 10)) (eC (.int 18))))) (sAsg (eC (.int 0)) (gN 4)) (sNx))
    (sSeq (sForR rng1 (aCons (eV 1) (aNil)) (gN 5) (L0__law_row))
    (sRet (eV 3)))))
def m__law_row : MF := gc (mDef 6 b__law_row)
def b__law_cell : MS :=
    sSeq (sIf (bB (e2 fLt (eV 1) (eA fLen (aCons (eV 0) (aNil))))) (sRet (eA fInt (aCons (e2 fIxA (eV 0) (eV 1)) (aNil)))) (sNx))
    (sRet (eC (.int 0)))
def m__law_cell : MF := gc (mDef 2 b__law_cell)
def b__law_words : MS :=
    sSeq (sAsg (eA fLst (aCons (e2 fIxA (eA fLst (aCons (eC (.str "asked")) (aCons (eC (.str "all")) (aNil)))) (e2 fMod (eA fInt (aCons (eV 0) (aNil))) (eC (.int 2)))) (aCons (e2 fIxA (eA fLst (aCons (eC (.str "once")) (aCons (eC (.str "back")) (aNil)))) (e2 fMod (eA fInt (aCons (e2 fDiv (eV 0) (eC (.int 2))) (aNil))) (eC (.int 2)))) (aNil)))) (gN 1))
    (sRet (e2 fAdd (eV 1) (eA fLst (aCons (e2 fIxA (eA fLst (aCons (eC (.str "once")) (aCons (eC (.str "wait")) (aNil)))) (e2 fMod (eA fInt (aCons (e2 fDiv (eV 0) (eC (.int 4))) (aNil))) (eC (.int 2)))) (aCons (e2 fIxA (eA fLst (aCons (eC (.str "any")) (aCons (eC (.str "owner")) (aCons (eC (.str "given")) (aNil))))) (e2 fMod (eA fInt (aCons (e2 fDiv (eV 0) (eC (.int 8))) (aNil))) (eC (.int 3)))) (aNil))))))
def m__law_words : MF := gc (mDef 2 b__law_words)
def L0__law_lists : MS :=
    sSeq (sAsg (call 1 m__law_words (aCons (e2 fMod (eA fInt (aCons (e2 fIxA (eV 1) (eV 3)) (aNil))) (eC (.int 24))) (aNil))) (gN 4))
    (sSeq (sIf (bAnd (bB (e2 fEq (e2 fMod (eA fInt (aCons (eV 3) (aNil))) (eC (.int 2))) (eC (.int 1)))) (bB (e2 fLt (e2 fIxA (eV 1) (eC (.int 7))) (eC (.int 48))))) (sSeq (sAsg (eA fList (aCons (e2 fIxA (eV 2) (e1 fNeg (eC (.int 1)))) (aNil))) (gN 4))
    (sSeq (sAsg (e2 fMod (eA fInt (aCons (e2 fIxA (eV 1) (eV 3)) (aNil))) (eC (.int 4))) (gN 5))
    (sPutA (eV 4) (eV 5) (e2 fIxA (call 1 m__law_words (aCons (e2 fDiv (e2 fIxA (eV 1) (eV 3)) (eC (.int 4))) (aNil))) (eV 5))))) (sNx))
    (sExp (eMt isL fAppend (eV 2) (aCons (eV 4) (aNil)))))
def L1__law_lists : MS :=
    sSeq (sAsg (e2 fIxA (eA fLst (aCons (eC (.str "single")) (aCons (eC (.str "calm")) (aCons (eC (.str "steady")) (aCons (eC (.str "norepeat")) (aCons (eC (.str "forward")) (aNil))))))) (eV 7)) (gN 8))
    (sIf (bB (e2 fNotInA (eV 8) (eV 6))) (sExp (eMt isL fAppend (eV 6) (aCons (eV 8) (aNil)))) (sNx))
def b__law_lists : MS :=
    sSeq (sAsg (call 3 m__law_row (aCons (call 2 m__law_cell (aCons (eV 0) (aCons (eC (.int 0)) (aNil)))) (aCons (eC (.int 8)) (aCons (eC (.int 96)) (aNil))))) (gN 1))
    (sSeq (sAsg (eA fLst (aNil)) (gN 2))
    (sSeq (sForR rng1 (aCons (e2 fMod (eA fInt (aCons (call 2 m__law_cell (aCons (eV 0) (aCons (eC (.int 1)) (aNil)))) (aNil))) (eC (.int 8))) (aNil)) (gN 3) (L0__law_lists))
    (sSeq (sAsg (eA fLst (aNil)) (gN 6))
    (sSeq (sFor (call 3 m__law_row (aCons (call 2 m__law_cell (aCons (eV 0) (aCons (eC (.int 2)) (aNil)))) (aCons (e2 fMod (eA fInt (aCons (call 2 m__law_cell (aCons (eV 0) (aCons (eC (.int 3)) (aNil)))) (aNil))) (eC (.int 5))) (aCons (eC (.int 5)) (aNil))))) (gN 7) (L1__law_lists))
    (sRet (eA fLst (aCons (eV 2) (aCons (eV 6) (aNil)))))))))
def m__law_lists : MF := gc (mDef 9 b__law_lists)
def b_Promise___init__ : MS :=
    sSeq (sIf (bB (e2 fNotInA (eV 1) (eC k_PROMISES))) (sRaise "UnknownName" ["name"] (aCons (eV 1) (aNil))) (sNx))
    (sFldM (eV 0) (eV 1) "name" ["Promise"])
def m_Promise___init__ : MF := mDef 2 b_Promise___init__
def b_Verdict___init__ : MS :=
    sSeq (sFldM (eV 0) (eV 1) "kept" ["Verdict"])
    (sSeq (sFldM (eV 0) (eV 2) "table" ["Verdict"])
    (sFldM (eV 0) (eV 3) "run" ["Verdict"]))
def m_Verdict___init__ : MF := mDef 4 b_Verdict___init__
def b_after_enter : MS :=
    sSeq (sIf (bB (e2 fInA (eV 0) (eA fTup (aCons (eC (.str "out")) (aCons (eC (.str "out+")) (aNil)))))) (sRet (eC (.str "idle"))) (sNx))
    (sRet (eC .non))
def m_after_enter : MF := gc (mDef 3 b_after_enter)
def b_in_book : MS :=
    sRet (e2 fInA (eV 0) (eC k_IN_BOOK))
def m_in_book : MF := gc (mDef 1 b_in_book)
def b_after_leave : MS :=
    sSeq (sIf (bT (call 1 m_in_book (aCons (eV 0) (aNil)))) (sRet (eC (.str "out"))) (sNx))
    (sRet (eC .non))
def m_after_leave : MF := gc (mDef 3 b_after_leave)
def b_after_out : MS :=
    sSeq (sIf (bNot (bT (call 1 m_in_book (aCons (eV 0) (aNil))))) (sRet (eC .non)) (sNx))
    (sSeq (sIf (bB (e2 fEq (eV 0) (eC (.str "idle")))) (sRet (eC (.str "out"))) (sNx))
    (sSeq (sAsg (eC (.str "")) (gN 3))
    (sSeq (sIf (bB (e2 fEq (e1 (fFld "out" ["Book"]) (eV 1)) (eC (.str "wait")))) (sAsg (eC (.str "+")) (gN 3)) (sNx))
    (sSeq (sIf (bB (e2 fEq (eV 0) (eC (.str "rests")))) (sRet (e2 fAdd (eC (.str "out")) (eV 3))) (sNx))
    (sSeq (sIf (bB (e2 fEq (eV 0) (eC (.str "dealt")))) (sRet (e2 fAdd (eC (.str "latent")) (eV 3))) (sNx))
    (sRet (e2 fAdd (eC (.str "ghost")) (eV 3))))))))
def m_after_out : MF := gc (mDef 4 b_after_out)
def b_after_hear : MS :=
    sSeq (sIf (bB (e2 fInA (eV 0) (eA fTup (aCons (eC (.str "ghost")) (aCons (eC (.str "latent")) (aNil)))))) (sRet (eC (.str "out"))) (sNx))
    (sSeq (sIf (bB (e2 fInA (eV 0) (eA fTup (aCons (eC (.str "ghost+")) (aCons (eC (.str "latent+")) (aNil)))))) (sRet (eC (.str "out+"))) (sNx))
    (sRet (eC .non)))
def m_after_hear : MF := gc (mDef 3 b_after_hear)
def b_after_over : MS :=
    sSeq (sIf (bB (e2 fEq (eV 0) (eC (.str "out+")))) (sRet (eC (.str "out"))) (sNx))
    (sSeq (sIf (bAnd (bB (e2 fEq (e1 (fFld "out" ["Book"]) (eV 2)) (eC (.str "once")))) (bB (e2 fInA (eV 0) (eA fTup (aCons (eC (.str "ghost+")) (aCons (eC (.str "latent+")) (aNil))))))) (sRet (eSl (eV 0) (pNo) (pIs (e1 fNeg (eC (.int 1)))))) (sNx))
    (sRet (eC .non)))
def m_after_over : MF := gc (mDef 3 b_after_over)
def b_after_read : MS :=
    sSeq (sIf (bB (e2 fEq (eV 0) (eC (.str "dealt")))) (sRet (eC (.str "works"))) (sNx))
    (sSeq (sIf (bB (e2 fEq (eV 0) (eC (.str "late")))) (sRet (eC (.str "idle"))) (sNx))
    (sSeq (sIf (bB (e2 fEq (eV 0) (eC (.str "latent")))) (sRet (eC (.str "ghost"))) (sNx))
    (sSeq (sIf (bB (e2 fEq (eV 0) (eC (.str "latent+")))) (sRet (eC (.str "ghost+"))) (sNx))
    (sRet (eC .non)))))
def m_after_read : MF := gc (mDef 3 b_after_read)
def b_after_call : MS :=
    sSeq (sIf (bAnd (bB (e2 fEq (eV 0) (eC (.str "works")))) (bB (e2 fEq (e1 (fFld "stop" ["Book"]) (eV 2)) (eC (.str "all"))))) (sRet (eC (.str "rests"))) (sNx))
    (sRet (eC .non))
def m_after_call : MF := gc (mDef 3 b_after_call)
def b_after : MS :=
    sSeq (sAsg (eKGet t_CHANGES (eV 0)) (gN 4))
    (sSeq (sIf (bB (e2 fIsN (eV 4) (eC .non))) (sRet (eC .non)) (sNx))
    (sRet (eCallL 4 3 [("after_enter", m_after_enter), ("after_leave", m_after_leave), ("after_out", m_after_out), ("after_hear", m_after_hear), ("after_over", m_after_over), ("after_read", m_after_read), ("after_call", m_after_call)] (aCons (eV 1) (aCons (eV 2) (aCons (eV 3) (aNil)))))))
def m_after : MF := gc (mDef 5 b_after)
def b_place_dealt : MS :=
    sSeq (sIf (bNot (bT (call 1 m_in_book (aCons (eV 0) (aNil))))) (sRet (eV 0)) (sNx))
    (sSeq (sIf (bT (eV 1)) (sSeq (sIf (bB (e2 fEq (eV 0) (eC (.str "works")))) (sRet (eC (.str "works"))) (sNx))
    (sRet (eC (.str "dealt")))) (sNx))
    (sSeq (sIf (bB (e2 fEq (eV 0) (eC (.str "works")))) (sRet (eC (.str "late"))) (sNx))
    (sRet (eC (.str "idle")))))
def m_place_dealt : MF := gc (mDef 2 b_place_dealt)
def b_has_answered : MS :=
    sSeq (sIf (bB (e2 fEq (eV 0) (eC (.str "works")))) (sRet (e2 fEq (e1 (fFld "stop" ["Book"]) (eV 1)) (eC (.str "asked")))) (sNx))
    (sRet (eOr (eNot (call 1 m_in_book (aCons (eV 0) (aNil)))) (e2 fInA (eV 0) (eA fTup (aCons (eC (.str "idle")) (aCons (eC (.str "rests")) (aNil)))))))
def m_has_answered : MF := gc (mDef 2 b_has_answered)
def b_is_awaited : MS :=
    sRet (eMt isS fEnds (eV 0) (aCons (eC (.str "+")) (aNil)))
def m_is_awaited : MF := gc (mDef 1 b_is_awaited)
def b_may_be_dealt : MS :=
    sSeq (sIf (bNot (bT (call 1 m_in_book (aCons (eV 1) (aNil))))) (sRet (eC (.bl false))) (sNx))
    (sSeq (sIf (bAnd (bB (e2 fEq (e1 (fFld "move" ["Book"]) (eV 0)) (eC (.str "back")))) (bB (e2 fEq (eV 2) (eC (.str "works"))))) (sRet (eC (.bl false))) (sNx))
    (sRet (eOr (e2 fEq (e1 (fFld "out" ["Book"]) (eV 0)) (eC (.str "once"))) (eNot (call 1 m_is_awaited (aCons (eV 2) (aNil)))))))
def m_may_be_dealt : MF := gc (mDef 3 b_may_be_dealt)
def b_after_deal : MS :=
    sSeq (sAsgU (eV 1) [3, 4])
    (sSeq (sIf (bOr (bNot (bT (call 2 m_has_answered (aCons (eV 3) (aCons (e1 (fFld "first" ["Crew"]) (eV 0)) (aNil)))))) (bNot (bT (call 2 m_has_answered (aCons (eV 4) (aCons (e1 (fFld "second" ["Crew"]) (eV 0)) (aNil))))))) (sRet (eC .non)) (sNx))
    (sSeq (sIf (bAnd (bB (e2 fEq (eV 2) (eC (.str "first")))) (bNot (bT (call 3 m_may_be_dealt (aCons (e1 (fFld "head" ["Crew"]) (eV 0)) (aCons (eV 3) (aCons (eV 4) (aNil)))))))) (sRet (eC .non)) (sNx))
    (sSeq (sIf (bAnd (bB (e2 fEq (eV 2) (eC (.str "second")))) (bNot (bT (call 3 m_may_be_dealt (aCons (e1 (fFld "head" ["Crew"]) (eV 0)) (aCons (eV 4) (aCons (eV 3) (aNil)))))))) (sRet (eC .non)) (sNx))
    (sRet (eA fTup (aCons (call 2 m_place_dealt (aCons (eV 3) (aCons (e2 fEq (eV 2) (eC (.str "first"))) (aNil)))) (aCons (call 2 m_place_dealt (aCons (eV 4) (aCons (e2 fEq (eV 2) (eC (.str "second"))) (aNil)))) (aNil))))))))
def m_after_deal : MF := gc (mDef 5 b_after_deal)
def L0_steps : MS :=
    sSeq (sAsg (call 4 m_after (aCons (eV 5) (aCons (eV 2) (aCons (e1 (fFld "head" ["Crew"]) (eV 0)) (aCons (e1 (fFld "first" ["Crew"]) (eV 0)) (aNil)))))) (gN 6))
    (sIf (bB (e2 fNotN (eV 6) (eC .non))) (sExp (eMt isL fAppend (eV 4) (aCons (eA fTup (aCons (e2 fAdd (eV 5) (eC (.str " first"))) (aCons (eA fTup (aCons (eV 6) (aCons (eV 3) (aNil)))) (aNil)))) (aNil)))) (sNx))
def L1_steps : MS :=
    sSeq (sAsg (call 4 m_after (aCons (eV 5) (aCons (eV 3) (aCons (e1 (fFld "head" ["Crew"]) (eV 0)) (aCons (e1 (fFld "second" ["Crew"]) (eV 0)) (aNil)))))) (gN 6))
    (sIf (bB (e2 fNotN (eV 6) (eC .non))) (sExp (eMt isL fAppend (eV 4) (aCons (eA fTup (aCons (e2 fAdd (eV 5) (eC (.str " second"))) (aCons (eA fTup (aCons (eV 2) (aCons (eV 6) (aNil)))) (aNil)))) (aNil)))) (sNx))
def L2_steps : MS :=
    sSeq (sAsg (call 3 m_after_deal (aCons (eV 0) (aCons (eA fTup (aCons (eV 2) (aCons (eV 3) (aNil)))) (aCons (eV 7) (aNil))))) (gN 8))
    (sIf (bAnd (bB (e2 fNotN (eV 8) (eC .non))) (bB (e2 fNe (eV 8) (eA fTup (aCons (eV 2) (aCons (eV 3) (aNil))))))) (sExp (eMt isL fAppend (eV 4) (aCons (eA fTup (aCons (e2 fAdd (eC (.str "deal ")) (eV 7)) (aCons (eV 8) (aNil)))) (aNil)))) (sNx))
def b_steps : MS :=
    sSeq (sAsgU (eV 1) [2, 3])
    (sSeq (sAsg (eA fLst (aNil)) (gN 4))
    (sSeq (sFor (eC k_STEP_WORDS) (gN 5) (L0_steps))
    (sSeq (sFor (eC k_STEP_WORDS) (gN 5) (L1_steps))
    (sSeq (sFor (eA fTup (aCons (eC (.str "first")) (aCons (eC (.str "second")) (aCons (eC (.str "nobody")) (aNil))))) (gN 7) (L2_steps))
    (sRet (eV 4))))))
def m_steps : MF := gc (mDef 9 b_steps)
def b_owns : MS :=
    sRet (e2 fInA (eV 0) (eC k_OWNERS))
def m_owns : MF := gc (mDef 1 b_owns)
def L0_mark_moves : MS :=
    sIf (bAnd (bB (e2 fEq (eV 4) (eC (.str "")))) (bB (e2 fEq (e2 fIxA (eV 5) (eV 7)) (eC (.str "works"))))) (sExp (eMt isL fAppend (eV 6) (aCons (eA fTup (aCons (e2 fAdd (eC (.str "send ")) (eV 7)) (aCons (eA fTup (aCons (eV 2) (aCons (eV 3) (aCons (eV 7) (aNil))))) (aNil)))) (aNil)))) (sNx)
def L1_mark_moves : MS :=
    sIf (bAnd (bB (e2 fEq (eV 4) (eV 8))) (bB (e2 fEq (e2 fIxA (eV 5) (eV 7)) (eC (.str "works"))))) (sExp (eMt isL fAppend (eV 6) (aCons (eA fTup (aCons (e2 fAdd (eC (.str "mark ")) (eV 7)) (aCons (eA fTup (aCons (eV 2) (aCons (eV 3) (aCons (e2 fAdd (eV 8) (eC (.str "!"))) (aNil))))) (aNil)))) (aNil)))) (sNx)
def b_mark_moves : MS :=
    sSeq (sAsgU (eV 1) [2, 3, 4])
    (sSeq (sAsg (eDisp (dCons (eC (.str "first")) (eV 2) (dCons (eC (.str "second")) (eV 3) (dNil)))) (gN 5))
    (sSeq (sAsg (eA fLst (aNil)) (gN 6))
    (sSeq (sFor (eA fTup (aCons (eC (.str "first")) (aCons (eC (.str "second")) (aNil)))) (gN 7) (L0_mark_moves))
    (sSeq (sFor (eA fTup (aCons (eA fTup (aCons (eC (.str "first")) (aCons (eC (.str "second")) (aNil)))) (aCons (eA fTup (aCons (eC (.str "second")) (aCons (eC (.str "first")) (aNil)))) (aNil)))) (gT [7, 8]) (L1_mark_moves))
    (sSeq (sIf (bB (e2 fNe (eV 4) (eC (.str "")))) (sSeq (sAsg (eOr (e2 fNe (e1 (fFld "marks" ["Book"]) (e1 (fFld "head" ["Crew"]) (eV 0))) (eC (.str "owner"))) (call 1 m_owns (aCons (e2 fIxA (eV 5) (eMt isS fRstripC (eV 4) (aCons (eC (.str "!")) (aNil)))) (aNil)))) (gN 9))
    (sIf (bAnd (bT (eV 9)) (bT (eMt isS fEnds (eV 4) (aCons (eC (.str "!")) (aNil))))) (sExp (eMt isL fAppend (eV 6) (aCons (eA fTup (aCons (eC (.str "arrive")) (aCons (eC .non) (aNil)))) (aNil)))) (sExp (eMt isL fAppend (eV 6) (aCons (eA fTup (aCons (eC (.str "arrive")) (aCons (eA fTup (aCons (eV 2) (aCons (eV 3) (aCons (eC (.str "")) (aNil))))) (aNil)))) (aNil)))))) (sNx))
    (sRet (eV 6)))))))
def m_mark_moves : MF := gc (mDef 10 b_mark_moves)
def b_steady_move : MS :=
    sSeq (sIf (bAnd (bB (e2 fEq (eV 1) (eC (.str "deal first")))) (bB (e2 fEq (e2 fIxA (eV 0) (eC (.int 0))) (eC (.str "rests"))))) (sRet (eC .non)) (sNx))
    (sSeq (sIf (bAnd (bB (e2 fEq (eV 1) (eC (.str "deal second")))) (bB (e2 fEq (e2 fIxA (eV 0) (eC (.int 1))) (eC (.str "rests"))))) (sRet (eC .non)) (sNx))
    (sRet (eA fTup (aCons (e2 fIxA (eV 2) (eC (.int 0))) (aCons (e2 fIxA (eV 2) (eC (.int 1))) (aCons (e2 fIxA (eV 0) (eC (.int 2))) (aNil)))))))
def m_steady_move : MF := gc (mDef 3 b_steady_move)
def b_at_work : MS :=
    sRet (e2 fInA (eV 0) (eC k_AT_WORK))
def m_at_work : MF := gc (mDef 1 b_at_work)
def b_stops : MS :=
    sRet (eAnd (e2 fInA (eV 0) (eA fTup (aCons (eC (.str "leave")) (aCons (eC (.str "read")) (aCons (eC (.str "call")) (aNil)))))) (eAnd (call 1 m_at_work (aCons (eV 1) (aNil))) (eNot (call 1 m_at_work (aCons (eV 2) (aNil))))))
def m_stops : MF := gc (mDef 3 b_stops)
def b_is_saved : MS :=
    sSeq (sIf (bB (e2 fEq (eV 1) (eC (.str "late")))) (sRet (eOr (e2 fEq (e1 (fFld "marks" ["Book"]) (eV 0)) (eC (.str "any"))) (eAnd (e2 fEq (e1 (fFld "marks" ["Book"]) (eV 0)) (eC (.str "given"))) (eNot (call 1 m_owns (aCons (eV 2) (aNil))))))) (sNx))
    (sRet (eC (.bl true)))
def m_is_saved : MF := gc (mDef 3 b_is_saved)
def L0_norepeat_move : MS :=
    sSeq (sAsg (e2 fIxA (eV 1) (eV 6)) (gN 7))
    (sSeq (sAsg (e2 fIxA (eV 1) (e2 fSub (eC (.int 1)) (eV 6))) (gN 8))
    (sSeq (sIf (bAnd (bT (call 1 m_at_work (aCons (e2 fIxA (eV 3) (eV 6)) (aNil)))) (bAnd (bNot (bT (call 1 m_at_work (aCons (eV 7) (aNil))))) (bOr (bB (e2 fEq (e2 fIxA (eV 1) (eC (.int 2))) (eC (.str "d")))) (bT (call 1 m_at_work (aCons (eV 8) (aNil))))))) (sRet (eC .non)) (sNx))
    (sIf (bAnd (bT (call 3 m_stops (aCons (eV 5) (aCons (eV 7) (aCons (e2 fIxA (eV 3) (eV 6)) (aNil)))))) (bNot (bT (call 3 m_is_saved (aCons (e1 (fFld "head" ["Crew"]) (eV 0)) (aCons (eV 7) (aCons (eV 8) (aNil)))))))) (sAsg (eC (.str "d")) (gN 4)) (sNx))))
def b_norepeat_move : MS :=
    sSeq (sAsg (e2 fIxA (eV 1) (eC (.int 2))) (gN 4))
    (sSeq (sAsg (e2 fIxA (eMt isS fSplit (eV 2) (aCons (eC (.str " ")) (aNil))) (eC (.int 0))) (gN 5))
    (sSeq (sFor (eA fTup (aCons (eC (.int 0)) (aCons (eC (.int 1)) (aNil)))) (gN 6) (L0_norepeat_move))
    (sRet (eA fTup (aCons (e2 fIxA (eV 3) (eC (.int 0))) (aCons (e2 fIxA (eV 3) (eC (.int 1))) (aCons (eV 4) (aNil))))))))
def m_norepeat_move : MF := gc (mDef 9 b_norepeat_move)
def b_forward_move : MS :=
    sSeq (sAsg (e2 fIxA (eV 1) (eC (.int 2))) (gN 4))
    (sSeq (sIf (bB (e2 fEq (eV 4) (eC (.str "")))) (sRet (eA fTup (aCons (e2 fIxA (eV 3) (eC (.int 0))) (aCons (e2 fIxA (eV 3) (eC (.int 1))) (aCons (eC (.str "")) (aNil)))))) (sNx))
    (sSeq (sAsgU (eMt isS fSplit (eV 2) (aCons (eC (.str " ")) (aNil))) [5, 6])
    (sSeq (sAsg (eDisp (dCons (eC (.str "first")) (e2 fIxA (eV 1) (eC (.int 0))) (dCons (eC (.str "second")) (e2 fIxA (eV 1) (eC (.int 1))) (dNil)))) (gN 7))
    (sSeq (sIf (bB (e2 fEq (eV 5) (eC (.str "deal")))) (sIf (bAnd (bB (e2 fEq (e1 (fFld "marks" ["Book"]) (e1 (fFld "head" ["Crew"]) (eV 0))) (eC (.str "given")))) (bAnd (bB (e2 fNe (eV 6) (eC (.str "nobody")))) (bB (e2 fEq (e2 fIxA (eV 7) (eV 6)) (eC (.str "idle")))))) (sAsg (eC (.str "")) (gN 4)) (sNx)) (sIf (bB (e2 fEq (eV 6) (eMt isS fRstripC (eV 4) (aCons (eC (.str "!")) (aNil))))) (sSeq (sAsg (eDisp (dCons (eC (.str "first")) (e2 fIxA (eV 3) (eC (.int 0))) (dCons (eC (.str "second")) (e2 fIxA (eV 3) (eC (.int 1))) (dNil)))) (gN 8))
    (sIf (bT (call 3 m_stops (aCons (eV 5) (aCons (e2 fIxA (eV 7) (eV 6)) (aCons (e2 fIxA (eV 8) (eV 6)) (aNil)))))) (sAsg (eC (.str "")) (gN 4)) (sNx))) (sNx)))
    (sRet (eA fTup (aCons (e2 fIxA (eV 3) (eC (.int 0))) (aCons (e2 fIxA (eV 3) (eC (.int 1))) (aCons (eV 4) (aNil))))))))))
def m_forward_move : MF := gc (mDef 9 b_forward_move)
def b_single_move : MS :=
    sSeq (sIf (bAnd (bT (call 1 m_at_work (aCons (e2 fIxA (eV 1) (eC (.int 0))) (aNil)))) (bT (call 1 m_at_work (aCons (e2 fIxA (eV 1) (eC (.int 1))) (aNil))))) (sRet (eC .non)) (sNx))
    (sRet (eA fTup (aCons (e2 fIxA (eV 1) (eC (.int 0))) (aCons (e2 fIxA (eV 1) (eC (.int 1))) (aCons (e2 fIxA (eV 0) (eC (.int 2))) (aNil))))))
def m_single_move : MF := gc (mDef 2 b_single_move)
def L0_Promise___call__ : MS :=
    sSeq (sIf (bAnd (bB (e2 fInA (e1 (fFld "name" ["Promise"]) (eV 0)) (eA fTup (aCons (eC (.str "calm")) (aCons (eC (.str "norepeat")) (aNil)))))) (bT (eMt isS fStarts (eV 4) (aCons (eC (.str "out ")) (aNil))))) (sCnt) (sNx))
    (sIf (bB (e2 fEq (e1 (fFld "name" ["Promise"]) (eV 0)) (eC (.str "steady")))) (sExp (eMt isL fAppend (eV 3) (aCons (eA fTup (aCons (eV 4) (aCons (call 3 m_steady_move (aCons (eV 2) (aCons (eV 4) (aCons (eV 5) (aNil))))) (aNil)))) (aNil)))) (sIf (bB (e2 fEq (e1 (fFld "name" ["Promise"]) (eV 0)) (eC (.str "norepeat")))) (sExp (eMt isL fAppend (eV 3) (aCons (eA fTup (aCons (eV 4) (aCons (call 4 m_norepeat_move (aCons (eV 1) (aCons (eV 2) (aCons (eV 4) (aCons (eV 5) (aNil)))))) (aNil)))) (aNil)))) (sIf (bB (e2 fEq (e1 (fFld "name" ["Promise"]) (eV 0)) (eC (.str "forward")))) (sExp (eMt isL fAppend (eV 3) (aCons (eA fTup (aCons (eV 4) (aCons (call 4 m_forward_move (aCons (eV 1) (aCons (eV 2) (aCons (eV 4) (aCons (eV 5) (aNil)))))) (aNil)))) (aNil)))) (sExp (eMt isL fAppend (eV 3) (aCons (eA fTup (aCons (eV 4) (aCons (call 2 m_single_move (aCons (eV 2) (aCons (eV 5) (aNil)))) (aNil)))) (aNil)))))))
def b_Promise___call__ : MS :=
    sSeq (sAsg (eA fLst (aNil)) (gN 3))
    (sSeq (sFor (call 2 m_steps (aCons (eV 1) (aCons (eA fTup (aCons (e2 fIxA (eV 2) (eC (.int 0))) (aCons (e2 fIxA (eV 2) (eC (.int 1))) (aNil)))) (aNil)))) (gT [4, 5]) (L0_Promise___call__))
    (sSeq (sIf (bB (e2 fEq (e1 (fFld "name" ["Promise"]) (eV 0)) (eC (.str "forward")))) (sExp (eMt isL fExtend (eV 3) (aCons (call 2 m_mark_moves (aCons (eV 1) (aCons (eV 2) (aNil)))) (aNil)))) (sNx))
    (sRet (eV 3))))
def m_Promise___call__ : MF := gc (mDef 6 b_Promise___call__)
def L0_labels_to : MS :=
    sSeq (sExp (eMt isL fAppend (eV 2) (aCons (e2 fIxA (eV 3) (eC (.int 1))) (aNil))))
    (sAsg (e2 fIxA (eV 0) (e2 fIxA (eV 3) (eC (.int 0)))) (gN 3))
def b_labels_to : MS :=
    sSeq (sAsg (eA fLst (aNil)) (gN 2))
    (sSeq (sAsg (e2 fIxA (eV 0) (eV 1)) (gN 3))
    (sSeq (sWhile FUEL (bB (e2 fNotN (eV 3) (eC .non))) (L0_labels_to))
    (sRet (e1 fRevL (eV 2)))))
def m_labels_to : MF := gc (mDef 4 b_labels_to)
def L0_judge : MS :=
    sSeq (sIf (bB (e2 fIsN (eV 10) (eC .non))) (sRet (eMk "Verdict" 3 0 4 m_Verdict___init__ gPos (aCons (eC (.bl false)) (aCons (eC .non) (aCons (e2 fAdd (call 2 m_labels_to (aCons (eV 4) (aCons (eV 8) (aNil)))) (eA fLst (aCons (eV 9) (aNil)))) (aNil)))) aNil)) (sNx))
    (sIf (bB (e2 fNotInA (eV 10) (eV 4))) (sSeq (sPutA (eV 4) (eV 10) (eA fTup (aCons (eV 8) (aCons (eV 9) (aNil)))))
    (sExp (eMt isL fAppend (eV 7) (aCons (eV 10) (aNil))))) (sNx))
def L1_judge : MS :=
    sSeq (sExp (eMt isL fAppend (eV 5) (aCons (eV 8) (aNil))))
    (sFor (eICall "Promise" 3 m_Promise___call__ (eV 2) (aCons (eV 0) (aCons (eV 8) (aNil)))) (gT [9, 10]) (L0_judge))
def L2_judge : MS :=
    sSeq (sAsg (eA fLst (aNil)) (gN 7))
    (sSeq (sFor (eV 6) (gN 8) (L1_judge))
    (sAsg (eA fList (aCons (eV 7) (aNil))) (gN 6)))
def b_judge : MS :=
    sSeq (sAsg (eMk "Promise" 1 0 2 m_Promise___init__ gPos (aCons (eV 1) (aNil)) aNil) (gN 2))
    (sSeq (sAsg (eA fTup (aCons (eC (.str "out")) (aCons (eC (.str "out")) (aCons (eC (.str "")) (aNil))))) (gN 3))
    (sSeq (sAsg (eDt1 (eV 3) (eC .non)) (gN 4))
    (sSeq (sAsg (eA fLst (aNil)) (gN 5))
    (sSeq (sAsg (eA fLst (aCons (eV 3) (aNil))) (gN 6))
    (sSeq (sWhile FUEL (bB (e2 fGt (eA fLen (aCons (eV 6) (aNil))) (eC (.int 0)))) (L2_judge))
    (sRet (eMk "Verdict" 3 0 4 m_Verdict___init__ gPos (aCons (eC (.bl true)) (aCons (eV 5) (aCons (eC .non) (aNil)))) aNil)))))))
def m_judge : MF := gc (mDef 11 b_judge)
def b_Crew___init__ : MS :=
    sSeq (sFldM (eV 0) (eV 1) "head" ["Crew"])
    (sSeq (sFldM (eV 0) (eV 2) "first" ["Crew"])
    (sFldM (eV 0) (eV 3) "second" ["Crew"]))
def m_Crew___init__ : MF := mDef 4 b_Crew___init__
def b_Crew_plain : MS :=
    sRet (eMkL 0 "Crew" 3 0 4 m_Crew___init__ gPos (aCons (eV 1) (aCons (eV 1) (aCons (eV 1) (aNil)))) aNil)
def m_Crew_plain : MF := mDef 2 b_Crew_plain
def L0_first_broken : MS :=
    sSeq (sAsg (call 2 m_judge (aCons (eCMeth "Crew" 2 m_Crew_plain (aCons (eV 0) (aNil))) (aCons (eV 2) (aNil)))) (gN 3))
    (sIf (bNot (bT (e1 (fFld "kept" ["Verdict"]) (eV 3)))) (sRet (eA fTup (aCons (eV 2) (aCons (e1 (fFld "run" ["Verdict"]) (eV 3)) (aNil))))) (sNx))
def b_first_broken : MS :=
    sSeq (sFor (eV 1) (gN 2) (L0_first_broken))
    (sRet (eC .non))
def m_first_broken : MF := gc (mDef 4 b_first_broken)
def b_at_most : MS :=
    sRet (e2 fLe (eMt isKT fTupIx (eV 0) (aCons (eV 1) (aNil))) (eMt isKT fTupIx (eV 0) (aCons (eV 2) (aNil))))
def m_at_most : MF := gc (mDef 3 b_at_most)
def b_Book___le__ : MS :=
    sSeq (sIf (bNot (bT (eA (fIsi ownT) (aCons (eV 1) (aCons (eC (.glo "Book")) (aNil)))))) (sNo) (sNx))
    (sSeq (sIf (bOr (bNot (bT (call 3 m_at_most (aCons (eC k_STOPS) (aCons (e1 (fFld "stop" ["Book"]) (eV 0)) (aCons (e1 (fFld "stop" ["Book"]) (eV 1)) (aNil))))))) (bNot (bT (call 3 m_at_most (aCons (eC k_MOVES) (aCons (e1 (fFld "move" ["Book"]) (eV 0)) (aCons (e1 (fFld "move" ["Book"]) (eV 1)) (aNil)))))))) (sRet (eC (.bl false))) (sNx))
    (sRet (eAnd (call 3 m_at_most (aCons (eC k_OUTS) (aCons (e1 (fFld "out" ["Book"]) (eV 0)) (aCons (e1 (fFld "out" ["Book"]) (eV 1)) (aNil))))) (e2 fInA (e1 (fFld "marks" ["Book"]) (eV 0)) (eA fTup (aCons (eC (.str "any")) (aCons (e1 (fFld "marks" ["Book"]) (eV 1)) (aNil))))))))
def m_Book___le__ : MF := mDef 2 b_Book___le__
def b_Book___eq__ : MS :=
    sRet (eAnd (eA (fIsi ownT) (aCons (eV 1) (aCons (eC (.glo "Book")) (aNil)))) (e2 fEq (e1 (fFld "pairs" ["Book"]) (eV 0)) (e1 (fFld "pairs" ["Book"]) (eV 1))))
def m_Book___eq__ : MF := mDef 2 b_Book___eq__
def Z0_weakest : ME :=
    call 2 m_first_broken (aCons (eV 5) (aCons (eV 1) (aNil)))
def Z1_weakest : ME :=
    eV 8
def ZT1_weakest : MB :=
    bAnd (bB (eOwn [("Book", m_Book___le__)] false (eV 9) (eV 5))) (bNot (bB (eOwn [("Book", m_Book___eq__)] false (eV 9) (eV 5))))
def Z3_weakest : ME :=
    eV 8
def ZT3_weakest : MB :=
    bB (e2 fIsN (e2 fIxA (eV 2) (eV 8)) (eC .non))
def Z5_weakest : ME :=
    eA fTup (aCons (e2 fIxA (eV 0) (eV 8)) (aCons (e2 fIxA (e2 fIxA (eV 2) (eV 8)) (eC (.int 0))) (aCons (e2 fIxA (e2 fIxA (eV 2) (eV 8)) (eC (.int 1))) (aNil))))
def L0_weakest : MS :=
    sSeq (sAsg (eLcE (eV 0) (gT [8, 9]) (ZT1_weakest) Z1_weakest [8, 9]) (gN 6))
    (sSeq (sIf (bOr (bB (e2 fNotN (e2 fIxA (eV 2) (eV 4)) (eC .non))) (bB (e2 fNe (eLc (eV 6) (gN 8) (ZT3_weakest) Z3_weakest [8]) (eA fLst (aNil))))) (sCnt) (sNx))
    (sSeq (sAsg (eLc (eV 6) (gN 8) (bYes) Z5_weakest [8]) (gN 7))
    (sExp (eMt isL fAppend (eV 3) (aCons (eA fTup (aCons (eV 5) (aCons (eV 7) (aNil)))) (aNil))))))
def b_weakest : MS :=
    sSeq (sAsg (eLc (eV 0) (gN 5) (bYes) Z0_weakest [5]) (gN 2))
    (sSeq (sAsg (eA fLst (aNil)) (gN 3))
    (sSeq (sForE (eV 0) (gT [4, 5]) (L0_weakest))
    (sRet (eV 3))))
def m_weakest : MF := gc (mDef 10 b_weakest)
def L0_Book___init__ : MS :=
    sIf (bB (e2 fNotInA (eV 5) (eV 6))) (sRaise "BadBook" ["option"] (aCons (eV 5) (aNil))) (sNx)
def b_Book___init__ : MS :=
    sSeq (sFor (eA fTup (aCons (eA fTup (aCons (eV 1) (aCons (eC k_STOPS) (aNil)))) (aCons (eA fTup (aCons (eV 2) (aCons (eC k_MOVES) (aNil)))) (aCons (eA fTup (aCons (eV 3) (aCons (eC k_OUTS) (aNil)))) (aCons (eA fTup (aCons (eV 4) (aCons (eC k_MARKS) (aNil)))) (aNil)))))) (gT [5, 6]) (L0_Book___init__))
    (sSeq (sFldM (eV 0) (eV 1) "stop" ["Book"])
    (sSeq (sFldM (eV 0) (eV 2) "move" ["Book"])
    (sSeq (sFldM (eV 0) (eV 3) "out" ["Book"])
    (sSeq (sFldM (eV 0) (eV 4) "marks" ["Book"])
    (sFldM (eV 0) (eA fLst (aCons (eA fTup (aCons (eC (.str "stop")) (aCons (eV 1) (aNil)))) (aCons (eA fTup (aCons (eC (.str "move")) (aCons (eV 2) (aNil)))) (aCons (eA fTup (aCons (eC (.str "out")) (aCons (eV 3) (aNil)))) (aCons (eA fTup (aCons (eC (.str "marks")) (aCons (eV 4) (aNil)))) (aNil)))))) "pairs" ["Book"])))))
def m_Book___init__ : MF := mDef 7 b_Book___init__
def b__law_book : MS :=
    sRet (eMk "Book" 0 4 5 m_Book___init__ (gPat [(0, 0), (2, 0), (2, 1), (2, 2), (2, 3)] []) aNil (aCons (e2 fIxA (eV 0) (eC (.int 0))) (aCons (e2 fIxA (eV 0) (eC (.int 1))) (aCons (e2 fIxA (eV 0) (eC (.int 2))) (aCons (e2 fIxA (eV 0) (eC (.int 3))) (aNil))))))
def m__law_book : MF := gc (mDef 1 b__law_book)
def b__law_words_of : MS :=
    sRet (eA fLst (aCons (e1 (fFld "stop" ["Book"]) (eV 0)) (aCons (e1 (fFld "move" ["Book"]) (eV 0)) (aCons (e1 (fFld "out" ["Book"]) (eV 0)) (aCons (e1 (fFld "marks" ["Book"]) (eV 0)) (aNil))))))
def m__law_words_of : MF := gc (mDef 1 b__law_words_of)
def b__law_form : MS :=
    sSeq (sAsg (eAnd (e2 fEq (e2 fIxA (eV 2) (eC (.int 0))) (eC (.str "all"))) (e2 fEq (e2 fIxA (eV 3) (eC (.int 0))) (eC (.str "all")))) (gN 4))
    (sSeq (sAsg (eOr (e2 fEq (e2 fIxA (eV 1) (eC (.int 1))) (eC (.str "back"))) (eV 4)) (gN 5))
    (sSeq (sIf (bB (e2 fEq (eV 0) (eC (.str "calm")))) (sRet (eV 5)) (sNx))
    (sSeq (sIf (bB (e2 fEq (eV 0) (eC (.str "single")))) (sRet (eAnd (eV 5) (e2 fEq (eA fLst (aCons (e2 fIxA (eV 1) (eC (.int 2))) (aCons (e2 fIxA (eV 2) (eC (.int 2))) (aCons (e2 fIxA (eV 3) (eC (.int 2))) (aNil))))) (eA fLst (aCons (eC (.str "wait")) (aCons (eC (.str "wait")) (aCons (eC (.str "wait")) (aNil)))))))) (sNx))
    (sSeq (sIf (bB (e2 fEq (eV 0) (eC (.str "steady")))) (sRet (eAnd (e2 fEq (e2 fIxA (eV 2) (eC (.int 0))) (eC (.str "asked"))) (e2 fEq (e2 fIxA (eV 3) (eC (.int 0))) (eC (.str "asked"))))) (sNx))
    (sSeq (sIf (bB (e2 fEq (eV 0) (eC (.str "norepeat")))) (sRet (eAnd (eV 5) (eOr (eV 4) (e2 fNe (e2 fIxA (eV 1) (eC (.int 3))) (eC (.str "owner")))))) (sNx))
    (sRet (e2 fEq (e2 fIxA (eV 1) (eC (.int 3))) (eC (.str "given")))))))))
def m__law_form : MF := gc (mDef 6 b__law_form)
def L0__law_broken : MS :=
    sIf (bNot (bT (call 4 m__law_form (aCons (eV 2) (aCons (eV 0) (aCons (eV 0) (aCons (eV 0) (aNil)))))))) (sRet (eV 2)) (sNx)
def b__law_broken : MS :=
    sSeq (sFor (eV 1) (gN 2) (L0__law_broken))
    (sRet (eC .non))
def m__law_broken : MF := gc (mDef 3 b__law_broken)
def L0__law_at_most : MS :=
    sIf (bB (e2 fGt (e2 fIxA (eV 2) (e2 fIxA (eV 0) (eV 3))) (e2 fIxA (eV 2) (e2 fIxA (eV 1) (eV 3))))) (sRet (eC (.bl false))) (sNx)
def b__law_at_most : MS :=
    sSeq (sAsg (eDisp (dCons (eC (.str "asked")) (eC (.int 0)) (dCons (eC (.str "all")) (eC (.int 1)) (dCons (eC (.str "once")) (eC (.int 0)) (dCons (eC (.str "back")) (eC (.int 1)) (dCons (eC (.str "wait")) (eC (.int 1)) (dNil))))))) (gN 2))
    (sSeq (sForR rng1 (aCons (eC (.int 3)) (aNil)) (gN 3) (L0__law_at_most))
    (sRet (eOr (e2 fEq (e2 fIxA (eV 0) (eC (.int 3))) (eC (.str "any"))) (e2 fEq (e2 fIxA (eV 0) (eC (.int 3))) (e2 fIxA (eV 1) (eC (.int 3)))))))
def m__law_at_most : MF := gc (mDef 4 b__law_at_most)
def Z0__law_breaks : ME :=
    e2 fIxA (eV 7) (eC (.int 1))
def ZT0__law_breaks : MB :=
    bB (e2 fEq (e2 fIxA (eV 7) (eC (.int 0))) (e2 fIxA (eV 2) (eV 5)))
def L0__law_breaks : MS :=
    sSeq (sAsg (eLc (eICall "Promise" 3 m_Promise___call__ (eV 3) (aCons (eV 1) (aCons (eV 4) (aNil)))) (gN 7) (ZT0__law_breaks) Z0__law_breaks [7]) (gN 6))
    (sSeq (sIf (bB (e2 fNe (eA fLen (aCons (eV 6) (aNil))) (eC (.int 1)))) (sRet (eC (.bl false))) (sNx))
    (sSeq (sIf (bB (e2 fIsN (e2 fIxA (eV 6) (eC (.int 0))) (eC .non))) (sRet (e2 fEq (eV 5) (e2 fSub (eA fLen (aCons (eV 2) (aNil))) (eC (.int 1))))) (sNx))
    (sAsg (e2 fIxA (eV 6) (eC (.int 0))) (gN 4))))
def b__law_breaks : MS :=
    sSeq (sAsg (eMk "Promise" 1 0 2 m_Promise___init__ gPos (aCons (eV 0) (aNil)) aNil) (gN 3))
    (sSeq (sAsg (eA fTup (aCons (eC (.str "out")) (aCons (eC (.str "out")) (aCons (eC (.str "")) (aNil))))) (gN 4))
    (sSeq (sForR rng1 (aCons (eA fLen (aCons (eV 2) (aNil))) (aNil)) (gN 5) (L0__law_breaks))
    (sRet (eC (.bl false)))))
def m__law_breaks : MF := gc (mDef 8 b__law_breaks)
def b__law_row_right : MS :=
    sSeq (sIf (bOr (bNot (bT (eA (fIsi ownT) (aCons (eV 0) (aCons (eC (.ty "tuple")) (aNil)))))) (bOr (bB (e2 fNe (eA fLen (aCons (eV 0) (aNil))) (eC (.int 3)))) (bNot (bT (eA (fIsi ownT) (aCons (e2 fIxA (eV 0) (eC (.int 2))) (aCons (eC (.ty "list")) (aNil)))))))) (sRet (eC (.bl false))) (sNx))
    (sSeq (sAsg (call 1 m__law_words_of (aCons (e2 fIxA (eV 0) (eC (.int 0))) (aNil))) (gN 3))
    (sSeq (sIf (bOr (bB (e2 fNotInA (eV 3) (eV 2))) (bB (e2 fNe (e2 fIxA (eV 0) (eC (.int 1))) (call 2 m__law_broken (aCons (eV 3) (aCons (eV 1) (aNil))))))) (sRet (eC (.bl false))) (sNx))
    (sSeq (sAsg (eCMeth "Crew" 2 m_Crew_plain (aCons (call 1 m__law_book (aCons (eV 3) (aNil))) (aNil))) (gN 4))
    (sRet (eAnd (call 3 m__law_breaks (aCons (e2 fIxA (eV 0) (eC (.int 1))) (aCons (eV 4) (aCons (e2 fIxA (eV 0) (eC (.int 2))) (aNil))))) (e2 fEq (eA fLen (aCons (e2 fIxA (eV 0) (eC (.int 2))) (aNil))) (eA fLen (aCons (e1 (fFld "run" ["Verdict"]) (call 2 m_judge (aCons (eV 4) (aCons (e2 fIxA (eV 0) (eC (.int 1))) (aNil))))) (aNil)))))))))
def m__law_row_right : MF := gc (mDef 5 b__law_row_right)
def Z0_law : ME :=
    call 1 m__law_book (aCons (eV 8) (aNil))
def Z1_law : ME :=
    call 1 m__law_words_of (aCons (eV 13) (aNil))
def Z2_law : ME :=
    eV 14
def ZT2_law : MB :=
    bAnd (bT (call 2 m__law_at_most (aCons (eV 14) (aCons (eV 8) (aNil))))) (bB (e2 fNe (eV 14) (eV 8)))
def Z4_law : ME :=
    eV 14
def ZT4_law : MB :=
    bB (e2 fIsN (call 2 m__law_broken (aCons (eV 14) (aCons (eV 3) (aNil)))) (eC .non))
def Z6_law : ME :=
    eV 14
def ZT6_law : MB :=
    bAnd (bT (call 2 m__law_at_most (aCons (eV 14) (aCons (eV 8) (aNil))))) (bB (e2 fNe (eV 14) (eV 8)))
def Z8_law : ME :=
    eMt isS fJoin (eC (.str " ")) (aCons (call 1 m__law_words_of (aCons (e2 fIxA (eV 15) (eC (.int 0))) (aNil))) (aNil))
def Z9_law : ME :=
    eMt isS fJoin (eC (.str " ")) (aCons (eV 14) (aNil))
def Z10_law : ME :=
    eV 15
def ZT10_law : MB :=
    bNot (bT (call 3 m__law_row_right (aCons (eV 15) (aCons (eV 3) (aCons (eV 9) (aNil))))))
def L0_law : MS :=
    sSeq (sAsg (eLc (eV 2) (gN 14) (ZT2_law) Z2_law [14]) (gN 9))
    (sSeq (sAsg (eLc (eV 9) (gN 14) (ZT4_law) Z4_law [14]) (gN 10))
    (sIf (bAnd (bB (e2 fIsN (call 2 m__law_broken (aCons (eV 8) (aCons (eV 3) (aNil)))) (eC .non))) (bB (e2 fEq (eV 10) (eA fLst (aNil))))) (sExp (eMt isL fAppend (eV 7) (aCons (eV 8) (aNil)))) (sNx)))
def L1_law : MS :=
    sSeq (sIf (bOr (bNot (bT (eA (fIsi ownT) (aCons (eV 11) (aCons (eC (.ty "tuple")) (aNil)))))) (bOr (bB (e2 fNe (eA fLen (aCons (eV 11) (aNil))) (eC (.int 2)))) (bNot (bT (eA (fIsi ownT) (aCons (e2 fIxA (eV 11) (eC (.int 1))) (aCons (eC (.ty "list")) (aNil)))))))) (sRet (eC (.bl false))) (sNx))
    (sSeq (sAsg (call 1 m__law_words_of (aCons (e2 fIxA (eV 11) (eC (.int 0))) (aNil))) (gN 8))
    (sSeq (sIf (bB (e2 fNotInA (eV 8) (eV 7))) (sRet (eC (.bl false))) (sNx))
    (sSeq (sExp (eMt isL fRemS (eV 7) (aCons (eV 8) (aNil))))
    (sSeq (sAsg (eLc (eV 2) (gN 14) (ZT6_law) Z6_law [14]) (gN 9))
    (sSeq (sAsg (eA fSortS (aCons (eLc (e2 fIxA (eV 11) (eC (.int 1))) (gN 15) (bYes) Z8_law [15]) (aNil))) (gN 12))
    (sSeq (sIf (bB (e2 fNe (eV 12) (eA fSortS (aCons (eLc (eV 9) (gN 14) (bYes) Z9_law [14]) (aNil))))) (sRet (eC (.bl false))) (sNx))
    (sIf (bB (e2 fNe (eLc (e2 fIxA (eV 11) (eC (.int 1))) (gN 15) (ZT10_law) Z10_law [15]) (eA fLst (aNil)))) (sRet (eC (.bl false))) (sNx))))))))
def b_law : MS :=
    sSeq (sAsg (call 1 m__law_lists (aCons (eV 0) (aNil))) (gN 1))
    (sSeq (sAsg (e2 fIxA (eV 1) (eC (.int 0))) (gN 2))
    (sSeq (sAsg (e2 fIxA (eV 1) (eC (.int 1))) (gN 3))
    (sSeq (sAsg (eLc (eV 2) (gN 8) (bYes) Z0_law [8]) (gN 4))
    (sSeq (sAsg (eA fList (aCons (eV 3) (aNil))) (gN 5))
    (sSeq (sAsg (call 2 m_weakest (aCons (eV 4) (aCons (eV 5) (aNil)))) (gN 6))
    (sSeq (sIf (bOr (bNot (bT (eA (fIsi ownT) (aCons (eV 6) (aCons (eC (.ty "list")) (aNil)))))) (bOr (bB (e2 fNe (eV 5) (eV 3))) (bB (e2 fNe (eLc (eV 4) (gN 13) (bYes) Z1_law [13]) (eV 2))))) (sRet (eC (.bl false))) (sNx))
    (sSeq (sAsg (eA fLst (aNil)) (gN 7))
    (sSeq (sFor (eV 2) (gN 8) (L0_law))
    (sSeq (sFor (eV 6) (gN 11) (L1_law))
    (sRet (e2 fEq (eV 7) (eA fLst (aNil)))))))))))))
def m_law : MF := mDef 16 b_law
end
end Lw
namespace Lw
open PySem L2 Mo
theorem cell_eq (ns : List Int) (k : Nat) (h : MH) : m__law_cell [.frl (ns.map MV.int), .int k] h = .ok (.int (ns.getD k 0)) h := by
  refine gc_okE ?_ rfl
  by_cases hk : k < ns.length
  · simp [b__law_cell, mDef_ev, eV, hk, atI_ofNat]
  · simp [b__law_cell, mDef_ev, eV, hk, List.getElem?_eq_none (Nat.le_of_not_lt hk)]
theorem cell_ex (ns : List Int) (k : Nat) : ∃ c : Int, ∀ h, m__law_cell [.frl (ns.map MV.int), .int k] h = .ok (.int c) h := ⟨_, fun h => cell_eq ns k h⟩
def mxP (n k : Int) : Int := ((n * 48271 + k * 69621 + 11) % 2147483647) * (((n * 48271 + k * 69621 + 11) % 2147483647) / 1024 + 16807 * k + 5) % 2147483399 / 16
theorem mixed_eq (n k : Int) (h : MH) : m__law_mixed [.int n, .int k] h = .ok (.int (mxP n k)) h := by
  refine gc_okE ?_ rfl
  have h0 : 0 ≤ (n * 48271 + k * 69621 + 11) % 2147483647 := Int.emod_nonneg _ (by decide)
  have h1 : (n * 48271 + k * 69621 + 11) % 2147483647 < 2147483647 := Int.emod_lt_of_pos _ (by decide)
  have h2 : -18446744073709551616 < (n * 48271 + k * 69621 + 11) % 2147483647 ∧ (n * 48271 + k * 69621 + 11) % 2147483647 < 18446744073709551616 := by omega
  simp [b__law_mixed, mDef_ev, eV, h2, mxP]
def rowGo (c base : Int) : Nat → Nat → Int → List Int
  | 0, _, _ => []
  | n + 1, k, r => if 0 < r then (r % base) :: rowGo c base n (k + 1) (r / base) else (mxP c k % base) :: rowGo c base n (k + 1) r
theorem rowGo_length (c base : Int) : ∀ n k r, (rowGo c base n k r).length = n
  | 0, _, _ => rfl
  | n + 1, k, r => by
    unfold rowGo
    split <;> simp [rowGo_length c base n]
theorem rowGo_lt (c base : Int) (hb : 0 < base) : ∀ n k r, ∀ x ∈ rowGo c base n k r, 0 ≤ x ∧ x < base
  | 0, _, _ => by simp [rowGo]
  | n + 1, k, r => by
    unfold rowGo
    split <;> (intro x hx; rcases List.mem_cons.mp hx with e | hx)
    · subst e; exact ⟨Int.emod_nonneg _ (by omega), Int.emod_lt_of_pos _ hb⟩
    · exact rowGo_lt c base hb n _ _ x hx
    · subst e; exact ⟨Int.emod_nonneg _ (by omega), Int.emod_lt_of_pos _ hb⟩
    · exact rowGo_lt c base hb n _ _ x hx
theorem fMod_ev {i j : Int} {h : MH} : fMod (.int i) (.int j) h = if 0 < j then some (.int (i % j), h) else none := rfl
theorem row_loop (c base : Int) (cnt : MV) (n : Nat) (h : MH) (hb : 0 < base) (hb2 : base < 1073741824) : ∀ (m i : Nat) (r : Int) (xs : List Int) (x5 : Option MV), i + m = n → xs.length + m < SZ →
    ∃ r' x5', forG (getR 0 n) (gN 5) L0__law_row (m + 1) i [some (.int c), some cnt, some (.int base), some (.ref h.length), some (.int r), x5] (h ++ [.lst (xs.map .int)]) =
      .nx [some (.int c), some cnt, some (.int base), some (.ref h.length), some (.int r'), x5'] (h ++ [.lst ((xs ++ rowGo c base m i r).map .int)]) := by
  intro m
  induction m with
  | zero =>
    intro i r xs x5 hi hl
    refine ⟨r, x5, ?_⟩
    rw [forG_ev]
    simp [rowGo, show ¬ i < n by omega]
  | succ m ih =>
    intro i r xs x5 hi hl
    rw [forG_ev]
    have hl2 : xs.length < SZ := by omega
    have hl3 : xs.length < 16777216 := hl2
    by_cases hr : 0 < r
    · obtain ⟨r', x', e⟩ := ih (i + 1) (r / base) (xs ++ [r % base]) (some (.int i)) (by omega) (by simp; omega)
      refine ⟨r', x', ?_⟩
      rw [getR_ev, if_pos (show i < n by omega), KF_go]
      conv => lhs; arg 1; unfold L0__law_row
      simp [eV, hr, isL_ref, at_app0, fAppend_ref, hl3, set_app0, fMod_ev, hb, hb2]
      simp at e
      rw [e]
      simp [rowGo, hr]
    · obtain ⟨r', x', e⟩ := ih (i + 1) r (xs ++ [mxP c i % base]) (some (.int i)) (by omega) (by simp; omega)
      refine ⟨r', x', ?_⟩
      rw [getR_ev, if_pos (show i < n by omega), KF_go]
      conv => lhs; arg 1; unfold L0__law_row
      simp [eV, hr, isL_ref, at_app0, fAppend_ref, hl3, set_app0, fMod_ev, hb, hb2, mixed_eq]
      simp at e
      rw [e]
      simp [rowGo, hr]
def rowP (c : Int) (n : Nat) (base : Int) : List Int := rowGo c base n 0 (if (if c < 0 then -c else c) < 1000000000000000000 then 0 else (if c < 0 then -c else c))
theorem row_key (c : Int) (n : Nat) (base : Int) (h : MH) (hn : n < 1000) (hb : 0 < base) (hb2 : base < 1073741824) : ∀ r x5, ∃ r' x5', forG (getR 0 n) (gN 5) L0__law_row (n + 1) 0 [some (.int c), some (.int n), some (.int base), some (.ref h.length), some (.int r), x5] (h ++ [.lst []]) =
      .nx [some (.int c), some (.int n), some (.int base), some (.ref h.length), some (.int r'), x5'] (h ++ [.lst ((rowGo c base n 0 r).map .int)]) := fun r x5 => by
    have h1 : ([] : List Int).length + n < SZ := by
      have : ([] : List Int).length = 0 := rfl
      rw [this]
      have : SZ = 16777216 := rfl
      omega
    have := row_loop c base (.int n) n h hb hb2 n 0 r [] x5 (by omega) h1
    simpa only [List.nil_append, List.map_nil] using this
theorem row_pre (c : Int) (n : Nat) (base : Int) (h : MH) (b : MS) :
  sSeq (sAsg (eA fLst (aNil)) (gN 3))
    (sSeq (sAsg (eA fAbs (aCons (eV 0) (aNil))) (gN 4))
    (sSeq (sIf (bB (e2 fLt (eV 4) (e2 fPow (eC (.int 10)) (eC (.int 18))))) (sAsg (eC (.int 0)) (gN 4)) (sNx)) b)) [some (.int c), some (.int n), some (.int base), none, none, none] h =
   b [some (.int c), some (.int n), some (.int base), some (.ref h.length), some (.int (if (if c < 0 then -c else c) < 1000000000000000000 then 0 else (if c < 0 then -c else c))), none] (h ++ [.lst []]) := by
  by_cases hc : (if c < 0 then -c else c) < 1000000000000000000 <;> simp [eV, hc]
theorem row_post (c : Int) (n : Nat) (base r : Int) (h : MH) (hn : n < 1000) (hb : 0 < base) (hb2 : base < 1073741824) :
    sSeq (sForR rng1 (aCons (eV 1) (aNil)) (gN 5) L0__law_row) (sRet (eV 3)) [some (.int c), some (.int n), some (.int base), some (.ref h.length), some (.int r), none] (h ++ [.lst []]) = .rt (.ref h.length) (h ++ [.lst ((rowGo c base n 0 r).map .int)]) := by
  obtain ⟨r', x', e⟩ := row_key c n base h hn hb hb2 r none
  have hr : -4611686018427387904 ≤ (n : Int) ∧ (n : Int) < 4611686018427387904 := by omega
  simp [eV, KFR_1, hr, e]
theorem row_eq (c : Int) (n : Nat) (base : Int) (h : MH) (hn : n < 1000) (hb : 0 < base) (hb2 : base < 1073741824) : m__law_row [.int c, .int n, .int base] h = .ok (.ref h.length) (h ++ [.lst ((rowP c n base).map .int)]) := by
  refine gc_new (k := 0) (g := [.lst ((rowP c n base).map .int)]) (o := .lst ((rowP c n base).map .int)) ?_ rfl (norefs_int _)
  rw [mDef_ev]
  unfold b__law_row
  show KD (_ : SR) = _
  have e1 := row_pre c n base h (sSeq (sForR rng1 (aCons (eV 1) (aNil)) (gN 5) L0__law_row) (sRet (eV 3)))
  have e2 := row_post c n base (if (if c < 0 then -c else c) < 1000000000000000000 then 0 else (if c < 0 then -c else c)) h hn hb hb2
  exact (congrArg KD (e1.trans e2)).trans rfl
end Lw
namespace Lw
open PySem L2 Mo
def wsP (n : Int) : List Str := [if n % 2 = 0 then "asked" else "all", if n / 2 % 2 = 0 then "once" else "back", if n / 4 % 2 = 0 then "once" else "wait", if n / 8 % 3 = 0 then "any" else if n / 8 % 3 = 1 then "owner" else "given"]
theorem words_eq (n : Int) (h : MH) : m__law_words [.int n] h = .ok (.ref h.length) (h ++ [.lst ((wsP n).map .str)]) := by
  refine gc_newE (o := .lst ((wsP n).map .str)) ?_ (norefs_str _)
  simp [b__law_words, mDef_ev, eV, SZ, isDM_lst, at_app, at_app0, fIx_ref, atI_2, atI_3, fAdd_ref]
  simp [wsP, apply_ite MV.str]
  exact ⟨_, _, ⟨rfl, rfl⟩, rfl⟩
end Lw
namespace Lw
open PySem L2 Mo
def pls : List Str := ["out", "out+", "latent", "latent+", "ghost", "ghost+", "idle", "dealt", "works", "late", "rests"]
def sts : List Str := ["enter", "leave", "out", "hear", "over", "read", "call"]
def bfs (s m o k : Str) (r : Nat) : List (Str × MV) := [("stop", .str s), ("move", .str m), ("out", .str o), ("marks", .str k), ("pairs", .ref r)]
def inB (p : Str) : Bool := (["idle", "dealt", "works", "late", "rests"] : List Str).any fun q => q == p
def aEnter (p : Str) : Option Str := if p = "out" ∨ p = "out+" then some "idle" else none
def aLeave (p : Str) : Option Str := if p = "idle" ∨ p = "dealt" ∨ p = "works" ∨ p = "late" ∨ p = "rests" then some "out" else none
def aOut (p oh : Str) : Option Str := if p = "idle" then some "out" else if p = "rests" then (if oh = "wait" then some "out+" else some "out") else if p = "dealt" then (if oh = "wait" then some "latent+" else some "latent") else
  if p = "works" ∨ p = "late" then (if oh = "wait" then some "ghost+" else some "ghost") else none
def aHear (p : Str) : Option Str := if p = "ghost" ∨ p = "latent" then some "out" else if p = "ghost+" ∨ p = "latent+" then some "out+" else none
def aOver (p ow : Str) : Option Str := if p = "out+" then some "out" else if ow = "once" then (if p = "ghost+" then some "ghost" else if p = "latent+" then some "latent" else none) else none
def aRead (p : Str) : Option Str := if p = "dealt" then some "works" else if p = "late" then some "idle" else if p = "latent" then some "ghost" else if p = "latent+" then some "ghost+" else none
def aCall (p sw : Str) : Option Str := if p = "works" ∧ sw = "all" then some "rests" else none
def aftP (st p oh ow sw : Str) : Option Str := if st = "enter" then aEnter p else if st = "leave" then aLeave p else if st = "out" then aOut p oh else if st = "hear" then aHear p else if st = "over" then aOver p ow else
  if st = "read" then aRead p else if st = "call" then aCall p sw else none
theorem in_book_eq (p : Str) (h : MH) : m_in_book [.str p] h = .ok (.bl (inB p)) h := by
  refine gc_okE ?_ rfl
  simp [b_in_book, mDef_ev, eV, k_IN_BOOK, inB]
theorem cut_g : cutS (Str.ofString "ghost+") none (some (-1)) = Str.ofString "ghost" := by decide +kernel
theorem cut_l : cutS (Str.ofString "latent+") none (some (-1)) = Str.ofString "latent" := by decide +kernel
theorem len_g : (Str.ofString "ghost+").length ≤ SZ := by decide +kernel
theorem len_l : (Str.ofString "latent+").length ≤ SZ := by decide +kernel
section
variable {h : MH} {i j : Nat} {s1 m1 o1 k1 s2 m2 o2 k2 : Str} {r1 r2 : Nat}
theorem after_enter_eq : ∀ p ∈ pls, m_after_enter [.str p, .ref i, .ref j] h = .ok (omv (aEnter p)) h := by
  intro p hp
  refine gc_okE ?_ (noref_omv _)
  simp only [pls, List.mem_cons, List.not_mem_nil, or_false] at hp
  rcases hp with rfl | rfl | rfl | rfl | rfl | rfl | rfl | rfl | rfl | rfl | rfl <;> simp [b_after_enter, mDef_ev, eV, SZ, aEnter, omv]
theorem after_leave_eq : ∀ p ∈ pls, m_after_leave [.str p, .ref i, .ref j] h = .ok (omv (aLeave p)) h := by
  intro p hp
  refine gc_okE ?_ (noref_omv _)
  simp only [pls, List.mem_cons, List.not_mem_nil, or_false] at hp
  rcases hp with rfl | rfl | rfl | rfl | rfl | rfl | rfl | rfl | rfl | rfl | rfl <;> simp [b_after_leave, mDef_ev, eV, SZ, aLeave, omv, in_book_eq, inB]
theorem after_hear_eq : ∀ p ∈ pls, m_after_hear [.str p, .ref i, .ref j] h = .ok (omv (aHear p)) h := by
  intro p hp
  refine gc_okE ?_ (noref_omv _)
  simp only [pls, List.mem_cons, List.not_mem_nil, or_false] at hp
  rcases hp with rfl | rfl | rfl | rfl | rfl | rfl | rfl | rfl | rfl | rfl | rfl <;> simp [b_after_hear, mDef_ev, eV, SZ, aHear, omv]
theorem after_read_eq : ∀ p ∈ pls, m_after_read [.str p, .ref i, .ref j] h = .ok (omv (aRead p)) h := by
  intro p hp
  refine gc_okE ?_ (noref_omv _)
  simp only [pls, List.mem_cons, List.not_mem_nil, or_false] at hp
  rcases hp with rfl | rfl | rfl | rfl | rfl | rfl | rfl | rfl | rfl | rfl | rfl <;> simp [b_after_read, mDef_ev, eV, SZ, aRead, omv]
theorem after_out_eq (hi : h[i]? = some (.ins "Book" (bfs s1 m1 o1 k1 r1))) : ∀ p ∈ pls, m_after_out [.str p, .ref i, .ref j] h = .ok (omv (aOut p o1)) h := by
  intro p hp
  refine gc_okE ?_ (noref_omv _)
  simp only [pls, List.mem_cons, List.not_mem_nil, or_false] at hp
  by_cases ho : o1 = "wait"
  · subst ho
    rcases hp with rfl | rfl | rfl | rfl | rfl | rfl | rfl | rfl | rfl | rfl | rfl <;> simp [b_after_out, mDef_ev, eV, SZ, aOut, omv, in_book_eq, inB, fFld_ref hi, bfs, ofString_app, ofString_len]
  · rcases hp with rfl | rfl | rfl | rfl | rfl | rfl | rfl | rfl | rfl | rfl | rfl <;> simp [b_after_out, mDef_ev, eV, SZ, aOut, omv, in_book_eq, inB, fFld_ref hi, bfs, ofString_app, ofString_len, ho]
theorem after_over_eq (hj : h[j]? = some (.ins "Book" (bfs s2 m2 o2 k2 r2))) : ∀ p ∈ pls, m_after_over [.str p, .ref i, .ref j] h = .ok (omv (aOver p o2)) h := by
  intro p hp
  refine gc_okE ?_ (noref_omv _)
  simp only [pls, List.mem_cons, List.not_mem_nil, or_false] at hp
  by_cases ho : o2 = "once"
  · subst ho
    rcases hp with rfl | rfl | rfl | rfl | rfl | rfl | rfl | rfl | rfl | rfl | rfl <;> simp [b_after_over, mDef_ev, eV, SZ, aOver, omv, fFld_ref hj, bfs, fSl_str, len_g, len_l, cut_g, cut_l]
  · rcases hp with rfl | rfl | rfl | rfl | rfl | rfl | rfl | rfl | rfl | rfl | rfl <;> simp [b_after_over, mDef_ev, eV, SZ, aOver, omv, fFld_ref hj, bfs, ho]
theorem after_call_eq (hj : h[j]? = some (.ins "Book" (bfs s2 m2 o2 k2 r2))) : ∀ p ∈ pls, m_after_call [.str p, .ref i, .ref j] h = .ok (omv (aCall p s2)) h := by
  intro p hp
  refine gc_okE ?_ (noref_omv _)
  simp only [pls, List.mem_cons, List.not_mem_nil, or_false] at hp
  by_cases ho : s2 = "all"
  · subst ho
    rcases hp with rfl | rfl | rfl | rfl | rfl | rfl | rfl | rfl | rfl | rfl | rfl <;> simp [b_after_call, mDef_ev, eV, SZ, aCall, omv, fFld_ref hj, bfs]
  · rcases hp with rfl | rfl | rfl | rfl | rfl | rfl | rfl | rfl | rfl | rfl | rfl <;> simp [b_after_call, mDef_ev, eV, SZ, aCall, omv, fFld_ref hj, bfs, ho]
theorem after_eq (hi : h[i]? = some (.ins "Book" (bfs s1 m1 o1 k1 r1))) (hj : h[j]? = some (.ins "Book" (bfs s2 m2 o2 k2 r2))) (st : Str) (hst : st ∈ sts) (p : Str) (hp : p ∈ pls) :
    m_after [.str st, .str p, .ref i, .ref j] h = .ok (omv (aftP st p o1 o2 s2)) h := by
  refine gc_okE ?_ (noref_omv _)
  simp only [sts, List.mem_cons, List.not_mem_nil, or_false] at hst
  rcases hst with rfl | rfl | rfl | rfl | rfl | rfl | rfl <;>
    simp [b_after, mDef_ev, eV, SZ, t_CHANGES, aftP, after_enter_eq p hp, after_leave_eq p hp, after_out_eq hi p hp, after_hear_eq p hp, after_over_eq hj p hp, after_read_eq p hp, after_call_eq hj p hp]
end
end Lw
namespace Lw
open PySem L2 Mo
def okW (s m o k : Str) : Prop := (Str.ofString "asked" = s ∨ Str.ofString "all" = s) ∧ (Str.ofString "once" = m ∨ Str.ofString "back" = m) ∧ (Str.ofString "once" = o ∨ Str.ofString "wait" = o) ∧ (Str.ofString "any" = k ∨ Str.ofString "owner" = k ∨ Str.ofString "given" = k)
theorem init_eq {h : MH} {a : Nat} {s m o k : Str} (ha : h[a]? = some (.ins "Book" [])) (hw : okW s m o k) :
    m_Book___init__ [.ref a, .str s, .str m, .str o, .str k] h = .ok .non (h.set a (.ins "Book" (bfs s m o k h.length)) ++ [.lst [.tup [.str "stop", .str s], .tup [.str "move", .str m], .tup [.str "out", .str o], .tup [.str "marks", .str k]]]) := by
  obtain ⟨w1, w2, w3, w4⟩ := hw
  have w1' : ¬ (¬ Str.ofString "asked" = s ∧ ¬ Str.ofString "all" = s) := fun z => w1.elim z.1 z.2
  have w2' : ¬ (¬ Str.ofString "once" = m ∧ ¬ Str.ofString "back" = m) := fun z => w2.elim z.1 z.2
  have w3' : ¬ (¬ Str.ofString "once" = o ∧ ¬ Str.ofString "wait" = o) := fun z => w3.elim z.1 z.2
  have w4' : ¬ (¬ Str.ofString "any" = k ∧ ¬ Str.ofString "owner" = k ∧ ¬ Str.ofString "given" = k) := fun z => w4.elim z.1 fun q => q.elim z.2.1 z.2.2
  have g : ∀ o, (h.set a o)[a]? = some o := fun o => List.getElem?_set_self (List.getElem?_eq_some_iff.mp ha).1
  have g2 : ∀ o l, (h.set a o ++ l)[a]? = some o := fun o l => by rw [List.getElem?_append_left (by simp; exact (List.getElem?_eq_some_iff.mp ha).1)]; exact g o
  have g3 : ∀ o o' l, (h.set a o ++ l).set a o' = h.set a o' ++ l := fun o o' l => by rw [List.set_append_left _ _ (by simp; exact (List.getElem?_eq_some_iff.mp ha).1), List.set_set]
  simp [m_Book___init__, b_Book___init__, L0_Book___init__, mDef_ev, eV, SZ, forG_ev, k_STOPS, k_MOVES, k_OUTS, k_MARKS, w1', w2', w3', w4', putI_ref ha, putI_ref (g _), putI_ref (g2 _ _), g3, bfs]
end Lw
namespace Lw
open PySem L2 Mo
theorem book_eq {h : MH} {i : Nat} {s m o k : Str} (hi : h[i]? = some (.lst [.str s, .str m, .str o, .str k])) (hw : okW s m o k) :
    m__law_book [.ref i] h = .ok (.ref h.length) (h ++ [.ins "Book" (bfs s m o k (h.length + 1)), .lst [.tup [.str "stop", .str s], .tup [.str "move", .str m], .tup [.str "out", .str o], .tup [.str "marks", .str k]]]) := by
  refine gc_keep (k := 0) ?_ rfl rfl
  have q := init_eq (h := h ++ [.ins "Book" []]) (a := h.length) at_app0 hw
  simp [set_app0] at q
  simp [b__law_book, mDef_ev, eV, SZ, isDM_lst hi, fIx_ref hi, pickL, q]
theorem wsP_ok (n : Int) : ∃ s m o k, wsP n = [s, m, o, k] ∧ okW s m o k := by
  refine ⟨_, _, _, _, rfl, ?_, ?_, ?_, ?_⟩
  · split <;> simp
  · split <;> simp
  · split <;> simp
  · split
    · simp
    · split <;> simp
end Lw
namespace Lw
open PySem L2 Mo
section
variable {h : MH} {i j : Nat} {s1 m1 o1 k1 s2 m2 o2 k2 : Str} {r1 r2 : Nat}
def hasAns (p s : Str) : Bool := if p = "works" then s == "asked" else (!inB p || (p == "idle" || p == "rests"))
def plDealt (p : Str) (t : Bool) : Str := if inB p = false then p else if t = true then (if p = "works" then "works" else "dealt") else if p = "works" then "late" else "idle"
theorem has_answered_eq (hj : h[j]? = some (.ins "Book" (bfs s2 m2 o2 k2 r2))) : ∀ p ∈ pls, m_has_answered [.str p, .ref j] h = .ok (.bl (hasAns p s2)) h := by
  intro p hp
  refine gc_okE ?_ rfl
  simp only [pls, List.mem_cons, List.not_mem_nil, or_false] at hp
  rcases hp with rfl | rfl | rfl | rfl | rfl | rfl | rfl | rfl | rfl | rfl | rfl <;> simp [b_has_answered, mDef_ev, eV, SZ, hasAns, in_book_eq, inB, fFld_ref hj, bfs]
theorem place_dealt_eq (t : Bool) : ∀ p ∈ pls, m_place_dealt [.str p, .bl t] h = .ok (.str (plDealt p t)) h := by
  intro p hp
  refine gc_okE ?_ rfl
  simp only [pls, List.mem_cons, List.not_mem_nil, or_false] at hp
  cases t <;> rcases hp with rfl | rfl | rfl | rfl | rfl | rfl | rfl | rfl | rfl | rfl | rfl <;> simp [b_place_dealt, mDef_ev, eV, SZ, plDealt, in_book_eq, inB]
end
end Lw
namespace Lw
open PySem L2 Mo
section
variable {h : MH} {i j : Nat} {s1 m1 o1 k1 s2 m2 o2 k2 : Str} {r1 r2 : Nat}
def awt (p : Str) : Bool := Txt.endswith p "+"
theorem is_awaited_eq (p : Str) : m_is_awaited [.str p] h = .ok (.bl (awt p)) h := by
  refine gc_okE ?_ rfl
  simp [b_is_awaited, mDef_ev, eV, SZ, awt]
def mayD (p q m o : Str) : Bool := if inB p = false then false else if m = "back" ∧ q = "works" then false else (o == "once" || !awt q)
theorem may_be_dealt_eq (hi : h[i]? = some (.ins "Book" (bfs s1 m1 o1 k1 r1))) (p q : Str) : m_may_be_dealt [.ref i, .str p, .str q] h = .ok (.bl (mayD p q m1 o1)) h := by
  refine gc_okE ?_ rfl
  by_cases a : inB p = true <;> by_cases b : m1 = "back" <;> by_cases c : q = "works" <;> by_cases d : o1 = "once" <;>
    simp [b_may_be_dealt, mDef_ev, eV, SZ, mayD, in_book_eq, is_awaited_eq, fFld_ref hi, bfs, a, b, c, d]
end
end Lw
namespace Lw
open PySem L2 Mo
def omt : Option (Str × Str) → MV
  | none => .non
  | some x => .tup [.str x.1, .str x.2]
theorem noref_omt (x : Option (Str × Str)) : noref (omt x) = true := by cases x <;> rfl
section
variable {h : MH} {c i j l : Nat} {s1 m1 o1 k1 s2 m2 o2 k2 s3 m3 o3 k3 : Str} {r1 r2 r3 : Nat}
def crewF (i j l : Nat) : List (Str × MV) := [("head", .ref i), ("first", .ref j), ("second", .ref l)]
def aDeal (p q t m o sa sb : Str) : Option (Str × Str) := if (hasAns p sa && hasAns q sb) = false then none else if t = "first" ∧ mayD p q m o = false then none else if t = "second" ∧ mayD q p m o = false then none else
  some (plDealt p (t == "first"), plDealt q (t == "second"))
theorem after_deal_eq (hc : h[c]? = some (.ins "Crew" (crewF i j l))) (hi : h[i]? = some (.ins "Book" (bfs s1 m1 o1 k1 r1))) (hj : h[j]? = some (.ins "Book" (bfs s2 m2 o2 k2 r2))) (hl : h[l]? = some (.ins "Book" (bfs s3 m3 o3 k3 r3)))
    (p q : Str) (hp : p ∈ pls) (hq : q ∈ pls) (t : Str) : m_after_deal [.ref c, .tup [.str p, .str q], .str t] h = .ok (omt (aDeal p q t m1 o1 s2 s3)) h := by
  refine gc_okE ?_ (noref_omt _)
  have A := has_answered_eq hj p hp
  have B := has_answered_eq hl q hq
  have C := may_be_dealt_eq hi p q
  have D := may_be_dealt_eq hi q p
  by_cases a : hasAns p s2 = true <;> by_cases b : hasAns q s3 = true <;> by_cases x : t = "first" <;> by_cases y : t = "second" <;> by_cases e : mayD p q m1 o1 = true <;> by_cases f : mayD q p m1 o1 = true <;>
    simp [b_after_deal, mDef_ev, eV, SZ, aDeal, omt, A, B, C, D, fFld_ref hc, crewF, place_dealt_eq _ p hp, place_dealt_eq _ q hq, a, b, x, y, e, f]
end
end Lw
namespace Lw
open PySem L2 Mo
def stM (x : Str × (Str × Str)) : MV := .tup [.str x.1, .tup [.str x.2.1, .str x.2.2]]
def one1 (p q o1 o2 s2 st : Str) : List (Str × (Str × Str)) := match aftP st p o1 o2 s2 with
  | some r => [(st ++ " first", (r, q))]
  | none => []
section
variable {h : MH} {c i j l : Nat} {s1 m1 o1 k1 s2 m2 o2 k2 s3 m3 o3 k3 : Str} {r1 r2 r3 : Nat}
theorem app_at {i : Nat} {o : MO} {t : MH} (e : h[i]? = some o) : (h ++ t)[i]? = some o := by
  rw [List.getElem?_append_left (List.getElem?_eq_some_iff.mp e).1]; exact e
theorem steps_l0 (hc : h[c]? = some (.ins "Crew" (crewF i j l))) (hi : h[i]? = some (.ins "Book" (bfs s1 m1 o1 k1 r1))) (hj : h[j]? = some (.ins "Book" (bfs s2 m2 o2 k2 r2))) (p q : Str) (hp : p ∈ pls) (st : Str) (hst : st ∈ sts) (a1 x6 x7 x8 : Option MV) (acc : List (Str × (Str × Str))) (hl : acc.length < 100) :
    ∃ x6', L0_steps [some (.ref c), a1, some (.str p), some (.str q), some (.ref h.length), some (.str st), x6, x7, x8] (h ++ [.lst (acc.map stM)]) =
      .nx [some (.ref c), a1, some (.str p), some (.str q), some (.ref h.length), some (.str st), x6', x7, x8] (h ++ [.lst ((acc ++ one1 p q o1 o2 s2 st).map stM)]) := by
  have A := after_eq (app_at (t := [.lst (acc.map stM)]) hi) (app_at hj) st hst p hp
  have hl2 : acc.length < 16777216 := by omega
  have hn : st.length + 6 ≤ 16777216 := by
    simp only [sts, List.mem_cons, List.not_mem_nil, or_false] at hst
    rcases hst with rfl | rfl | rfl | rfl | rfl | rfl | rfl <;> simp [ofString_len]
  unfold one1
  cases hx : aftP st p o1 o2 s2 <;> rw [hx] at A <;> simp only [omv] at A <;>
    simp [L0_steps, eV, SZ, fFld_ref (app_at (t := [.lst (acc.map stM)]) hc), crewF, A, hl2, isL_ref, at_app0, fAppend_ref, set_app0, stM, hn, ofString_len]
end
end Lw
namespace Lw
open PySem L2 Mo
def one2 (p q o1 o2 s2 st : Str) : List (Str × (Str × Str)) := match aftP st q o1 o2 s2 with
  | some r => [(st ++ " second", (p, r))]
  | none => []
def one3 (p q m o sa sb t : Str) : List (Str × (Str × Str)) := match aDeal p q t m o sa sb with
  | some r => if r = (p, q) then [] else [("deal " ++ t, r)]
  | none => []
section
variable {h : MH} {c i j l : Nat} {s1 m1 o1 k1 s2 m2 o2 k2 s3 m3 o3 k3 : Str} {r1 r2 r3 : Nat}
theorem steps_l1 (hc : h[c]? = some (.ins "Crew" (crewF i j l))) (hi : h[i]? = some (.ins "Book" (bfs s1 m1 o1 k1 r1))) (hk : h[l]? = some (.ins "Book" (bfs s3 m3 o3 k3 r3))) (p q : Str) (hq : q ∈ pls) (st : Str) (hst : st ∈ sts) (a1 x6 x7 x8 : Option MV) (acc : List (Str × (Str × Str))) (hl : acc.length < 100) :
    ∃ x6', L1_steps [some (.ref c), a1, some (.str p), some (.str q), some (.ref h.length), some (.str st), x6, x7, x8] (h ++ [.lst (acc.map stM)]) =
      .nx [some (.ref c), a1, some (.str p), some (.str q), some (.ref h.length), some (.str st), x6', x7, x8] (h ++ [.lst ((acc ++ one2 p q o1 o3 s3 st).map stM)]) := by
  have A := after_eq (app_at (t := [.lst (acc.map stM)]) hi) (app_at hk) st hst q hq
  have hl2 : acc.length < 16777216 := by omega
  have hn : st.length + 7 ≤ 16777216 := by
    simp only [sts, List.mem_cons, List.not_mem_nil, or_false] at hst
    rcases hst with rfl | rfl | rfl | rfl | rfl | rfl | rfl <;> simp [ofString_len]
  unfold one2
  cases hx : aftP st q o1 o3 s3 <;> rw [hx] at A <;> simp only [omv] at A <;>
    simp [L1_steps, eV, SZ, fFld_ref (app_at (t := [.lst (acc.map stM)]) hc), crewF, A, hl2, isL_ref, at_app0, fAppend_ref, set_app0, stM, hn, ofString_len]
end
end Lw
namespace Lw
open PySem L2 Mo
theorem one1_len (p q o1 o2 s2 st : Str) : (one1 p q o1 o2 s2 st).length ≤ 1 := by
  unfold one1; split <;> simp
theorem one2_len (p q o1 o2 s2 st : Str) : (one2 p q o1 o2 s2 st).length ≤ 1 := by
  unfold one2; split <;> simp
section
variable {h : MH} {c i j l : Nat} {s1 m1 o1 k1 s2 m2 o2 k2 s3 m3 o3 k3 : Str} {r1 r2 r3 : Nat}
theorem steps_f1 (hc : h[c]? = some (.ins "Crew" (crewF i j l))) (hi : h[i]? = some (.ins "Book" (bfs s1 m1 o1 k1 r1))) (hj : h[j]? = some (.ins "Book" (bfs s2 m2 o2 k2 r2))) (p q : Str) (hp : p ∈ pls) (a1 x7 x8 : Option MV) :
    ∀ (m k : Nat) (x5 x6 : Option MV) (acc : List (Str × (Str × Str))), k + m = 7 → acc.length ≤ k + 20 →
    ∃ x5' x6', forG (getL (sts.map MV.str)) (gN 5) L0_steps (m + 1) k [some (.ref c), a1, some (.str p), some (.str q), some (.ref h.length), x5, x6, x7, x8] (h ++ [.lst (acc.map stM)]) =
      .nx [some (.ref c), a1, some (.str p), some (.str q), some (.ref h.length), x5', x6', x7, x8] (h ++ [.lst ((acc ++ (sts.drop k).flatMap (one1 p q o1 o2 s2)).map stM)]) := by
  intro m
  induction m with
  | zero =>
    intro k x5 x6 acc hk ha
    have : k = 7 := by omega
    subst this
    exact ⟨x5, x6, by rw [forG_ev]; simp [sts]⟩
  | succ m ih =>
    intro k x5 x6 acc hk ha
    have hk7 : k < sts.length := by show k < 7; omega
    rw [forG_ev]
    have hg : getL (sts.map MV.str) k (h ++ [.lst (acc.map stM)]) = some (some (.str sts[k])) := by
      simp [hk7]
    rw [hg, KF_go]
    obtain ⟨x6', e⟩ := steps_l0 hc hi hj p q hp sts[k] (List.getElem_mem hk7) a1 x6 x7 x8 acc (by omega)
    obtain ⟨y5, y6, e2⟩ := ih (k + 1) (some (.str sts[k])) x6' (acc ++ one1 p q o1 o2 s2 sts[k]) (by omega) (by
      rw [List.length_append]; have := one1_len p q o1 o2 s2 sts[k]; omega)
    refine ⟨y5, y6, ?_⟩
    have e' : L0_steps ([some (.ref c), a1, some (.str p), some (.str q), some (.ref h.length), x5, x6, x7, x8].set 5 (some (.str sts[k]))) (h ++ [.lst (acc.map stM)]) = _ := e
    rw [e', KFB_nx, e2, List.drop_eq_getElem_cons hk7, List.flatMap_cons, List.append_assoc]
end
end Lw
namespace Lw
open PySem L2 Mo
section
variable {h : MH} {c i j l : Nat} {s1 m1 o1 k1 s2 m2 o2 k2 s3 m3 o3 k3 : Str} {r1 r2 r3 : Nat}
theorem steps_f2 (hc : h[c]? = some (.ins "Crew" (crewF i j l))) (hi : h[i]? = some (.ins "Book" (bfs s1 m1 o1 k1 r1))) (hk0 : h[l]? = some (.ins "Book" (bfs s3 m3 o3 k3 r3))) (p q : Str) (hq : q ∈ pls) (a1 x7 x8 : Option MV) :
    ∀ (m k : Nat) (x5 x6 : Option MV) (acc : List (Str × (Str × Str))), k + m = 7 → acc.length ≤ k + 20 →
    ∃ x5' x6', forG (getL (sts.map MV.str)) (gN 5) L1_steps (m + 1) k [some (.ref c), a1, some (.str p), some (.str q), some (.ref h.length), x5, x6, x7, x8] (h ++ [.lst (acc.map stM)]) =
      .nx [some (.ref c), a1, some (.str p), some (.str q), some (.ref h.length), x5', x6', x7, x8] (h ++ [.lst ((acc ++ (sts.drop k).flatMap (one2 p q o1 o3 s3)).map stM)]) := by
  intro m
  induction m with
  | zero =>
    intro k x5 x6 acc hk ha
    have : k = 7 := by omega
    subst this
    exact ⟨x5, x6, by rw [forG_ev]; simp [sts]⟩
  | succ m ih =>
    intro k x5 x6 acc hk ha
    have hk7 : k < sts.length := by show k < 7; omega
    rw [forG_ev]
    have hg : getL (sts.map MV.str) k (h ++ [.lst (acc.map stM)]) = some (some (.str sts[k])) := by
      simp [hk7]
    rw [hg, KF_go]
    obtain ⟨x6', e⟩ := steps_l1 hc hi hk0 p q hq sts[k] (List.getElem_mem hk7) a1 x6 x7 x8 acc (by omega)
    obtain ⟨y5, y6, e2⟩ := ih (k + 1) (some (.str sts[k])) x6' (acc ++ one2 p q o1 o3 s3 sts[k]) (by omega) (by
      rw [List.length_append]; have := one2_len p q o1 o3 s3 sts[k]; omega)
    refine ⟨y5, y6, ?_⟩
    have e' : L1_steps ([some (.ref c), a1, some (.str p), some (.str q), some (.ref h.length), x5, x6, x7, x8].set 5 (some (.str sts[k]))) (h ++ [.lst (acc.map stM)]) = _ := e
    rw [e', KFB_nx, e2, List.drop_eq_getElem_cons hk7, List.flatMap_cons, List.append_assoc]
end
end Lw
namespace Lw
open PySem L2 Mo
section
variable {h : MH} {c i j l : Nat} {s1 m1 o1 k1 s2 m2 o2 k2 s3 m3 o3 k3 : Str} {r1 r2 r3 : Nat}
theorem steps_l2 (hc : h[c]? = some (.ins "Crew" (crewF i j l))) (hi : h[i]? = some (.ins "Book" (bfs s1 m1 o1 k1 r1))) (hj : h[j]? = some (.ins "Book" (bfs s2 m2 o2 k2 r2))) (hk : h[l]? = some (.ins "Book" (bfs s3 m3 o3 k3 r3))) (p q : Str) (hp : p ∈ pls) (hq : q ∈ pls)
    (t : Str) (ht : t.length + 5 ≤ 16777216) (a1 x5 x6 x8 : Option MV) (acc : List (Str × (Str × Str))) (hl : acc.length < 100) :
    ∃ x8', L2_steps [some (.ref c), a1, some (.str p), some (.str q), some (.ref h.length), x5, x6, some (.str t), x8] (h ++ [.lst (acc.map stM)]) =
      .nx [some (.ref c), a1, some (.str p), some (.str q), some (.ref h.length), x5, x6, some (.str t), x8'] (h ++ [.lst ((acc ++ one3 p q m1 o1 s2 s3 t).map stM)]) := by
  have A := after_deal_eq (app_at (t := [.lst (acc.map stM)]) hc) (app_at hi) (app_at hj) (app_at hk) p q hp hq t
  have hl2 : acc.length < 16777216 := by omega
  have ht2 : 5 + t.length ≤ 16777216 := by omega
  unfold one3
  cases hx : aDeal p q t m1 o1 s2 s3 with
  | none => rw [hx] at A; simp only [omt] at A; simp [L2_steps, eV, SZ, A]
  | some r =>
    obtain ⟨u, v⟩ := r
    rw [hx] at A; simp only [omt] at A
    by_cases e1 : u = p <;> by_cases e2 : v = q <;> simp [L2_steps, eV, SZ, A, hl2, isL_ref, at_app0, fAppend_ref, set_app0, stM, ht2, ofString_len, e1, e2]
end
end Lw
namespace Lw
open PySem L2 Mo
def stepsP (p q m o o2 s2 o3 s3 : Str) : List (Str × (Str × Str)) := sts.flatMap (one1 p q o o2 s2) ++ sts.flatMap (one2 p q o o3 s3) ++ one3 p q m o s2 s3 "first" ++ one3 p q m o s2 s3 "second" ++ one3 p q m o s2 s3 "nobody"
theorem norefs_stM : ∀ xs : List (Str × (Str × Str)), norefs (xs.map stM) = true
  | [] => rfl
  | x :: xs => by simp [norefs, noref, stM, norefs_stM xs]
theorem fm_len {α β : Type} {f : α → List β} (hf : ∀ a, (f a).length ≤ 1) : ∀ l : List α, (l.flatMap f).length ≤ l.length
  | [] => Nat.le_refl _
  | a :: l => by rw [List.flatMap_cons, List.length_append, List.length_cons]; have := hf a; have := fm_len hf l; omega
theorem one3_len (p q m o sa sb t : Str) : (one3 p q m o sa sb t).length ≤ 1 := by
  unfold one3; split
  · split <;> simp
  · simp
section
variable {h : MH} {c i j l : Nat} {s1 m1 o1 k1 s2 m2 o2 k2 s3 m3 o3 k3 : Str} {r1 r2 r3 : Nat}
theorem steps_eq (hc : h[c]? = some (.ins "Crew" (crewF i j l))) (hi : h[i]? = some (.ins "Book" (bfs s1 m1 o1 k1 r1))) (hj : h[j]? = some (.ins "Book" (bfs s2 m2 o2 k2 r2))) (hk : h[l]? = some (.ins "Book" (bfs s3 m3 o3 k3 r3))) (p q : Str) (hp : p ∈ pls) (hq : q ∈ pls) :
    m_steps [.ref c, .tup [.str p, .str q]] h = .ok (.ref h.length) (h ++ [.lst ((stepsP p q m1 o1 o2 s2 o3 s3).map stM)]) := by
  refine gc_new (k := 0) (g := [.lst ((stepsP p q m1 o1 o2 s2 o3 s3).map stM)]) ?_ rfl (norefs_stM _)
  obtain ⟨y5, y6, e1⟩ := steps_f1 hc hi hj p q hp (some (.tup [.str p, .str q])) none none 7 0 none none [] rfl (by simp)
  have b1 := fm_len (one1_len p q o1 o2 s2) sts
  have b2 := fm_len (one2_len p q o1 o3 s3) sts
  have hs : sts.length = 7 := rfl
  simp only [List.drop_zero, List.nil_append, List.map_nil] at e1
  obtain ⟨z5, z6, e2⟩ := steps_f2 hc hi hk p q hq (some (.tup [.str p, .str q])) none none 7 0 y5 y6 (sts.flatMap (one1 p q o1 o2 s2)) rfl (by omega)
  simp only [List.drop_zero] at e2
  have n1 := one3_len p q m1 o1 s2 s3 "first"
  have n2 := one3_len p q m1 o1 s2 s3 "second"
  obtain ⟨w1, g1⟩ := steps_l2 hc hi hj hk p q hp hq "first" (by decide +kernel) (some (.tup [.str p, .str q])) z5 z6 none (sts.flatMap (one1 p q o1 o2 s2) ++ sts.flatMap (one2 p q o1 o3 s3)) (by rw [List.length_append]; omega)
  obtain ⟨w2, g2⟩ := steps_l2 hc hi hj hk p q hp hq "second" (by decide +kernel) (some (.tup [.str p, .str q])) z5 z6 w1 (sts.flatMap (one1 p q o1 o2 s2) ++ sts.flatMap (one2 p q o1 o3 s3) ++ one3 p q m1 o1 s2 s3 "first") (by rw [List.length_append, List.length_append]; omega)
  obtain ⟨w3, g3⟩ := steps_l2 hc hi hj hk p q hp hq "nobody" (by decide +kernel) (some (.tup [.str p, .str q])) z5 z6 w2 (sts.flatMap (one1 p q o1 o2 s2) ++ sts.flatMap (one2 p q o1 o3 s3) ++ one3 p q m1 o1 s2 s3 "first" ++ one3 p q m1 o1 s2 s3 "second") (by rw [List.length_append, List.length_append, List.length_append]; omega)
  have k1 : k_STEP_WORDS = .ktp (sts.map .str) := rfl
  rw [mDef_ev]
  simp [b_steps, eV, SZ, k1, -List.map_append]
  have e1' : forG (getL (sts.map MV.str)) (gN 5) L0_steps (sts.length + 1) 0 [some (.ref c), some (.tup [.str p, .str q]), some (.str p), some (.str q), some (.ref h.length), none, none, none, none] (h ++ [.lst []]) = _ := e1
  have e2' : forG (getL (sts.map MV.str)) (gN 5) L1_steps (sts.length + 1) 0 [some (.ref c), some (.tup [.str p, .str q]), some (.str p), some (.str q), some (.ref h.length), y5, y6, none, none] (h ++ [.lst ((sts.flatMap (one1 p q o1 o2 s2)).map stM)]) = _ := e2
  rw [e1', nxt_nx]
  simp [k1, eV, SZ, -List.map_append, -List.append_assoc]
  rw [e2', nxt_nx]
  simp [eV, SZ, forG_ev, g1, g2, g3, -List.map_append, -List.append_assoc]
  rfl
end
end Lw
namespace Lw
open PySem L2 Mo
def atW (p : Str) : Bool := (["works", "late", "ghost", "ghost+"] : List Str).any fun q => q == p
def om3 : Option (Str × Str × Str) → MV
  | none => .non
  | some x => .tup [.str x.1, .str x.2.1, .str x.2.2]
theorem noref_om3 (x : Option (Str × Str × Str)) : noref (om3 x) = true := by cases x <;> rfl
theorem at_work_eq (p : Str) (h : MH) : m_at_work [.str p] h = .ok (.bl (atW p)) h := by
  refine gc_okE ?_ rfl
  simp [b_at_work, mDef_ev, eV, k_AT_WORK, atW]
def snglP (n u v : Str) : Option (Str × Str × Str) := if atW u = true ∧ atW v = true then none else some (u, v, n)
theorem single_eq (a b n u v : Str) (h : MH) : m_single_move [.tup [.str a, .str b, .str n], .tup [.str u, .str v]] h = .ok (om3 (snglP n u v)) h := by
  refine gc_okE ?_ (noref_om3 _)
  by_cases x : atW u = true <;> by_cases y : atW v = true <;> simp [b_single_move, mDef_ev, eV, SZ, at_work_eq, snglP, om3, x, y]
def stdyP (a b n t u v : Str) : Option (Str × Str × Str) := if t = "deal first" ∧ a = "rests" then none else if t = "deal second" ∧ b = "rests" then none else some (u, v, n)
theorem steady_eq (a b n t u v : Str) (h : MH) : m_steady_move [.tup [.str a, .str b, .str n], .str t, .tup [.str u, .str v]] h = .ok (om3 (stdyP a b n t u v)) h := by
  refine gc_okE ?_ (noref_om3 _)
  by_cases x : t = "deal first" <;> by_cases y : a = "rests" <;> by_cases z : t = "deal second" <;> by_cases w : b = "rests" <;> simp [b_steady_move, mDef_ev, eV, SZ, stdyP, om3, x, y, z, w]
end Lw
namespace Lw
open PySem L2 Mo
def ownP (p : Str) : Bool := (["dealt", "works", "rests"] : List Str).any fun q => q == p
theorem owns_eq (p : Str) (h : MH) : m_owns [.str p] h = .ok (.bl (ownP p)) h := by
  refine gc_okE ?_ rfl
  simp [b_owns, mDef_ev, eV, k_OWNERS, ownP]
def stp (w : Str) : Bool := (["leave", "read", "call"] : List Str).any fun q => q == w
def stpsP (w b n : Str) : Bool := stp w && (atW b && !atW n)
theorem stops_eq (w b n : Str) (h : MH) : m_stops [.str w, .str b, .str n] h = .ok (.bl (stpsP w b n)) h := by
  refine gc_okE ?_ rfl
  by_cases x : stp w = true
  · have x' := x
    simp [stp] at x'
    by_cases y : atW b = true <;> simp [b_stops, mDef_ev, eV, SZ, stpsP, at_work_eq, x, y, x']
  · have x' := x
    simp [stp] at x'
    simp [b_stops, mDef_ev, eV, SZ, stpsP, at_work_eq, x, x']
def savP (mk p o : Str) : Bool := if p = "late" then (mk == "any" || (mk == "given" && !ownP o)) else true
theorem saved_eq {h : MH} {i : Nat} {s1 m1 o1 k1 : Str} {r1 : Nat} (hi : h[i]? = some (.ins "Book" (bfs s1 m1 o1 k1 r1))) (p o : Str) : m_is_saved [.ref i, .str p, .str o] h = .ok (.bl (savP k1 p o)) h := by
  refine gc_okE ?_ rfl
  by_cases x : p = "late" <;> by_cases y : k1 = "any" <;> by_cases z : k1 = "given" <;> simp [b_is_saved, mDef_ev, eV, SZ, savP, owns_eq, fFld_ref hi, bfs, x, y, z]
def lbs : List Str := sts.map (fun s => s ++ (" first" : Str)) ++ sts.map (fun s => s ++ (" second" : Str)) ++ (["deal first", "deal second", "deal nobody"] : List Str)
theorem stepsP_lbs (p q m o o2 s2 o3 s3 : Str) : ∀ x ∈ stepsP p q m o o2 s2 o3 s3, x.1 ∈ lbs := by
  intro x hx
  have h3 : ∀ t ∈ (["first", "second", "nobody"] : List Str), x ∈ one3 p q m o s2 s3 t → x.1 = Str.ofString "deal " ++ t := by
    intro t ht hx
    unfold one3 at hx
    split at hx
    · split at hx
      · simp at hx
      · simp at hx; rw [hx]
    · simp at hx
  unfold stepsP at hx
  simp only [List.mem_append, List.mem_flatMap] at hx
  unfold lbs
  simp only [List.mem_append, List.mem_map]
  rcases hx with (((⟨s, hs, hx⟩ | ⟨s, hs, hx⟩) | hx) | hx) | hx
  · refine .inl (.inl ⟨s, hs, ?_⟩)
    unfold one1 at hx
    split at hx
    · simp at hx; rw [hx]
    · simp at hx
  · refine .inl (.inr ⟨s, hs, ?_⟩)
    unfold one2 at hx
    split at hx
    · simp at hx; rw [hx]
    · simp at hx
  · exact .inr (by rw [h3 _ (by simp) hx]; simp [ofString_app])
  · exact .inr (by rw [h3 _ (by simp) hx]; simp [ofString_app])
  · exact .inr (by rw [h3 _ (by simp) hx]; simp [ofString_app])
def lw1 (l : Str) : Str := (Txt.split l " ").headD ""
def lw2 (l : Str) : Str := (Txt.split l " ").getD 1 ""
theorem lbs_sp : ∀ l ∈ lbs, Txt.split l " " = [lw1 l, lw2 l] ∧ l.length + 2 ≤ SZ ∧ (lw2 l = "first" ∨ lw2 l = "second" ∨ lw2 l = "nobody") := by decide +kernel
theorem fSplit_ev' {a b : Str} {h : MH} (hb : (b.length == 0) = false) (ha : a.length + 2 ≤ SZ) : fSplit (.str a) [.str b] h = some (.ref h.length, h ++ [.lst ((Txt.split a b).map .str)]) := by simp [fSplit, hb, ha]
theorem len_sp : ((Str.ofString " ").length == 0) = false := by decide +kernel
def nrP (mk p q n l u v : Str) : Option (Str × Str × Str) :=
  if (atW u && !atW p && (n == "d" || atW q)) = true then none else if (atW v && !atW q && (n == "d" || atW p)) = true then none else
    some (u, v, if (stpsP (lw1 l) p u && !savP mk p q || stpsP (lw1 l) q v && !savP mk q p) = true then "d" else n)
section
variable {h : MH} {c i j r : Nat} {s1 m1 o1 k1 : Str} {r1 : Nat}
theorem nr_t0 (hc : h[c]? = some (.ins "Crew" (crewF i j r))) (hi : h[i]? = some (.ins "Book" (bfs s1 m1 o1 k1 r1))) (p q n u v w nt : Str) (l x7 x8 : Option MV) (b : Bool) (hb : (atW u && !atW p && (n == "d" || atW q)) = b) :
    L0_norepeat_move [some (.ref c), some (.tup [.str p, .str q, .str n]), l, some (.tup [.str u, .str v]), some (.str nt), some (.str w), some (.int 0), x7, x8] h =
      if b = true then .rt .non h else .nx [some (.ref c), some (.tup [.str p, .str q, .str n]), l, some (.tup [.str u, .str v]), some (.str (if (stpsP w p u && !savP k1 p q) = true then "d" else nt)), some (.str w), some (.int 0), some (.str p), some (.str q)] h := by
  have H2 := fun (p o : Str) => saved_eq hi p o
  cases b
  · by_cases x : atW u = true
    · by_cases y : atW p = true
      · by_cases s : stpsP w p u = true <;> by_cases t : savP k1 p q = true <;> simp [L0_norepeat_move, eV, SZ, at_work_eq, stops_eq, H2, fFld_ref hc, crewF, x, y, s, t]
      · have z : ¬ n = "d" ∧ atW q = false := by simpa [x, y] using hb
        by_cases s : stpsP w p u = true <;> by_cases t : savP k1 p q = true <;> simp [L0_norepeat_move, eV, SZ, at_work_eq, stops_eq, H2, fFld_ref hc, crewF, x, y, s, t, z.1, z.2]
    · by_cases s : stpsP w p u = true <;> by_cases t : savP k1 p q = true <;> simp [L0_norepeat_move, eV, SZ, at_work_eq, stops_eq, H2, fFld_ref hc, crewF, x, s, t]
  · have z : atW u = true ∧ atW p = false ∧ (n = "d" ∨ atW q = true) := by simpa [and_assoc] using hb
    obtain ⟨z1, z2, z3⟩ := z
    by_cases d : n = "d"
    · simp [L0_norepeat_move, eV, SZ, at_work_eq, z1, z2, d]
    · have z4 := z3.resolve_left d
      simp [L0_norepeat_move, eV, SZ, at_work_eq, z1, z2, d, z4]
theorem nr_t1 (hc : h[c]? = some (.ins "Crew" (crewF i j r))) (hi : h[i]? = some (.ins "Book" (bfs s1 m1 o1 k1 r1))) (p q n u v w nt : Str) (l x7 x8 : Option MV) (b : Bool) (hb : (atW v && !atW q && (n == "d" || atW p)) = b) :
    L0_norepeat_move [some (.ref c), some (.tup [.str p, .str q, .str n]), l, some (.tup [.str u, .str v]), some (.str nt), some (.str w), some (.int 1), x7, x8] h =
      if b = true then .rt .non h else .nx [some (.ref c), some (.tup [.str p, .str q, .str n]), l, some (.tup [.str u, .str v]), some (.str (if (stpsP w q v && !savP k1 q p) = true then "d" else nt)), some (.str w), some (.int 1), some (.str q), some (.str p)] h := by
  have H2 := fun (p o : Str) => saved_eq hi p o
  cases b
  · by_cases x : atW v = true
    · by_cases y : atW q = true
      · by_cases s : stpsP w q v = true <;> by_cases t : savP k1 q p = true <;> simp [L0_norepeat_move, eV, SZ, at_work_eq, stops_eq, H2, fFld_ref hc, crewF, x, y, s, t]
      · have z : ¬ n = "d" ∧ atW p = false := by simpa [x, y] using hb
        by_cases s : stpsP w q v = true <;> by_cases t : savP k1 q p = true <;> simp [L0_norepeat_move, eV, SZ, at_work_eq, stops_eq, H2, fFld_ref hc, crewF, x, y, s, t, z.1, z.2]
    · by_cases s : stpsP w q v = true <;> by_cases t : savP k1 q p = true <;> simp [L0_norepeat_move, eV, SZ, at_work_eq, stops_eq, H2, fFld_ref hc, crewF, x, s, t]
  · have z : atW v = true ∧ atW q = false ∧ (n = "d" ∨ atW p = true) := by simpa [and_assoc] using hb
    obtain ⟨z1, z2, z3⟩ := z
    by_cases d : n = "d"
    · simp [L0_norepeat_move, eV, SZ, at_work_eq, z1, z2, d]
    · have z4 := z3.resolve_left d
      simp [L0_norepeat_move, eV, SZ, at_work_eq, z1, z2, d, z4]
theorem norepeat_eq (hc : h[c]? = some (.ins "Crew" (crewF i j r))) (hi : h[i]? = some (.ins "Book" (bfs s1 m1 o1 k1 r1))) (p q n l u v : Str) (hl : l ∈ lbs) :
    m_norepeat_move [.ref c, .tup [.str p, .str q, .str n], .str l, .tup [.str u, .str v]] h = .ok (om3 (nrP k1 p q n l u v)) h := by
  refine gc_okE ?_ (noref_om3 _)
  obtain ⟨e1, e2, e3⟩ := lbs_sp l hl
  have T0 := nr_t0 (app_at (t := [.lst [.str (lw1 l), .str (lw2 l)]]) hc) (app_at hi) p q n u v (lw1 l) n (some (.str l)) none none _ rfl
  have T1 := fun nt x7 x8 => nr_t1 (app_at (t := [.lst [.str (lw1 l), .str (lw2 l)]]) hc) (app_at hi) p q n u v (lw1 l) nt (some (.str l)) x7 x8 _ rfl
  refine ⟨[.lst [.str (lw1 l), .str (lw2 l)]], ?_⟩
  rw [mDef_ev]
  cases x : (atW u && !atW p && (n == "d" || atW q))
  · cases y : (atW v && !atW q && (n == "d" || atW p))
    · rw [x] at T0; rw [y] at T1
      rw [if_neg Bool.false_ne_true] at T0
      simp only [if_neg Bool.false_ne_true] at T1
      simp [b_norepeat_move, eV, SZ, forG_ev, -Mo.fSplit_ev, fSplit_ev' len_sp e2, e1, isDM_lst, fIx_ref, at_app0, T0, T1, nrP, x, y, om3]
      by_cases a1 : stpsP (lw1 l) p u = true <;> by_cases a2 : savP k1 p q = true <;> by_cases a3 : stpsP (lw1 l) q v = true <;> by_cases a4 : savP k1 q p = true <;> simp [a1, a2, a3, a4]
    · rw [x] at T0; rw [y] at T1
      rw [if_neg Bool.false_ne_true] at T0
      simp only [if_pos rfl] at T1
      simp [b_norepeat_move, eV, SZ, forG_ev, -Mo.fSplit_ev, fSplit_ev' len_sp e2, e1, isDM_lst, fIx_ref, at_app0, T0, T1, nrP, x, y, om3]
  · rw [x] at T0
    rw [if_pos rfl] at T0
    simp [b_norepeat_move, eV, SZ, forG_ev, -Mo.fSplit_ev, fSplit_ev' len_sp e2, e1, isDM_lst, fIx_ref, at_app0, T0, nrP, x, om3]
end
end Lw
namespace Lw
open PySem L2 Mo
def nts : List Str := ["", "first", "second", "first!", "second!"]
def rst (n : Str) : Str := Txt.rstripChars n "!"
def selP (w p q : Str) : Str := if w = "first" then p else q
def fwP (mk p q n l u v : Str) : Str × Str × Str :=
  if n = "" then (u, v, "") else if lw1 l = "deal" then (if mk = "given" ∧ lw2 l ≠ "nobody" ∧ selP (lw2 l) p q = "idle" then (u, v, "") else (u, v, n)) else
    if lw2 l = rst n then (if stpsP (lw1 l) (selP (lw2 l) p q) (selP (lw2 l) u v) = true then (u, v, "") else (u, v, n)) else (u, v, n)
theorem nts_f : ∀ n ∈ nts, n.length ≤ SZ ∧ (n ≠ "" → (rst n = "first" ∨ rst n = "second")) := by decide +kernel
section
variable {h : MH} {c i j r : Nat} {s1 m1 o1 k1 : Str} {r1 : Nat}
theorem forward_eq (hc : h[c]? = some (.ins "Crew" (crewF i j r))) (hi : h[i]? = some (.ins "Book" (bfs s1 m1 o1 k1 r1))) (p q n l u v : Str) (hl : l ∈ lbs) (hn : n ∈ nts) :
    m_forward_move [.ref c, .tup [.str p, .str q, .str n], .str l, .tup [.str u, .str v]] h = .ok (om3 (some (fwP k1 p q n l u v))) h := by
  refine gc_okE ?_ (noref_om3 _)
  obtain ⟨e1, e2, e3⟩ := lbs_sp l hl
  obtain ⟨f1, f2⟩ := nts_f n hn
  have H1 : ∀ t, (h ++ t)[c]? = some (.ins "Crew" (crewF i j r)) := fun t => app_at hc
  have H2 : ∀ t, (h ++ t)[i]? = some (.ins "Book" (bfs s1 m1 o1 k1 r1)) := fun t => app_at hi
  by_cases x : n = ""
  · simp [b_forward_move, mDef_ev, eV, SZ, x, fwP, om3]
  · have f3 := f2 x
    by_cases y : lw1 l = "deal"
    · rcases e3 with e3 | e3 | e3 <;> by_cases z : k1 = "given" <;> by_cases w1 : p = "idle" <;> by_cases w2 : q = "idle" <;>
        simp [b_forward_move, mDef_ev, eV, SZ, -Mo.fSplit_ev, fSplit_ev' len_sp e2, e1, isDM_lst, fIx_ref, at_app0, at_app, x, y, fwP, om3, KAU_ref, KDs_ok, set_app, set_app0, fFld_ref (H1 _), fFld_ref (H2 _), crewF, bfs, z, e3, w1, w2, selP, isDM_dk, fDGet, dGet_dk]
    · have f4 : Txt.rstripChars n (Str.ofString "!") = rst n := rfl
      rcases e3 with e3 | e3 | e3 <;> rcases f3 with f3 | f3 <;> 
        (first
          | (simp [b_forward_move, mDef_ev, eV, SZ, -Mo.fSplit_ev, fSplit_ev' len_sp e2, e1, isDM_lst, fIx_ref, at_app0, at_app, x, y, fwP, om3, KAU_ref, KDs_ok, set_app, set_app0, e3, f1, f3, f4, selP, isDM_dk, fDGet, dGet_dk]; done)
          | (by_cases w1 : stpsP (lw1 l) p u = true <;> by_cases w2 : stpsP (lw1 l) q v = true <;>
              simp [b_forward_move, mDef_ev, eV, SZ, -Mo.fSplit_ev, fSplit_ev' len_sp e2, e1, isDM_lst, fIx_ref, at_app0, at_app, x, y, fwP, om3, KAU_ref, KDs_ok, set_app, set_app0, e3, f1, f3, f4, selP, isDM_dk, fDGet, dGet_dk, stops_eq, w1, w2, show n.length ≤ 16777216 from f1]))
abbrev MVT := Str × Option (Str × Str × Str)
def opl (c : Prop) [Decidable c] (x : MVT) : List MVT := if c then [x] else []
def mmP (mk p q n : Str) : List MVT :=
  opl (n = "" ∧ p = "works") ("send first", some (p, q, "first")) ++ opl (n = "" ∧ q = "works") ("send second", some (p, q, "second")) ++
  opl (n = "second" ∧ p = "works") ("mark first", some (p, q, "second!")) ++ opl (n = "first" ∧ q = "works") ("mark second", some (p, q, "first!")) ++
  opl (¬ n = "") ("arrive", if (¬ mk = "owner" ∨ ownP (selP (rst n) p q) = true) ∧ Txt.endswith n "!" = true then none else some (p, q, ""))
def mvM (x : Str × Option (Str × Str × Str)) : MV := .tup [.str x.1, om3 x.2]
theorem norefs_mvM : ∀ xs : List (Str × Option (Str × Str × Str)), norefs (xs.map mvM) = true
  | [] => rfl
  | (t, none) :: xs => by simp [norefs, noref, mvM, om3, norefs_mvM xs]
  | (t, some y) :: xs => by simp [norefs, noref, mvM, om3, norefs_mvM xs]
theorem rst_f : rst "first" = "first" ∧ rst "second" = "second" ∧ rst "first!" = "first" ∧ rst "second!" = "second" := by decide +kernel
theorem own_w : ownP (Str.ofString "works") = true := by decide +kernel
theorem end_f : Txt.endswith "first" "!" = false ∧ Txt.endswith "second" "!" = false ∧ Txt.endswith "first!" "!" = true ∧ Txt.endswith "second!" "!" = true := by decide +kernel
theorem mark_moves_eq (hc : h[c]? = some (.ins "Crew" (crewF i j r))) (hi : h[i]? = some (.ins "Book" (bfs s1 m1 o1 k1 r1))) (p q n : Str) (hn : n ∈ nts) :
    m_mark_moves [.ref c, .tup [.str p, .str q, .str n]] h = .ok (.ref h.length) (h ++ [.lst ((mmP k1 p q n).map mvM)]) := by
  refine gc_newE (o := .lst ((mmP k1 p q n).map mvM)) ?_ (norefs_mvM _)
  have H1 : ∀ t, (h ++ t)[c]? = some (.ins "Crew" (crewF i j r)) := fun t => app_at hc
  have H2 : ∀ t, (h ++ t)[i]? = some (.ins "Book" (bfs s1 m1 o1 k1 r1)) := fun t => app_at hi
  obtain ⟨r1, r2, r3, r4⟩ := rst_f
  obtain ⟨d1, d2, d3, d4⟩ := end_f
  have r1' : Txt.rstripChars (Str.ofString "first") (Str.ofString "!") = Str.ofString "first" := r1
  have r2' : Txt.rstripChars (Str.ofString "second") (Str.ofString "!") = Str.ofString "second" := r2
  have r3' : Txt.rstripChars (Str.ofString "first!") (Str.ofString "!") = Str.ofString "first" := r3
  have r4' : Txt.rstripChars (Str.ofString "second!") (Str.ofString "!") = Str.ofString "second" := r4
  refine ⟨1, [.dk [(.inr "first", .str p), (.inr "second", .str q)], .lst ((mmP k1 p q n).map mvM)], ?_, rfl⟩
  simp only [nts, List.mem_cons, List.not_mem_nil, or_false] at hn
  rcases hn with rfl | rfl | rfl | rfl | rfl
  · by_cases w1 : p = "works" <;> by_cases w2 : q = "works" <;>
      simp [b_mark_moves, L0_mark_moves, L1_mark_moves, mDef_ev, eV, SZ, forG_ev, KDs_ok, set_app, set_app0, at_app, at_app0, isDM_dk, fDGet, dGet_dk, mmP, opl, mvM, om3, w1, w2, isL_ref, fAppend_ref, ofString_len, ofString_app]
  · by_cases w1 : p = "works" <;> by_cases w2 : q = "works" <;> by_cases w3 : k1 = "owner" <;> by_cases w4 : ownP p = true <;>
      simp [b_mark_moves, L0_mark_moves, L1_mark_moves, mDef_ev, eV, SZ, forG_ev, KDs_ok, set_app, set_app0, at_app, at_app0, isDM_dk, fDGet, dGet_dk, mmP, opl, mvM, om3, w1, w2, w3, w4, isL_ref, fAppend_ref, ofString_len, ofString_app, fFld_ref (H1 _), fFld_ref (H2 _), crewF, bfs, owns_eq, r1, r2, r3, r4, r1', r2', r3', r4', d1, d2, d3, d4, selP, own_w]
  · by_cases w1 : p = "works" <;> by_cases w2 : q = "works" <;> by_cases w3 : k1 = "owner" <;> by_cases w4 : ownP q = true <;>
      simp [b_mark_moves, L0_mark_moves, L1_mark_moves, mDef_ev, eV, SZ, forG_ev, KDs_ok, set_app, set_app0, at_app, at_app0, isDM_dk, fDGet, dGet_dk, mmP, opl, mvM, om3, w1, w2, w3, w4, isL_ref, fAppend_ref, ofString_len, ofString_app, fFld_ref (H1 _), fFld_ref (H2 _), crewF, bfs, owns_eq, r1, r2, r3, r4, r1', r2', r3', r4', d1, d2, d3, d4, selP, own_w]
  · by_cases w1 : p = "works" <;> by_cases w2 : q = "works" <;> by_cases w3 : k1 = "owner" <;> by_cases w4 : ownP p = true <;>
      simp [b_mark_moves, L0_mark_moves, L1_mark_moves, mDef_ev, eV, SZ, forG_ev, KDs_ok, set_app, set_app0, at_app, at_app0, isDM_dk, fDGet, dGet_dk, mmP, opl, mvM, om3, w1, w2, w3, w4, isL_ref, fAppend_ref, ofString_len, ofString_app, fFld_ref (H1 _), fFld_ref (H2 _), crewF, bfs, owns_eq, r1, r2, r3, r4, r1', r2', r3', r4', d1, d2, d3, d4, selP, own_w]
  · by_cases w1 : p = "works" <;> by_cases w2 : q = "works" <;> by_cases w3 : k1 = "owner" <;> by_cases w4 : ownP q = true <;>
      simp [b_mark_moves, L0_mark_moves, L1_mark_moves, mDef_ev, eV, SZ, forG_ev, KDs_ok, set_app, set_app0, at_app, at_app0, isDM_dk, fDGet, dGet_dk, mmP, opl, mvM, om3, w1, w2, w3, w4, isL_ref, fAppend_ref, ofString_len, ofString_app, fFld_ref (H1 _), fFld_ref (H2 _), crewF, bfs, owns_eq, r1, r2, r3, r4, r1', r2', r3', r4', d1, d2, d3, d4, selP, own_w]
end
end Lw
namespace Lw
open PySem L2 Mo
def mvO (nm mk p q n l u v : Str) : Option (Str × Str × Str) :=
  if nm = "steady" then stdyP p q n l u v else if nm = "norepeat" then nrP mk p q n l u v else if nm = "forward" then some (fwP mk p q n l u v) else snglP n u v
def mv1 (nm mk p q n : Str) (x : Str × (Str × Str)) : List MVT :=
  if (nm = "calm" ∨ nm = "norepeat") ∧ Txt.startswith x.1 "out " = true then [] else [(x.1, mvO nm mk p q n x.1 x.2.1 x.2.2)]
def isNm (nm : Str) : Prop := nm = "single" ∨ nm = "calm" ∨ nm = "steady" ∨ nm = "norepeat" ∨ nm = "forward"
theorem mv1_len (nm mk a b n : Str) (x : Str × (Str × Str)) : (mv1 nm mk a b n x).length ≤ 1 := by
  unfold mv1; split <;> simp
theorem stepsP_len (p q m o o2 s2 o3 s3 : Str) : (stepsP p q m o o2 s2 o3 s3).length ≤ 17 := by
  unfold stepsP
  have b1 := fm_len (one1_len p q o o2 s2) sts
  have b2 := fm_len (one2_len p q o o3 s3) sts
  have hs : sts.length = 7 := rfl
  have n1 := one3_len p q m o s2 s3 "first"
  have n2 := one3_len p q m o s2 s3 "second"
  have n3 := one3_len p q m o s2 s3 "nobody"
  simp only [List.length_append]
  omega
def movesP (nm p q n mk m o o2 s2 o3 s3 : Str) : List MVT := (stepsP p q m o o2 s2 o3 s3).flatMap (mv1 nm mk p q n) ++ (if nm = "forward" then mmP mk p q n else [])
section
variable {h : MH} {pr c i j r : Nat} {s1 m1 o1 k1 s2 m2 o2 k2 s3 m3 o3 k3 : Str} {r1 r2 r3 : Nat}
theorem call_turn (nm : Str) (hnm : isNm nm) (hpr : h[pr]? = some (.ins "Promise" [("name", .str nm)])) (hc : h[c]? = some (.ins "Crew" (crewF i j r))) (hi : h[i]? = some (.ins "Book" (bfs s1 m1 o1 k1 r1))) (p q n : Str) (hn : n ∈ nts ∨ nm ≠ "forward") (x : Str × (Str × Str)) (hx : x.1 ∈ lbs) (acc : List MVT) (g : MH) (hl : acc.length < 100) :
    L0_Promise___call__ [some (.ref pr), some (.ref c), some (.tup [.str p, .str q, .str n]), some (.ref h.length), some (.str x.1), some (.tup [.str x.2.1, .str x.2.2])] (h ++ .lst (acc.map mvM) :: g) = 
      .nx [some (.ref pr), some (.ref c), some (.tup [.str p, .str q, .str n]), some (.ref h.length), some (.str x.1), some (.tup [.str x.2.1, .str x.2.2])] (h ++ .lst ((acc ++ mv1 nm k1 p q n x).map mvM) :: g) ∨
    L0_Promise___call__ [some (.ref pr), some (.ref c), some (.tup [.str p, .str q, .str n]), some (.ref h.length), some (.str x.1), some (.tup [.str x.2.1, .str x.2.2])] (h ++ .lst (acc.map mvM) :: g) = 
      .ct [some (.ref pr), some (.ref c), some (.tup [.str p, .str q, .str n]), some (.ref h.length), some (.str x.1), some (.tup [.str x.2.1, .str x.2.2])] (h ++ .lst ((acc ++ mv1 nm k1 p q n x).map mvM) :: g) := by
  have hl2 : acc.length < 16777216 := by omega
  have Hp : ∀ t, (h ++ t)[pr]? = some (.ins "Promise" [("name", .str nm)]) := fun t => app_at hpr
  have N := fun t => norepeat_eq (h := h ++ t) (app_at hc) (app_at hi) p q n x.1 x.2.1 x.2.2 hx
  rcases hnm with rfl | rfl | rfl | rfl | rfl
  · left; simp [L0_Promise___call__, eV, SZ, fFld_ref (Hp _), single_eq, isL_ref, fAppend_ref, at_app0, set_app0, hl2, mv1, mvO, mvM]
  · by_cases y : Txt.startswith x.1 "out " = true
    · right; simp [L0_Promise___call__, eV, SZ, fFld_ref (Hp _), mv1, y]
    · left; simp [L0_Promise___call__, eV, SZ, fFld_ref (Hp _), single_eq, isL_ref, fAppend_ref, at_app0, set_app0, hl2, mv1, mvO, mvM, y]
  · left; simp [L0_Promise___call__, eV, SZ, fFld_ref (Hp _), steady_eq, isL_ref, fAppend_ref, at_app0, set_app0, hl2, mv1, mvO, mvM]
  · by_cases y : Txt.startswith x.1 "out " = true
    · right; simp [L0_Promise___call__, eV, SZ, fFld_ref (Hp _), mv1, y]
    · left; simp [L0_Promise___call__, eV, SZ, fFld_ref (Hp _), N, isL_ref, fAppend_ref, at_app0, set_app0, hl2, mv1, mvO, mvM, y]
  · have F := fun t => forward_eq (h := h ++ t) (app_at hc) (app_at hi) p q n x.1 x.2.1 x.2.2 hx (hn.elim id fun z => absurd rfl z)
    left; simp [L0_Promise___call__, eV, SZ, fFld_ref (Hp _), F, isL_ref, fAppend_ref, at_app0, set_app0, hl2, mv1, mvO, mvM]
theorem call_eq (nm : Str) (hnm : isNm nm) (hpr : h[pr]? = some (.ins "Promise" [("name", .str nm)])) (hc : h[c]? = some (.ins "Crew" (crewF i j r))) (hi : h[i]? = some (.ins "Book" (bfs s1 m1 o1 k1 r1))) (hj : h[j]? = some (.ins "Book" (bfs s2 m2 o2 k2 r2))) (hk : h[r]? = some (.ins "Book" (bfs s3 m3 o3 k3 r3)))
    (p q n : Str) (hp : p ∈ pls) (hq : q ∈ pls) (hn : n ∈ nts ∨ nm ≠ "forward") :
    m_Promise___call__ [.ref pr, .ref c, .tup [.str p, .str q, .str n]] h = .ok (.ref h.length) (h ++ [.lst ((movesP nm p q n k1 m1 o1 o2 s2 o3 s3).map mvM)]) := by
  refine gc_newE (o := .lst ((movesP nm p q n k1 m1 o1 o2 s2 o3 s3).map mvM)) ?_ (norefs_mvM _)
  have A := steps_eq (app_at (t := [.lst []]) hc) (app_at hi) (app_at hj) (app_at hk) p q hp hq
  have hlen := stepsP_len p q m1 o1 o2 s2 o3 s3
  have Hp : ∀ t, (h ++ t)[pr]? = some (.ins "Promise" [("name", .str nm)]) := fun t => app_at hpr
  obtain ⟨s', g', ⟨y4, y5, hs⟩, e⟩ := acc_loop (h := h) (M := mvM) (E := stM) (xs := stepsP p q m1 o1 o2 s2 o3 s3) (get := getSeq (.ref (h.length + 1))) (gs := gT [4, 5]) (b := L0_Promise___call__) (mv1 nm k1 p q n)
    (fun s => ∃ x4 x5, s = [some (.ref pr), some (.ref c), some (.tup [.str p, .str q, .str n]), some (.ref h.length), x4, x5]) [.lst ((stepsP p q m1 o1 o2 s2 o3 s3).map stM)] 90
    (fun i acc g' => by
      rw [getSeq_ref (xs := (stepsP p q m1 o1 o2 s2 o3 s3).map stM) (by simp [at_app])]
      simp) (mv1_len nm k1 p q n) (by
      rintro x hx s acc g' ⟨x4, x5, rfl⟩ hl
      have T := call_turn nm hnm hpr hc hi p q n hn x (stepsP_lbs _ _ _ _ _ _ _ _ x hx) acc ([.lst ((stepsP p q m1 o1 o2 s2 o3 s3).map stM)] ++ g') (by omega)
      refine ⟨_, _, [], rfl, ⟨some (.str x.1), some (.tup [.str x.2.1, .str x.2.2]), rfl⟩, ?_⟩
      rw [List.append_nil]
      exact T)
    [some (.ref pr), some (.ref c), some (.tup [.str p, .str q, .str n]), some (.ref h.length), none, none] [] [] ⟨_, _, rfl⟩ (by simp; omega)
  subst hs
  simp at A
  simp at e
  by_cases f : nm = "forward"
  · subst f
    have hn' : n ∈ nts := hn.elim id fun z => absurd rfl z
    have M := fun t => mark_moves_eq (h := h ++ t) (app_at hc) (app_at hi) p q n hn'
    have b1 : ((stepsP p q m1 o1 o2 s2 o3 s3).flatMap (mv1 "forward" k1 p q n)).length ≤ 17 := Nat.le_trans (fm_len (mv1_len "forward" k1 p q n) _) hlen
    have b2 : (mmP k1 p q n).length ≤ 5 := by
      unfold mmP opl
      simp only [List.length_append]
      repeat' split
      all_goals simp
    refine ⟨0, .lst ((movesP "forward" p q n k1 m1 o1 o2 s2 o3 s3).map mvM) :: .lst ((stepsP p q m1 o1 o2 s2 o3 s3).map stM) :: (g' ++ [.lst ((mmP k1 p q n).map mvM)]), ?_, rfl⟩
    have b3 : ((stepsP p q m1 o1 o2 s2 o3 s3).flatMap (mv1 "forward" k1 p q n)).length + (mmP k1 p q n).length ≤ 16777216 := by omega
    rw [mDef_ev]
    simp [b_Promise___call__, eV, SZ, A, KFo_ref, at_app]
    rw [e]
    simp [fFld_ref (Hp _), eV, M, isL_ref, at_app, at_app0, fExtend, movesP, SZ, b3, set_app0, -List.length_flatMap]
  · refine ⟨0, .lst ((movesP nm p q n k1 m1 o1 o2 s2 o3 s3).map mvM) :: .lst ((stepsP p q m1 o1 o2 s2 o3 s3).map stM) :: g', ?_, rfl⟩
    rw [mDef_ev]
    simp [b_Promise___call__, eV, SZ, A, KFo_ref, at_app]
    rw [e]
    simp [fFld_ref (Hp _), eV, movesP, f]
end
end Lw
namespace BF
variable {S L : Type} [DecidableEq S]
abbrev Or (S L : Type) := List (S × Option (S × L))
def keys (o : Or S L) : List S := o.map (·.1)
def scan (x : S) : List (L × Option S) → Or S L → List S → (L × Or S L) ⊕ (Or S L × List S)
  | [], o, la => .inr (o, la)
  | (l, none) :: _, o, _ => .inl (l, o)
  | (l, some y) :: r, o, la => if y ∈ keys o then scan x r o la else scan x r (o ++ [(y, some (x, l))]) (la ++ [y])
def layer (mv : S → List (L × Option S)) : List S → Or S L → List S → List S → (S × L × Or S L) ⊕ (Or S L × List S × List S)
  | [], o, tb, la => .inr (o, tb, la)
  | x :: xs, o, tb, la => match scan x (mv x) o la with
    | .inl (l, o') => .inl (x, l, o')
    | .inr (o', la') => layer mv xs o' (tb ++ [x]) la'
def bfs (mv : S → List (L × Option S)) : Nat → List S → Or S L → List S → Option ((S × L × Or S L) ⊕ (Or S L × List S))
  | 0, _, _, _ => none
  | n + 1, ly, o, tb => match ly with
    | [] => some (.inr (o, tb))
    | _ => match layer mv ly o tb [] with
      | .inl z => some (.inl z)
      | .inr (o', tb', la) => bfs mv n la o' tb'
structure WF (mv : S → List (L × Option S)) (s0 : S) (o : Or S L) : Prop where
  nd : (keys o).Nodup
  hd : ∃ r, o = (s0, none) :: r
  par : ∀ a y p l b, o = a ++ (y, some (p, l)) :: b → p ∈ keys a ∧ (l, some y) ∈ mv p
  non : ∀ a y b, o = a ++ (y, none) :: b → a = []
theorem keys_app (a b : Or S L) : keys (a ++ b) = keys a ++ keys b := by simp [keys]
theorem WF.start {mv : S → List (L × Option S)} {s0 : S} : WF mv s0 [(s0, none)] := by
  refine ⟨by simp [keys], ⟨[], rfl⟩, fun a y p l b e => ?_, fun a y b e => ?_⟩
  · cases a with
    | nil => simp at e
    | cons z a => simp at e
  · cases a with
    | nil => rfl
    | cons z a => simp at e
theorem WF.add {mv : S → List (L × Option S)} {s0 : S} {o : Or S L} (w : WF mv s0 o) {x y : S} {l : L} (hx : x ∈ keys o) (hm : (l, some y) ∈ mv x) (hy : y ∉ keys o) : WF mv s0 (o ++ [(y, some (x, l))]) := by
  obtain ⟨r, hr⟩ := w.hd
  refine ⟨?_, ⟨r ++ [(y, some (x, l))], by rw [hr]; rfl⟩, fun a z p m b e => ?_, fun a z b e => ?_⟩
  · rw [keys_app, List.nodup_append]
    exact ⟨w.nd, by simp [keys], fun b hb c hc e => by simp [keys] at hc; subst hc; subst e; exact hy hb⟩
  · rcases List.append_eq_append_iff.mp e with ⟨c, e1, e2⟩ | ⟨c, e1, e2⟩
    · cases c with
      | nil =>
        simp at e1 e2
        obtain ⟨⟨rfl, rfl, rfl⟩, _⟩ := e2
        subst e1
        exact ⟨hx, hm⟩
      | cons q c =>
        simp at e2
    · cases c with
      | nil =>
        simp at e1 e2
        obtain ⟨⟨rfl, rfl, rfl⟩, _⟩ := e2
        subst e1
        exact ⟨hx, hm⟩
      | cons q c =>
        rw [List.cons_append] at e2
        injection e2 with e3 e4
        subst e3
        exact w.par a z p m c e1
  · rcases List.append_eq_append_iff.mp e with ⟨c, e1, e2⟩ | ⟨c, e1, e2⟩
    · cases c with
      | nil => simp at e2
      | cons q c => simp at e2
    · cases c with
      | nil => simp at e2
      | cons q c =>
        rw [List.cons_append] at e2
        injection e2 with e3 e4
        subst e3
        exact w.non a z c e1
inductive Reach (mv : S → List (L × Option S)) (s0 : S) : S → Prop
  | start : Reach mv s0 s0
  | step {x y l} : Reach mv s0 x → (l, some y) ∈ mv x → Reach mv s0 y
theorem WF.reach {mv : S → List (L × Option S)} {s0 : S} {o : Or S L} (w : WF mv s0 o) : ∀ y ∈ keys o, Reach mv s0 y := by
  have key : ∀ n (a b : Or S L), a.length = n → o = a ++ b → ∀ y ∈ keys a, Reach mv s0 y := by
    intro n
    induction n using Nat.strongRecOn with
    | _ n ih =>
      intro a b hn e y hy
      obtain ⟨⟨y', p⟩, hq, rfl⟩ := List.mem_map.mp hy
      obtain ⟨a1, a2, rfl⟩ := List.append_of_mem hq
      cases p with
      | none =>
        have := w.non a1 y' (a2 ++ b) (by rw [e]; simp)
        subst this
        obtain ⟨r, hr⟩ := w.hd
        rw [e] at hr
        simp at hr
        rw [hr.1]
        exact .start
      | some pl =>
        obtain ⟨p, l⟩ := pl
        obtain ⟨h1, h2⟩ := w.par a1 y' p l (a2 ++ b) (by rw [e]; simp)
        exact .step (ih a1.length (by rw [← hn]; simp) a1 ((y', some (p, l)) :: a2 ++ b) rfl (by rw [e]; simp) p h1) h2
  exact key o.length o [] rfl (by simp)
theorem scan_ok {mv : S → List (L × Option S)} {s0 x : S} : ∀ (ms : List (L × Option S)) (o : Or S L) (la : List S), WF mv s0 o → x ∈ keys o → (∀ m ∈ ms, m ∈ mv x) →
    match scan x ms o la with
    | .inl (l, o') => WF mv s0 o' ∧ (l, none) ∈ ms ∧ ∃ t, keys o' = keys o ++ t
    | .inr (o', la') => WF mv s0 o' ∧ (∃ t, keys o' = keys o ++ t ∧ la' = la ++ t ∧ t.length ≤ ms.length) ∧ ∀ l t, (l, t) ∈ ms → ∃ y, t = some y ∧ y ∈ keys o'
  | [], o, la, w, _, _ => ⟨w, ⟨[], by simp, by simp, by simp⟩, fun _ _ h => by simp at h⟩
  | (l, none) :: r, o, la, w, _, _ => ⟨w, by simp, [], by simp⟩
  | (l, some y) :: r, o, la, w, hx, hm => by
    unfold scan
    by_cases hy : y ∈ keys o
    · rw [if_pos hy]
      have ih := scan_ok r o la w hx (fun m h => hm m (List.mem_cons_of_mem _ h))
      split at ih
      · exact ⟨ih.1, List.mem_cons_of_mem _ ih.2.1, ih.2.2⟩
      · obtain ⟨i1, ⟨t, i2, i3, i5⟩, i4⟩ := ih
        refine ⟨i1, ⟨t, i2, i3, by rw [List.length_cons]; omega⟩, fun l' t' h => ?_⟩
        rcases List.mem_cons.mp h with h | h
        · cases h
          exact ⟨y, rfl, by rw [i2]; exact List.mem_append_left _ hy⟩
        · exact i4 l' t' h
    · rw [if_neg hy]
      have w' := w.add hx (hm _ List.mem_cons_self) hy
      have ih := scan_ok r (o ++ [(y, some (x, l))]) (la ++ [y]) w' (by rw [keys_app]; exact List.mem_append_left _ hx) (fun m h => hm m (List.mem_cons_of_mem _ h))
      split at ih
      · obtain ⟨i1, i2, t, i3⟩ := ih
        exact ⟨i1, List.mem_cons_of_mem _ i2, y :: t, by rw [i3, keys_app]; simp [keys]⟩
      · obtain ⟨i1, ⟨t, i2, i3, i5⟩, i4⟩ := ih
        refine ⟨i1, ⟨y :: t, by rw [i2, keys_app]; simp [keys], by rw [i3]; simp, by rw [List.length_cons, List.length_cons]; omega⟩, fun l' t' h => ?_⟩
        rcases List.mem_cons.mp h with h | h
        · cases h
          exact ⟨y, rfl, by rw [i2, keys_app]; simp [keys]⟩
        · exact i4 l' t' h
theorem layer_ok {mv : S → List (L × Option S)} {s0 : S} : ∀ (ly : List S) (o : Or S L) (tb la : List S), WF mv s0 o → keys o = tb ++ ly ++ la → (∀ x ∈ tb, ∀ l t, (l, t) ∈ mv x → ∃ y, t = some y ∧ y ∈ keys o) →
    match layer mv ly o tb la with
    | .inl (x, l, o') => WF mv s0 o' ∧ x ∈ keys o' ∧ (l, none) ∈ mv x
    | .inr (o', tb', la') => WF mv s0 o' ∧ tb' = tb ++ ly ∧ keys o' = tb' ++ la' ∧ ∀ x ∈ tb', ∀ l t, (l, t) ∈ mv x → ∃ y, t = some y ∧ y ∈ keys o'
  | [], o, tb, la, w, hk, hc => ⟨w, by simp, by simpa using hk, hc⟩
  | x :: xs, o, tb, la, w, hk, hc => by
    have hx : x ∈ keys o := by rw [hk]; simp
    have sc := scan_ok (mv x) o la w hx (fun _ h => h)
    unfold layer
    split at sc
    · rename_i l o' e
      obtain ⟨i1, i2, t, i3⟩ := sc
      exact ⟨i1, by rw [i3]; exact List.mem_append_left _ hx, i2⟩
    · rename_i o' la' e
      obtain ⟨i1, ⟨t, i2, i3, _⟩, i4⟩ := sc
      have ih := layer_ok xs o' (tb ++ [x]) la' i1 (by rw [i2, i3, hk]; simp) (fun z hz l t' h => by
        rcases List.mem_append.mp hz with hz | hz
        · obtain ⟨y, e1, e2⟩ := hc z hz l t' h
          exact ⟨y, e1, by rw [i2]; exact List.mem_append_left _ e2⟩
        · simp at hz
          subst hz
          exact i4 l t' h)
      split at ih
      · exact ih
      · obtain ⟨j1, j2, j3, j4⟩ := ih
        exact ⟨j1, by rw [j2]; simp, j3, j4⟩
theorem nodup_le : ∀ (a b : List S), a.Nodup → (∀ x ∈ a, x ∈ b) → a.length ≤ b.length
  | [], _, _, _ => by simp
  | x :: a, b, h, hs => by
    obtain ⟨b1, b2, rfl⟩ := List.append_of_mem (hs x List.mem_cons_self)
    rw [List.nodup_cons] at h
    have ih := nodup_le a (b1 ++ b2) h.2 (fun y hy => by
      have := hs y (List.mem_cons_of_mem _ hy)
      simp at this ⊢
      rcases this with e | e | e
      · exact .inl e
      · subst e; exact absurd hy h.1
      · exact .inr e)
    simp at ih ⊢
    omega
theorem bfs_ok {mv : S → List (L × Option S)} {s0 : S} {U : List S} (hU : ∀ x, Reach mv s0 x → x ∈ U) : ∀ (n : Nat) (ly : List S) (o : Or S L) (tb : List S), WF mv s0 o → keys o = tb ++ ly → (∀ x ∈ tb, ∀ l t, (l, t) ∈ mv x → ∃ y, t = some y ∧ y ∈ keys o) →
    U.length + 1 ≤ n + tb.length → ∃ r, bfs mv n ly o tb = some r ∧ match r with
      | .inl (x, l, o') => WF mv s0 o' ∧ x ∈ keys o' ∧ (l, none) ∈ mv x
      | .inr (o', tb') => WF mv s0 o' ∧ keys o' = tb' ∧ ∀ x ∈ tb', ∀ l t, (l, t) ∈ mv x → ∃ y, t = some y ∧ y ∈ tb' := by
  intro n
  induction n with
  | zero =>
    intro ly o tb w hk _ hn
    have := nodup_le (keys o) U w.nd (fun x hx => hU x (w.reach x hx))
    rw [hk, List.length_append] at this
    omega
  | succ n ih =>
    intro ly o tb w hk hc hn
    cases ly with
    | nil => exact ⟨_, rfl, w, by simpa using hk, by rw [List.append_nil] at hk; rw [← hk] at hc ⊢; exact hc⟩
    | cons x xs =>
      have ly_ok := layer_ok (x :: xs) o tb [] w (by simpa using hk) hc
      unfold bfs
      dsimp only
      split at ly_ok
      · rename_i e
        rw [e]
        exact ⟨_, rfl, ly_ok⟩
      · rename_i e
        rw [e]
        obtain ⟨j1, j2, j3, j4⟩ := ly_ok
        exact ih _ _ _ j1 j3 j4 (by rw [j2]; simp; omega)
def judge (mv : S → List (L × Option S)) (s0 : S) (n : Nat) : Option ((S × L × Or S L) ⊕ (Or S L × List S)) := bfs mv n [s0] [(s0, none)] []
theorem judge_ok {mv : S → List (L × Option S)} {s0 : S} {U : List S} (hU : ∀ x, Reach mv s0 x → x ∈ U) {n : Nat} (hn : U.length + 1 ≤ n) : ∃ r, judge mv s0 n = some r ∧ match r with
      | .inl (x, l, o') => WF mv s0 o' ∧ x ∈ keys o' ∧ (l, none) ∈ mv x
      | .inr (o', tb') => WF mv s0 o' ∧ keys o' = tb' ∧ ∀ x ∈ tb', ∀ l t, (l, t) ∈ mv x → ∃ y, t = some y ∧ y ∈ tb' :=
  bfs_ok hU n [s0] [(s0, none)] [] WF.start rfl (by simp) (by simpa using hn)
theorem judge_kept {mv : S → List (L × Option S)} {s0 : S} {U : List S} (hU : ∀ x, Reach mv s0 x → x ∈ U) {n : Nat} (hn : U.length + 1 ≤ n) {o : Or S L} {tb : List S} (e : judge mv s0 n = some (.inr (o, tb))) : ∀ x, Reach mv s0 x → ∀ l, (l, none) ∉ mv x := by
  obtain ⟨r, e1, h⟩ := judge_ok hU hn
  rw [e] at e1
  cases e1
  obtain ⟨w, hk, hc⟩ := h
  have all : ∀ x, Reach mv s0 x → x ∈ tb := by
    intro x hx
    induction hx with
    | start =>
      obtain ⟨r, hr⟩ := w.hd
      rw [← hk, hr]
      simp [keys]
    | step _ hm ih =>
      obtain ⟨y, e1, e2⟩ := hc _ ih _ _ hm
      cases e1
      exact e2
  intro x hx l hm
  obtain ⟨y, e1, _⟩ := hc x (all x hx) l none hm
  cases e1
theorem judge_broken {mv : S → List (L × Option S)} {s0 : S} {U : List S} (hU : ∀ x, Reach mv s0 x → x ∈ U) {n : Nat} (hn : U.length + 1 ≤ n) {x : S} {l : L} {o : Or S L} (e : judge mv s0 n = some (.inl (x, l, o))) : WF mv s0 o ∧ x ∈ keys o ∧ Reach mv s0 x ∧ (l, none) ∈ mv x := by
  obtain ⟨r, e1, h⟩ := judge_ok hU hn
  rw [e] at e1
  cases e1
  exact ⟨h.1, h.2.1, h.1.reach x h.2.1, h.2.2⟩
end BF
namespace Lw
open PySem L2 Mo BF
abbrev ST := Str × Str × Str
def stV (x : ST) : MV := .tup [.str x.1, .str x.2.1, .str x.2.2]
def kST (x : ST) : List Key := [.inr x.1, .inr x.2.1, .inr x.2.2]
def orV : Option (ST × Str) → MV
  | none => .non
  | some (x, l) => .tup [stV x, .str l]
def orM (o : Or ST Str) : List (List Key × MV) := o.map fun e => (kST e.1, orV e.2)
theorem kST_inj {x y : ST} : kST x = kST y ↔ x = y := by
  obtain ⟨a, b, c⟩ := x
  obtain ⟨d, e, f⟩ := y
  simp [kST]
theorem keysM_st (x : ST) : keysM [.str x.1, .str x.2.1, .str x.2.2] = some (kST x) := rfl
def par (o : Or ST Str) (y : ST) : Option (Option (ST × Str)) := (o.find? fun e => decide (e.1 = y)).map (·.2)
theorem valM_or (o : Or ST Str) (y : ST) : valM (orM o) (kST y) = (par o y).map orV := by
  unfold valM orM par
  induction o with
  | nil => rfl
  | cons e o ih =>
    simp only [List.map_cons, List.find?_cons]
    by_cases h : e.1 = y
    · rw [decide_eq_true (kST_inj.mpr h), decide_eq_true h]
      rfl
    · rw [decide_eq_false (fun z => h (kST_inj.mp z)), decide_eq_false h]
      exact ih
theorem par_some (o : Or ST Str) (y : ST) : (par o y).isSome = decide (y ∈ keys o) := by
  unfold par keys
  induction o with
  | nil => simp
  | cons e o ih =>
    simp only [List.find?_cons, List.map_cons, List.mem_cons]
    by_cases h : e.1 = y
    · rw [decide_eq_true h]; simp [h]
    · rw [decide_eq_false h]
      rw [ih]
      congr 1
      simp [Ne.symm h]
theorem putM_or (o : Or ST Str) (y : ST) (z : Option (ST × Str)) (h : y ∉ keys o) : putM (orM o) (kST y) (orV z) = orM (o ++ [(y, z)]) := by
  have e : ((orM o).any fun kv => decide (kv.1 = kST y)) = false := by
    rw [List.any_eq_false]
    intro kv hk hd
    obtain ⟨e, he, rfl⟩ := List.mem_map.mp hk
    exact h (List.mem_map.mpr ⟨e, he, kST_inj.mp (of_decide_eq_true hd)⟩)
  unfold putM
  rw [e]
  simp [orM]
section
variable {H : MH} {og : Nat} {o : Or ST Str}
theorem notin_or (e : H[og]? = some (.dt (orM o))) (y : ST) : fNotInA (stV y) (.ref og) H = some (.bl (!decide (y ∈ keys o)), H) := by
  have d : dGet H (.ref og) (stV y) = some ((par o y).map orV) := by
    simp only [dGet, e, stV, keysM_st, Option.map_some, valM_or]
  unfold fNotInA fDNotIn
  rw [if_pos (isDM_dt e), d]
  simp only [Option.isSome_map, par_some]
theorem put_or (e : H[og]? = some (.dt (orM o))) (y : ST) (z : Option (ST × Str)) (h : y ∉ keys o) (hl : o.length < SZ) : putA (stV y |> fun _ => .ref og) (stV y) (orV z) H = some (H.set og (.dt (orM (o ++ [(y, z)])))) := by
  unfold putA
  rw [if_pos (isDM_dt e)]
  have hl' : (orM o).length < SZ := by simpa [orM] using hl
  simp only [putD, e, stV, keysM_st, if_pos hl', putM_or o y z h]
theorem get_or (e : H[og]? = some (.dt (orM o))) (y : ST) (z : Option (ST × Str)) (h : par o y = some z) : fIxA (.ref og) (stV y) H = some (orV z, H) := by
  have d : dGet H (.ref og) (stV y) = some ((par o y).map orV) := by
    simp only [dGet, e, stV, keysM_st, Option.map_some, valM_or]
  unfold fIxA fDGet
  rw [if_pos (isDM_dt e), d, h]
  rfl
end
theorem ixA_tup (xs : List MV) (i : Int) (H : MH) : fIxA (.tup xs) (.int i) H = KX (atI xs i) H := by
  rw [fIxA_ev, if_neg (by simp [isDM])]
  rfl
theorem mvM_some (l : Str) (y : ST) : mvM (l, some y) = .tup [.str l, stV y] := rfl
theorem mvM_none (l : Str) : mvM (l, none) = .tup [.str l, .non] := rfl
def back (o : Or ST Str) : Nat → ST → List Str
  | 0, _ => []
  | n + 1, y => match par o y with
    | some (some (p, l)) => l :: back o n p
    | _ => []
def pos (o : Or ST Str) (y : ST) : Nat := (keys o).findIdx fun z => decide (z = y)
theorem par_app {a b : Or ST Str} {y : ST} {z : Option (ST × Str)} (h : y ∉ keys a) : par (a ++ (y, z) :: b) y = some z := by
  unfold par
  rw [List.find?_append, List.find?_eq_none.mpr]
  · simp
  · intro e he hd
    exact h (List.mem_map.mpr ⟨e, he, of_decide_eq_true hd⟩)
theorem back_loop {mv : ST → List (Str × Option ST)} {s0 : ST} {o : Or ST Str} (w : WF mv s0 o) {og : Nat} {x : MV} {h : MH} (ho : h[og]? = some (.dt (orM o))) (hbig : o.length < 1000) :
    ∀ (n : Nat) (a : Or ST Str) (y : ST) (z : Option (ST × Str)) (b : Or ST Str), o = a ++ (y, z) :: b → a.length < n → ∀ (N : Nat) (acc : List Str), n ≤ N → acc.length + a.length < 2000 → ∃ s3,
      whileG (bB (e2 fNotN (eV 3) (eC .non))) L0_labels_to N [some (.ref og), some x, some (.ref h.length), some (orV z)] (h ++ [.lst (acc.map .str)]) =
        .nx [some (.ref og), some x, some (.ref h.length), s3] (h ++ [.lst ((acc ++ back o n y).map .str)]) := by
  intro n
  induction n with
  | zero => intro a y z b e hn; omega
  | succ n ih =>
    intro a y z b e hn N acc hN hacc
    obtain ⟨N, rfl⟩ : ∃ M, N = M + 1 := ⟨N - 1, by omega⟩
    have hy : y ∉ keys a := by
      have := w.nd
      rw [e, keys_app, List.nodup_append] at this
      intro hm
      exact this.2.2 y hm y (by simp [keys]) rfl
    have hp : par o y = some z := by rw [e]; exact par_app hy
    cases z with
    | none =>
      refine ⟨some .non, ?_⟩
      unfold whileG
      simp -implicitDefEqProofs [eV, orV, back, hp, Rz.bnS]
    | some pl =>
      obtain ⟨p, l⟩ := pl
      obtain ⟨h1, h2⟩ := w.par a y p l b e
      obtain ⟨⟨p', z'⟩, hq, rfl⟩ := List.mem_map.mp h1
      obtain ⟨a1, a2, rfl⟩ := List.append_of_mem hq
      have hp2 : par o p' = some z' := by
        rw [e]
        have hn2 : p' ∉ keys a1 := by
          have := w.nd
          rw [e, List.append_assoc, keys_app, List.nodup_append] at this
          intro hm
          exact this.2.2 p' hm p' (by simp [keys]) rfl
        rw [List.append_assoc]
        exact par_app hn2
      have hl : a1.length < n := by simp at hn; omega
      obtain ⟨s3, ih⟩ := ih a1 p' z' (a2 ++ (y, some (p', l)) :: b) (by rw [e]; simp) hl N (acc ++ [l]) (by omega) (by simp at hacc ⊢; omega)
      refine ⟨s3, ?_⟩
      have hg : (h ++ [MO.lst ((acc ++ [l]).map .str)])[og]? = some (.dt (orM o)) := app_at ho
      have G := get_or hg p' z' hp2
      have hl2 : (acc.map MV.str).length < SZ := by simp [SZ]; simp at hacc; omega
      have ap : fAppend (.ref h.length) [.str l] (h ++ [.lst (acc.map .str)]) = some (.non, h ++ [.lst ((acc ++ [l]).map .str)]) := by
        rw [fAppend_ref at_app0 hl2, set_app0]
        simp
      have il : isL (.ref h.length) (h ++ [.lst (acc.map .str)]) = true := isL_ref at_app0
      have bk : back o (n + 1) y = l :: back o n p' := by simp only [back, hp]
      have q : L0_labels_to [some (.ref og), some x, some (.ref h.length), some (orV (some (p', l)))] (h ++ [.lst (acc.map .str)]) = .nx [some (.ref og), some x, some (.ref h.length), some (orV z')] (h ++ [.lst ((acc ++ [l]).map .str)]) := by
        have e0 : orV (some (p', l)) = .tup [stV p', .str l] := rfl
        rw [e0]
        generalize orV z' = v at G ⊢
        simp only [List.map_append, List.map_cons, List.map_nil] at G ap ⊢
        simp -implicitDefEqProofs [L0_labels_to, eV, il, -fIxA_ev, ixA_tup, ap, G]
      unfold whileG
      rw [show (bB (e2 fNotN (eV 3) (eC .non))) [some (.ref og), some x, some (.ref h.length), some (orV (some (p', l)))] (h ++ [.lst (acc.map .str)]) = .ok true (h ++ [.lst (acc.map .str)]) by simp -implicitDefEqProofs [eV, orV]]
      simp only [Rz.bnS, q, if_true]
      rw [ih, bk]
      simp
end Lw
namespace Lw
open PySem L2 Mo BF
theorem keys_split {o : Or ST Str} {y : ST} (hy : y ∈ keys o) : ∃ a z b, o = a ++ (y, z) :: b := by
  obtain ⟨⟨y', z⟩, hq, rfl⟩ := List.mem_map.mp hy
  obtain ⟨a, b, rfl⟩ := List.append_of_mem hq
  exact ⟨a, z, b, rfl⟩
theorem keys_len {o : Or ST Str} : (keys o).length = o.length := by simp [keys]
def runTo (o : Or ST Str) (y : ST) : List Str := (back o (o.length + 1) y).reverse
theorem labels_eq {mv : ST → List (Str × Option ST)} {s0 : ST} {o : Or ST Str} (w : WF mv s0 o) {og : Nat} {h : MH} (ho : h[og]? = some (.dt (orM o))) (hbig : o.length < 1000) {y : ST} (hy : y ∈ keys o) :
    m_labels_to [.ref og, stV y] h = .ok (.ref h.length) (h ++ [.lst ((runTo o y).map .str)]) := by
  obtain ⟨a, z, b, e⟩ := keys_split hy
  have hya : y ∉ keys a := by
    have := w.nd
    rw [e, keys_app, List.nodup_append] at this
    intro hm
    exact this.2.2 y hm y (by simp [keys]) rfl
  have hp : par o y = some z := by rw [e]; exact par_app hya
  obtain ⟨s3, W⟩ := back_loop w (x := stV y) ho hbig (o.length + 1) a y z b e (by rw [e]; simp; omega) FUEL [] (by show _ ≤ 100000; omega) (by rw [e] at hbig; simp at hbig ⊢; omega)
  have G := get_or (H := h ++ [.lst []]) (app_at ho) y z hp
  refine gc_newE (o := .lst ((runTo o y).map .str)) ?_ (norefs_str _)
  refine ⟨1, [.lst ((back o (o.length + 1) y).map .str), .lst ((runTo o y).map .str)], ?_, rfl⟩
  have rv : fRevL (.ref h.length) (h ++ [.lst ((back o (o.length + 1) y).map .str)]) = some (.ref (h.length + 1), h ++ [.lst ((back o (o.length + 1) y).map .str), .lst ((runTo o y).map .str)]) := by
    rw [fRevL_at at_app0]
    simp [runTo]
  simp only [List.map_nil, List.nil_append] at W
  simp -implicitDefEqProofs [mDef_ev, b_labels_to, eV, -fIxA_ev, G, sWhile, W, rv]
theorem vinit {h : MH} {a : Nat} {x y z : MV} (ha : h[a]? = some (.ins "Verdict" [])) : m_Verdict___init__ [.ref a, x, y, z] h = .ok .non (h.set a (.ins "Verdict" [("kept", x), ("table", y), ("run", z)])) := by
  have g : ∀ o, (h.set a o)[a]? = some o := fun o => List.getElem?_set_self (List.getElem?_eq_some_iff.mp ha).1
  simp -implicitDefEqProofs [m_Verdict___init__, b_Verdict___init__, mDef_ev, eV, SZ, putI_ref ha, putI_ref (g _)]
structure JH (h : MH) (nm : Str) (o : Or ST Str) (tb : List ST) (a : Nat) (la : List ST) (H : MH) : Prop where
  pre : ∀ i, i < h.length → H[i]? = h[i]?
  pr : H[h.length]? = some (.ins "Promise" [("name", .str nm)])
  og : H[h.length + 1]? = some (.dt (orM o))
  tb : H[h.length + 2]? = some (.lst (tb.map stV))
  la : H[a]? = some (.lst (la.map stV))
  ha : h.length + 3 ≤ a
section
variable {mv : ST → List (Str × Option ST)} {s0 x : ST} {U : List ST} {h : MH} {nm : Str} {c l a mo : Nat} {tb : List ST}
theorem o_small (hU : ∀ x, Reach mv s0 x → x ∈ U) (hs : U.length ≤ 900) {o : Or ST Str} (w : WF mv s0 o) : o.length ≤ 900 := by
  have := nodup_le (keys o) U w.nd (fun x hx => hU x (w.reach x hx))
  rw [keys_len] at this
  omega
abbrev jS (c : Nat) (nm : Str) (h : MH) (s0 : ST) (l a : Nat) (x : ST) (y9 y10 : Option MV) : Lo := [some (.ref c), some (.str nm), some (.ref h.length), some (stV s0), some (.ref (h.length + 1)), some (.ref (h.length + 2)), some (.ref l), some (.ref a), some (stV x), y9, y10]
def BrkV (h : MH) (run : List Str) (v : MV) (H : MH) : Prop := ∃ i r, v = .ref i ∧ h.length ≤ i ∧ H[i]? = some (.ins "Verdict" [("kept", .bl false), ("table", .non), ("run", .ref r)]) ∧ H[r]? = some (.lst (run.map .str)) ∧ ∀ i, i < h.length → H[i]? = h[i]?
theorem turn_brk {o : Or ST Str} {la : List ST} {H : MH} (J : JH h nm o tb a la H) (w : WF mv s0 o) (hx : x ∈ keys o) (ho : o.length ≤ 900) (lb : Str) :
    ∃ v H', L0_judge (jS c nm h s0 l a x (some (.str lb)) (some .non)) H = .rt v H' ∧ BrkV h (runTo o x ++ [lb]) v H' := by
  have L := labels_eq w J.og (by omega) hx
  have V := vinit (h := H ++ [.lst ((runTo o x).map .str), .lst [.str lb], .lst ((runTo o x).map .str ++ [.str lb]), .ins "Verdict" []]) (a := H.length + 3) (x := .bl false) (y := .non) (z := .ref (H.length + 2)) (by simp [at_app])
  have hl : ∀ n y, (back o n y).length ≤ n := by
    intro n
    induction n with
    | zero => intro y; simp [back]
    | succ n ih =>
      intro y
      unfold back
      split
      · simp; exact ih _
      · simp
  have hr : (runTo o x).length ≤ 901 := by unfold runTo; rw [List.length_reverse]; have := hl (o.length + 1) x; omega
  have ad : fAdd (.ref H.length) (.ref (H.length + 1)) (H ++ [.lst ((runTo o x).map .str), .lst [.str lb]]) = some (.ref (H.length + 2), H ++ [.lst ((runTo o x).map .str), .lst [.str lb], .lst ((runTo o x).map .str ++ [.str lb])]) := by
    have e1 : (H ++ [MO.lst ((runTo o x).map .str), .lst [.str lb]])[H.length]? = some (.lst ((runTo o x).map .str)) := at_app0
    have e2 : (H ++ [MO.lst ((runTo o x).map .str), .lst [.str lb]])[H.length + 1]? = some (.lst [.str lb]) := by simp [at_app]
    rw [fAdd_ref e1 e2, if_pos (by simp [SZ]; omega)]
    simp
  refine ⟨.ref (H.length + 3), H ++ [.lst ((runTo o x).map .str), .lst [.str lb], .lst ((runTo o x).map .str ++ [.str lb]), .ins "Verdict" [("kept", .bl false), ("table", .non), ("run", .ref (H.length + 2))]], ?_, H.length + 3, H.length + 2, rfl, ?_, ?_, ?_, ?_⟩
  · simp only [set_app] at V
    simp at V
    simp -implicitDefEqProofs [L0_judge, eV, SZ, L, ad, V]
  · have := (List.getElem?_eq_some_iff.mp J.og).1; omega
  · simp [at_app]
  · simp [at_app]
  · intro i hi
    have := (List.getElem?_eq_some_iff.mp J.og).1
    rw [List.getElem?_append_left (by omega)]
    exact J.pre i hi
theorem turn_go {o : Or ST Str} {la : List ST} {H : MH} (J : JH h nm o tb a la H) (ho : o.length ≤ 900) (hla : la.length ≤ 900) (lb : Str) (y : ST) :
    ∃ H', L0_judge (jS c nm h s0 l a x (some (.str lb)) (some (stV y))) H = .nx (jS c nm h s0 l a x (some (.str lb)) (some (stV y))) H' ∧ H'.length = H.length ∧ (∀ i, i ≠ h.length + 1 → i ≠ a → H'[i]? = H[i]?) ∧
      if y ∈ keys o then JH h nm o tb a la H' else JH h nm (o ++ [(y, some (x, lb))]) tb a (la ++ [y]) H' := by
  have N := notin_or J.og y
  have isn : fIsN (stV y) .non H = some (.bl false, H) := rfl
  by_cases hy : y ∈ keys o
  · refine ⟨H, ?_, rfl, fun _ _ _ => rfl, by rw [if_pos hy]; exact J⟩
    simp -implicitDefEqProofs [L0_judge, eV, isn, -fNotInA_ev, N, hy]
  · have P : putA (.ref (h.length + 1)) (stV y) (orV (some (x, lb))) H = _ := put_or J.og y (some (x, lb)) hy (by show _ < 16777216; omega)
    have lo := (List.getElem?_eq_some_iff.mp J.og).1
    have la_lt := (List.getElem?_eq_some_iff.mp J.la).1
    have na : h.length + 1 ≠ a := by have := J.ha; omega
    have hA : (H.set (h.length + 1) (.dt (orM (o ++ [(y, some (x, lb))]))))[a]? = some (.lst (la.map stV)) := by rw [List.getElem?_set_ne na]; exact J.la
    have ap : fAppend (.ref a) [stV y] (H.set (h.length + 1) (.dt (orM (o ++ [(y, some (x, lb))])))) = some (.non, (H.set (h.length + 1) (MO.dt (orM (o ++ [(y, some (x, lb))])))).set a (MO.lst (la.map stV ++ [stV y]))) := fAppend_ref hA (by simp [SZ]; omega)
    have il := isL_ref hA
    have eo : orV (some (x, lb)) = .tup [stV x, .str lb] := rfl
    rw [eo] at P
    refine ⟨(H.set (h.length + 1) (.dt (orM (o ++ [(y, some (x, lb))])))).set a (.lst (la.map stV ++ [stV y])), ?_, by simp, fun i h1 h2 => by rw [List.getElem?_set_ne (Ne.symm h2), List.getElem?_set_ne (Ne.symm h1)], ?_⟩
    · simp -implicitDefEqProofs [L0_judge, eV, isn, -fNotInA_ev, N, hy, SZ, P, il, ap]
    · rw [if_neg hy]
      have ha := J.ha
      refine ⟨fun i hi => ?_, ?_, ?_, ?_, ?_, ha⟩
      · rw [List.getElem?_set_ne (by omega), List.getElem?_set_ne (by omega)]; exact J.pre i hi
      · rw [List.getElem?_set_ne (by omega), List.getElem?_set_ne (by omega)]; exact J.pr
      · rw [List.getElem?_set_ne (by omega), List.getElem?_set_self lo]
      · rw [List.getElem?_set_ne (by omega), List.getElem?_set_ne (by omega)]; exact J.tb
      · rw [List.getElem?_set_self (by simpa using la_lt)]; simp
end
end Lw
namespace Lw
open PySem L2 Mo BF
section
variable {mv : ST → List (Str × Option ST)} {s0 x : ST} {U : List ST} {h : MH} {nm : Str} {c l a mo : Nat} {tb : List ST}
theorem scan_loop (hU : ∀ x, Reach mv s0 x → x ∈ U) (hs : U.length ≤ 900) {ms : List MVT} (hm1 : mo ≠ h.length + 1) (hm2 : mo ≠ a) : ∀ (r done : List MVT) (o : Or ST Str) (la : List ST) (H : MH) (y9 y10 : Option MV), ms = done ++ r → WF mv s0 o → x ∈ keys o → (∀ m ∈ r, m ∈ mv x) → la.length ≤ o.length →
    JH h nm o tb a la H → H[mo]? = some (.lst (ms.map mvM)) →
    match scan x r o la with
    | .inl (lb, o') => ∃ v H', forG (getSeq (.ref mo)) (gT [9, 10]) L0_judge (r.length + 1) done.length (jS c nm h s0 l a x y9 y10) H = .rt v H' ∧ BrkV h (runTo o' x ++ [lb]) v H'
    | .inr (o', la') => ∃ y9' y10' H', forG (getSeq (.ref mo)) (gT [9, 10]) L0_judge (r.length + 1) done.length (jS c nm h s0 l a x y9 y10) H = .nx (jS c nm h s0 l a x y9' y10') H' ∧ JH h nm o' tb a la' H' ∧ H'.length = H.length ∧ (∀ i, i ≠ h.length + 1 → i ≠ a → H'[i]? = H[i]?) ∧ la'.length ≤ o'.length
  | [], done, o, la, H, y9, y10, e, w, hx, hm, hla, J, hq => by
    subst e
    refine ⟨y9, y10, H, ?_, J, rfl, fun _ _ _ => rfl, hla⟩
    rw [List.length_nil, forG_ev, getSeq_ref hq, List.getElem?_eq_none (by simp), KF_stop]
  | (lb, none) :: r, done, o, la, H, y9, y10, e, w, hx, hm, hla, J, hq => by
    subst e
    have ho := o_small hU hs w
    obtain ⟨v, H', e1, e2⟩ := turn_brk (c := c) (s0 := s0) (l := l) J w hx ho lb
    refine ⟨v, H', ?_, e2⟩
    have g1 : getSeq (.ref mo) done.length H = some (some (.tup [.str lb, .non])) := by
      rw [getSeq_ref hq]; simp [mvM_none]
    rw [List.length_cons, forG_KFB g1 (s1 := jS c nm h s0 l a x (some (.str lb)) (some .non)) rfl, e1, KFB_rt]
  | (lb, some y) :: r, done, o, la, H, y9, y10, e, w, hx, hm, hla, J, hq => by
    subst e
    have ho := o_small hU hs w
    obtain ⟨H', e1, e2, e3, e4⟩ := turn_go (c := c) (s0 := s0) (l := l) (x := x) J ho (by omega) lb y
    have g1 : getSeq (.ref mo) done.length H = some (some (.tup [.str lb, stV y])) := by
      rw [getSeq_ref hq]; simp [mvM_some]
    have hq' : H'[mo]? = some (.lst ((done ++ (lb, some y) :: r).map mvM)) := by rw [e3 mo hm1 hm2]; exact hq
    rw [List.length_cons, forG_KFB g1 (s1 := jS c nm h s0 l a x (some (.str lb)) (some (stV y))) rfl, e1, KFB_nx]
    unfold scan
    by_cases hy : y ∈ keys o
    · rw [if_pos hy] at e4 ⊢
      have ih := scan_loop hU hs (ms := done ++ (lb, some y) :: r) hm1 hm2 r (done ++ [(lb, some y)]) o la H' (some (.str lb)) (some (stV y)) (by simp) w hx (fun m z => hm m (List.mem_cons_of_mem _ z)) hla e4 hq'
      rw [List.length_append, List.length_singleton] at ih
      revert ih
      generalize scan x r o la = R
      rcases R with ⟨lb', o'⟩ | ⟨o', la'⟩
      · exact fun ih => ih
      · rintro ⟨z9, z10, H2, f1, f2, f3, f4, f5⟩
        exact ⟨z9, z10, H2, f1, f2, by rw [f3, e2], fun i i1 i2 => by rw [f4 i i1 i2, e3 i i1 i2], f5⟩
    · rw [if_neg hy] at e4 ⊢
      have w' := w.add hx (hm _ List.mem_cons_self) hy
      have ih := scan_loop hU hs (ms := done ++ (lb, some y) :: r) hm1 hm2 r (done ++ [(lb, some y)]) (o ++ [(y, some (x, lb))]) (la ++ [y]) H' (some (.str lb)) (some (stV y)) (by simp) w' (by rw [keys_app]; exact List.mem_append_left _ hx) (fun m z => hm m (List.mem_cons_of_mem _ z)) (by simp; omega) e4 hq'
      rw [List.length_append, List.length_singleton] at ih
      revert ih
      generalize scan x r (o ++ [(y, some (x, lb))]) (la ++ [y]) = R
      rcases R with ⟨lb', o'⟩ | ⟨o', la'⟩
      · exact fun ih => ih
      · rintro ⟨z9, z10, H2, f1, f2, f3, f4, f5⟩
        exact ⟨z9, z10, H2, f1, f2, by rw [f3, e2], fun i i1 i2 => by rw [f4 i i1 i2, e3 i i1 i2], f5⟩
end
end Lw
namespace Lw
open PySem L2 Mo BF
structure CrewAt (h : MH) (c : Nat) (k1 m1 o1 o2 s2 o3 s3 : Str) : Prop where
  ex : ∃ i j r s1 r1 m2 k2 r2 m3 k3 r3, h[c]? = some (.ins "Crew" (crewF i j r)) ∧ h[i]? = some (.ins "Book" (bfs s1 m1 o1 k1 r1)) ∧ h[j]? = some (.ins "Book" (bfs s2 m2 o2 k2 r2)) ∧ h[r]? = some (.ins "Book" (bfs s3 m3 o3 k3 r3))
theorem CrewAt.to {h H : MH} {c : Nat} {k1 m1 o1 o2 s2 o3 s3 : Str} (K : CrewAt h c k1 m1 o1 o2 s2 o3 s3) (e : ∀ i, i < h.length → H[i]? = h[i]?) : CrewAt H c k1 m1 o1 o2 s2 o3 s3 := by
  obtain ⟨i, j, r, s1, r1, m2, k2, r2, m3, k3, r3, a1, a2, a3, a4⟩ := K.ex
  have q : ∀ {n : Nat} {o : MO}, h[n]? = some o → H[n]? = some o := fun {n o} z => by rw [e n (List.getElem?_eq_some_iff.mp z).1]; exact z
  exact ⟨i, j, r, s1, r1, m2, k2, r2, m3, k3, r3, q a1, q a2, q a3, q a4⟩
abbrev mvP (nm k1 m1 o1 o2 s2 o3 s3 : Str) : ST → List (Str × Option ST) := fun x => movesP nm x.1 x.2.1 x.2.2 k1 m1 o1 o2 s2 o3 s3
abbrev st0 : ST := ("out", "out", "")
theorem call_at {H : MH} {pr c : Nat} {nm k1 m1 o1 o2 s2 o3 s3 : Str} (K : CrewAt H c k1 m1 o1 o2 s2 o3 s3) (hnm : isNm nm) (hp : H[pr]? = some (.ins "Promise" [("name", .str nm)])) (x : ST) (h1 : x.1 ∈ pls) (h2 : x.2.1 ∈ pls) (h3 : x.2.2 ∈ nts ∨ nm ≠ "forward") :
    m_Promise___call__ [.ref pr, .ref c, stV x] H = .ok (.ref H.length) (H ++ [.lst ((mvP nm k1 m1 o1 o2 s2 o3 s3 x).map mvM)]) := by
  obtain ⟨i, j, r, s1, r1, m2, k2, r2, m3, k3, r3, a1, a2, a3, a4⟩ := K.ex
  exact call_eq nm hnm hp a1 a2 a3 a4 x.1 x.2.1 x.2.2 h1 h2 h3
section
variable {nm k1 m1 o1 o2 s2 o3 s3 : Str} {U : List ST} {h : MH} {c l a : Nat}
abbrev jT (c : Nat) (nm : Str) (h : MH) (l : Nat) (y7 y8 y9 y10 : Option MV) : Lo := [some (.ref c), some (.str nm), some (.ref h.length), some (stV st0), some (.ref (h.length + 1)), some (.ref (h.length + 2)), some (.ref l), y7, y8, y9, y10]
structure Bnd (nm : Str) (mv : ST → List (Str × Option ST)) (U : List ST) : Prop where
  hU : ∀ x, Reach mv st0 x → x ∈ U
  hs : U.length ≤ 900
  ok : ∀ x ∈ U, x.1 ∈ pls ∧ x.2.1 ∈ pls ∧ (x.2.2 ∈ nts ∨ nm ≠ "forward")
theorem layer_loop (B : Bnd nm (mvP nm k1 m1 o1 o2 s2 o3 s3) U) (K : CrewAt h c k1 m1 o1 o2 s2 o3 s3) (hnm : isNm nm) (hla : l ≠ a) (hl : h.length + 3 ≤ l) {ly : List ST} : ∀ (xs done : List ST) (o : Or ST Str) (tb la : List ST) (H : MH) (y8 y9 y10 : Option MV), ly = done ++ xs → WF (mvP nm k1 m1 o1 o2 s2 o3 s3) st0 o → keys o = tb ++ xs ++ la →
    JH h nm o tb a la H → H[l]? = some (.lst (ly.map stV)) →
    match layer (mvP nm k1 m1 o1 o2 s2 o3 s3) xs o tb la with
    | .inl (x, lb, o') => ∃ v H', forG (getSeq (.ref l)) (gN 8) L1_judge (xs.length + 1) done.length (jT c nm h l (some (.ref a)) y8 y9 y10) H = .rt v H' ∧ BrkV h (runTo o' x ++ [lb]) v H'
    | .inr (o', tb', la') => ∃ z8 z9 z10 H', forG (getSeq (.ref l)) (gN 8) L1_judge (xs.length + 1) done.length (jT c nm h l (some (.ref a)) y8 y9 y10) H = .nx (jT c nm h l (some (.ref a)) z8 z9 z10) H' ∧ JH h nm o' tb' a la' H'
  | [], done, o, tb, la, H, y8, y9, y10, e, w, hk, J, hq => by
    subst e
    refine ⟨y8, y9, y10, H, ?_, J⟩
    rw [List.length_nil, forG_ev, getSeq_ref hq, List.getElem?_eq_none (by simp), KF_stop]
  | x :: xs, done, o, tb, la, H, y8, y9, y10, e, w, hk, J, hq => by
    subst e
    have ho := o_small B.hU B.hs w
    have hx : x ∈ keys o := by rw [hk]; simp
    have hkl : o.length = tb.length + (xs.length + 1) + la.length := by rw [← keys_len, hk]; simp; omega
    obtain ⟨p1, p2, p3⟩ := B.ok x (B.hU x (w.reach x hx))
    have t_lt := (List.getElem?_eq_some_iff.mp J.tb).1
    have l_lt := (List.getElem?_eq_some_iff.mp hq).1
    have ja := J.ha
    have a_lt := (List.getElem?_eq_some_iff.mp J.la).1
    -- the table grows
    have ap : fAppend (.ref (h.length + 2)) [stV x] H = some (.non, H.set (h.length + 2) (.lst (tb.map stV ++ [stV x]))) := fAppend_ref J.tb (by simp [SZ]; omega)
    have il := isL_ref J.tb
    obtain ⟨H1, eH1⟩ : ∃ H1, H1 = H.set (h.length + 2) (MO.lst (tb.map stV ++ [stV x])) := ⟨_, rfl⟩
    have l1 : H1.length = H.length := by rw [eH1]; simp
    have ne : ∀ i, i ≠ h.length + 2 → H1[i]? = H[i]? := fun i hi => by rw [eH1, List.getElem?_set_ne (Ne.symm hi)]
    have pre1 : ∀ i, i < h.length → H1[i]? = h[i]? := fun i hi => by rw [ne i (by omega)]; exact J.pre i hi
    have pr1 : H1[h.length]? = some (.ins "Promise" [("name", .str nm)]) := by rw [ne _ (by omega)]; exact J.pr
    have C := call_at (K.to pre1) hnm pr1 x p1 p2 p3
    obtain ⟨ms, ems⟩ : ∃ ms, ms = mvP nm k1 m1 o1 o2 s2 o3 s3 x := ⟨_, rfl⟩
    rw [← ems] at C
    have J1 : JH h nm o (tb ++ [x]) a la (H1 ++ [.lst (ms.map mvM)]) := by
      refine ⟨fun i hi => ?_, ?_, ?_, ?_, ?_, ja⟩
      · rw [List.getElem?_append_left (by omega)]; exact pre1 i hi
      · exact app_at pr1
      · exact app_at (by rw [ne _ (by omega)]; exact J.og)
      · refine app_at ?_
        rw [eH1, List.getElem?_set_self t_lt]; simp
      · exact app_at (by rw [ne _ (by omega)]; exact J.la)
    have hq1 : (H1 ++ [MO.lst (ms.map mvM)])[H1.length]? = some (.lst (ms.map mvM)) := at_app0
    have sc := scan_loop (c := c) (l := l) (s0 := st0) (x := x) B.hU B.hs (a := a) (nm := nm) (h := h) (tb := tb ++ [x]) (ms := ms) (mo := H1.length) (by omega) (by omega) ms [] o la (H1 ++ [.lst (ms.map mvM)]) y9 y10 rfl w hx (fun m z => by rw [ems] at z; exact z) (by omega) J1 hq1
    have g1 : getSeq (.ref l) done.length H = some (some (stV x)) := by
      rw [getSeq_ref hq]; simp
    have gi : (H1 : MH)[h.length]? = some (.ins "Promise" [("name", .str nm)]) := pr1
    have T : L1_judge (jS c nm h st0 l a x y9 y10) H = forG (getSeq (.ref H1.length)) (gT [9, 10]) L0_judge (ms.length + 1) 0 (jS c nm h st0 l a x y9 y10) (H1 ++ [.lst (ms.map mvM)]) := by
      have F : KFo (.ok (.ref H1.length) (H1 ++ [.lst (ms.map mvM)])) (gT [9, 10]) L0_judge (jS c nm h st0 l a x y9 y10) = _ := KFo_ref hq1
      rw [List.length_map] at F
      rw [← F]
      rw [← eH1] at ap
      simp -implicitDefEqProofs [L1_judge, eV, il, ap, KIC2_ok gi, C]
    rw [List.length_cons, forG_KFB g1 (s1 := jS c nm h st0 l a x y9 y10) rfl, T]
    rw [List.length_nil] at sc
    unfold layer
    rw [← ems]
    have so := scan_ok (mv := mvP nm k1 m1 o1 o2 s2 o3 s3) (s0 := st0) (x := x) ms o la w hx (fun m z => by rw [ems] at z; exact z)
    revert sc so
    generalize scan x ms o la = R
    rcases R with ⟨lb, o'⟩ | ⟨o', la'⟩
    · rintro ⟨v, H', e1, e2⟩ _
      exact ⟨v, H', by rw [e1, KFB_rt], e2⟩
    · rintro ⟨z9, z10, H', e1, e2, e3, e4, e5⟩ ⟨w', ⟨t, k1', k2', _⟩, _⟩
      rw [e1, KFB_nx]
      have hq' : H'[l]? = some (.lst ((done ++ x :: xs).map stV)) := by
        rw [e4 l (by omega) hla, List.getElem?_append_left (by omega), ne l (by omega)]; exact hq
      have ih := layer_loop B K hnm hla hl (ly := done ++ x :: xs) xs (done ++ [x]) o' (tb ++ [x]) la' H' (some (stV x)) z9 z10 (by simp) w' (by rw [k1', k2', hk]; simp) e2 hq'
      rw [List.length_append, List.length_singleton] at ih
      exact ih
end
end Lw
namespace Lw
open PySem L2 Mo BF
section
variable {nm k1 m1 o1 o2 s2 o3 s3 : Str} {U : List ST} {h : MH} {c : Nat}
theorem whileG_nx {cnd : MB} {b : MS} {N : Nat} {s s2 : Lo} {h h2 : MH} (e : cnd s h = .ok true h) (e2 : b s h = .nx s2 h2) : whileG cnd b (N + 1) s h = whileG cnd b N s2 h2 := by
  rw [whileG, e]
  simp only [Rz.bnS, if_true, e2]
theorem whileG_rt {cnd : MB} {b : MS} {N : Nat} {s : Lo} {v : MV} {h h2 : MH} (e : cnd s h = .ok true h) (e2 : b s h = .rt v h2) : whileG cnd b (N + 1) s h = .rt v h2 := by
  rw [whileG, e]
  simp only [Rz.bnS, if_true, e2]
theorem whileG_end {cnd : MB} {b : MS} {N : Nat} {s : Lo} {h : MH} (e : cnd s h = .ok false h) : whileG cnd b (N + 1) s h = .nx s h := by
  rw [whileG, e]
  simp only [Rz.bnS, Bool.false_eq_true, if_false]
theorem cond_at {H : MH} {l : Nat} {ly : List ST} {y7 y8 y9 y10 : Option MV} (hq : H[l]? = some (.lst (ly.map stV))) : (bB (e2 fGt (eA fLen (aCons (eV 6) (aNil))) (eC (.int 0)))) (jT c nm h l y7 y8 y9 y10) H = .ok (decide (0 < ly.length)) H := by
  have L := fLen_ref hq
  simp -implicitDefEqProofs [eV, L]
theorem while_loop (B : Bnd nm (mvP nm k1 m1 o1 o2 s2 o3 s3) U) (K : CrewAt h c k1 m1 o1 o2 s2 o3 s3) (hnm : isNm nm) : ∀ (n N : Nat) (ly : List ST) (o : Or ST Str) (tb : List ST) (l : Nat) (H : MH) (y7 y8 y9 y10 : Option MV), n ≤ N → WF (mvP nm k1 m1 o1 o2 s2 o3 s3) st0 o → keys o = tb ++ ly → (∀ x ∈ tb, ∀ l t, (l, t) ∈ mvP nm k1 m1 o1 o2 s2 o3 s3 x → ∃ y, t = some y ∧ y ∈ keys o) →
    JH h nm o tb l ly H →
    match BF.bfs (mvP nm k1 m1 o1 o2 s2 o3 s3) n ly o tb with
    | none => True
    | some (.inl (x, lb, o')) => ∃ v H', whileG (bB (e2 fGt (eA fLen (aCons (eV 6) (aNil))) (eC (.int 0)))) L2_judge N (jT c nm h l y7 y8 y9 y10) H = .rt v H' ∧ BrkV h (runTo o' x ++ [lb]) v H'
    | some (.inr (o', tb')) => ∃ l' z7 z8 z9 z10 H', whileG (bB (e2 fGt (eA fLen (aCons (eV 6) (aNil))) (eC (.int 0)))) L2_judge N (jT c nm h l y7 y8 y9 y10) H = .nx (jT c nm h l' z7 z8 z9 z10) H' ∧ JH h nm o' tb' l' [] H' := by
  intro n
  induction n with
  | zero => intro N ly o tb l H y7 y8 y9 y10 _ _ _ _ _; trivial
  | succ n ih =>
    intro N ly o tb l H y7 y8 y9 y10 hN w hk hc J
    obtain ⟨N, rfl⟩ : ∃ M, N = M + 1 := ⟨N - 1, by omega⟩
    have CA := cond_at (c := c) (nm := nm) (h := h) (y7 := y7) (y8 := y8) (y9 := y9) (y10 := y10) J.la
    cases ly with
    | nil =>
      refine ⟨l, y7, y8, y9, y10, H, ?_, J⟩
      exact whileG_end CA
    | cons x xs =>
      have CA' : (bB (e2 fGt (eA fLen (aCons (eV 6) (aNil))) (eC (.int 0)))) (jT c nm h l y7 y8 y9 y10) H = .ok true H := by rw [CA]; simp
      have l_lt := (List.getElem?_eq_some_iff.mp J.la).1
      have ja := J.ha
      have J1 : JH h nm o tb H.length [] (H ++ [.lst []]) := by
        have o_lt := (List.getElem?_eq_some_iff.mp J.og).1
        refine ⟨fun i hi => ?_, app_at J.pr, app_at J.og, app_at J.tb, at_app0, by have := (List.getElem?_eq_some_iff.mp J.tb).1; omega⟩
        rw [List.getElem?_append_left (by omega)]; exact J.pre i hi
      have LL := layer_loop B K hnm (l := l) (a := H.length) (by omega) ja (ly := x :: xs) (x :: xs) [] o tb [] (H ++ [.lst []]) y8 y9 y10 rfl w (by simpa using hk) J1 (app_at J.la)
      have KF : ∀ s, KFo (.ok (.ref l) (H ++ [.lst []])) (gN 8) L1_judge s = forG (getSeq (.ref l)) (gN 8) L1_judge ((x :: xs).length + 1) 0 s (H ++ [.lst []]) := fun s => by
        rw [KFo_ref (app_at J.la), List.length_map]
      have lo := layer_ok (mv := mvP nm k1 m1 o1 o2 s2 o3 s3) (s0 := st0) (x :: xs) o tb [] w (by simpa using hk) hc
      unfold BF.bfs
      dsimp only
      rw [List.length_nil] at LL
      revert LL lo
      generalize layer (mvP nm k1 m1 o1 o2 s2 o3 s3) (x :: xs) o tb [] = R
      rcases R with ⟨z, lb, o'⟩ | ⟨o', tb', la'⟩
      · rintro ⟨v, H', e1, e2⟩ _
        refine ⟨v, H', whileG_rt CA' ?_, e2⟩
        simp -implicitDefEqProofs [L2_judge, eV]
        rw [KF]
        have e1' : forG (getSeq (.ref l)) (gN 8) L1_judge ((x :: xs).length + 1) 0 (jT c nm h l (some (.ref H.length)) y8 y9 y10) (H ++ [.lst []]) = .rt v H' := e1
        rw [e1']
        rfl
      · rintro ⟨z8, z9, z10, H', e1, e2⟩ lo
        obtain ⟨i1, i2, i3, i4⟩ := lo
        have b1 := (List.getElem?_eq_some_iff.mp e2.la).1
        have J2 : JH h nm o' tb' H'.length la' (H' ++ [.lst (la'.map stV)]) := by
          have o_lt := (List.getElem?_eq_some_iff.mp e2.og).1
          refine ⟨fun i hi => ?_, app_at e2.pr, app_at e2.og, app_at e2.tb, at_app0, by have := (List.getElem?_eq_some_iff.mp e2.tb).1; omega⟩
          rw [List.getElem?_append_left (by omega)]; exact e2.pre i hi
        have FL : fList [.ref H.length] H' = some (.ref H'.length, H' ++ [.lst (la'.map stV)]) := fList_ref e2.la
        have TB : L2_judge (jT c nm h l y7 y8 y9 y10) H = .nx (jT c nm h H'.length (some (.ref H.length)) z8 z9 z10) (H' ++ [.lst (la'.map stV)]) := by
          have e1' : forG (getSeq (.ref l)) (gN 8) L1_judge ((x :: xs).length + 1) 0 (jT c nm h l (some (.ref H.length)) y8 y9 y10) (H ++ [.lst []]) = .nx (jT c nm h l (some (.ref H.length)) z8 z9 z10) H' := e1
          simp -implicitDefEqProofs [L2_judge, eV]
          rw [KF, e1']
          simp -implicitDefEqProofs [eV, FL]
        have IH := ih N la' o' tb' H'.length (H' ++ [.lst (la'.map stV)]) (some (.ref H.length)) z8 z9 z10 (by omega) i1 i3 i4 J2
        rw [whileG_nx CA' TB]
        exact IH
end
end Lw
namespace Lw
open PySem L2 Mo BF
section
variable {nm k1 m1 o1 o2 s2 o3 s3 : Str} {U : List ST} {h : MH} {c : Nat}
theorem jinit_ok {w : Str} {a : Nat} (hw : isNm w) (ha : h[a]? = some (.ins "Promise" [])) : m_Promise___init__ [.ref a, .str w] h = .ok .non (h.set a (.ins "Promise" [("name", .str w)])) := by
  have hm : w ∈ (["single", "calm", "steady", "norepeat", "forward"] : List Str) := by
    simp only [List.mem_cons, List.not_mem_nil, or_false]
    exact hw
  have e' : fNotInA (.str w) k_PROMISES h = some (.bl (!decide (w ∈ (["single", "calm", "steady", "norepeat", "forward"] : List Str))), h) := fNotIn_ktps (a := ["single", "calm", "steady", "norepeat", "forward"])
  rw [decide_eq_true hm] at e'
  simp -implicitDefEqProofs [m_Promise___init__, b_Promise___init__, mDef_ev, eV, -fNotInA_ev, e', putI_ref ha]
def Verd (H : MH) (i : Nat) : (ST × Str × Or ST Str) ⊕ (Or ST Str × List ST) → Prop
  | .inl (x, lb, o) => ∃ r, H[i]? = some (.ins "Verdict" [("kept", .bl false), ("table", .non), ("run", .ref r)]) ∧ H[r]? = some (.lst ((runTo o x ++ [lb]).map .str))
  | .inr (_, tb) => ∃ t, H[i]? = some (.ins "Verdict" [("kept", .bl true), ("table", .ref t), ("run", .non)]) ∧ H[t]? = some (.lst (tb.map stV))
theorem pre_split {H : MH} (e : ∀ i, i < h.length → H[i]? = h[i]?) (hl : h.length ≤ H.length) : ∃ g, H = h ++ g := by
  refine ⟨H.drop h.length, ?_⟩
  refine List.ext_getElem? fun i => ?_
  by_cases hi : i < h.length
  · rw [List.getElem?_append_left hi, e i hi]
  · rw [List.getElem?_append_right (by omega), List.getElem?_drop]
    congr 1
    omega
theorem judge_run (B : Bnd nm (mvP nm k1 m1 o1 o2 s2 o3 s3) U) (K : CrewAt h c k1 m1 o1 o2 s2 o3 s3) (hnm : isNm nm) {R : (ST × Str × Or ST Str) ⊕ (Or ST Str × List ST)} (hR : judge (mvP nm k1 m1 o1 o2 s2 o3 s3) st0 (U.length + 1) = some R) :
    ∃ i g, m_judge [.ref c, .str nm] h = .ok (.ref i) (h ++ g) ∧ h.length ≤ i ∧ Verd (h ++ g) i R := by
  have I := jinit_ok (h := h ++ [.ins "Promise" []]) (a := h.length) hnm at_app0
  rw [set_app0] at I
  obtain ⟨H0, eH0⟩ : ∃ H0, H0 = h ++ [MO.ins "Promise" [("name", .str nm)], .dt (orM [(st0, none)]), .lst [], .lst [stV st0]] := ⟨_, rfl⟩
  have J0 : JH h nm [(st0, none)] [] (h.length + 3) [st0] H0 := by
    rw [eH0]
    refine ⟨fun i hi => List.getElem?_append_left hi, by simp [at_app0], by simp [at_app], by simp [at_app], by simp [at_app], Nat.le_refl _⟩
  have fuel : U.length + 1 ≤ FUEL := by have := B.hs; show _ ≤ 100000; omega
  have W := while_loop B K hnm (U.length + 1) FUEL [st0] [(st0, none)] [] (h.length + 3) H0 none none none none fuel WF.start rfl (by simp) J0
  unfold BF.judge at hR
  rw [hR] at W
  have S : ∀ b : MS, sSeq (sAsg (eMk "Promise" 1 0 2 m_Promise___init__ gPos (aCons (eV 1) (aNil)) aNil) (gN 2))
    (sSeq (sAsg (eA fTup (aCons (eC (.str "out")) (aCons (eC (.str "out")) (aCons (eC (.str "")) (aNil))))) (gN 3))
    (sSeq (sAsg (eDt1 (eV 3) (eC .non)) (gN 4))
    (sSeq (sAsg (eA fLst (aNil)) (gN 5))
    (sSeq (sAsg (eA fLst (aCons (eV 3) (aNil))) (gN 6)) b)))) [some (.ref c), some (.str nm), none, none, none, none, none, none, none, none, none] h = b (jT c nm h (h.length + 3) none none none none) H0 := fun b => by
    have D : eDt1 (eV 3) (eC .non) [some (.ref c), some (.str nm), some (.ref h.length), some (stV st0), none, none, none, none, none, none, none] (h ++ [.ins "Promise" [("name", .str nm)]]) = .ok (.ref (h.length + 1)) (h ++ [.ins "Promise" [("name", .str nm)], .dt (orM [(st0, none)])]) := by
      simp -implicitDefEqProofs [eDt1, eV, Rz.bnd, stV, at_app, keysM, keyM, set_app, orM, orV, kST]
    have e0 : (MV.tup [.str "out", .str "out", .str ""]) = stV st0 := rfl
    simp -implicitDefEqProofs [eV, SZ, I, gPos]
    rw [e0, D]
    simp -implicitDefEqProofs [eV, SZ, eH0]
  have S' : b_judge [some (.ref c), some (.str nm), none, none, none, none, none, none, none, none, none] h =
      (whileG (bB (e2 fGt (eA fLen (aCons (eV 6) (aNil))) (eC (.int 0)))) L2_judge FUEL (jT c nm h (h.length + 3) none none none none) H0).nxt (sRet (eMk "Verdict" 3 0 4 m_Verdict___init__ gPos (aCons (eC (.bl true)) (aCons (eV 5) (aCons (eC .non) (aNil)))) aNil)) :=
    (S (sSeq (sWhile FUEL (bB (e2 fGt (eA fLen (aCons (eV 6) (aNil))) (eC (.int 0)))) (L2_judge))
      (sRet (eMk "Verdict" 3 0 4 m_Verdict___init__ gPos (aCons (eC (.bl true)) (aCons (eV 5) (aCons (eC .non) (aNil)))) aNil)))).trans sSeq_ev
  have fin : ∀ (v : MV) (H' : MH) (i : Nat) (o : MO), v = .ref i → h.length ≤ i → H'[i]? = some o → norefO o = false → (∀ j, j < h.length → H'[j]? = h[j]?) → b_judge [some (.ref c), some (.str nm), none, none, none, none, none, none, none, none, none] h = .rt v H' →
      ∃ g, m_judge [.ref c, .str nm] h = .ok (.ref i) (h ++ g) ∧ H' = h ++ g := fun v H' i o ev hi ho hn hpre e => by
    subst ev
    have lt := (List.getElem?_eq_some_iff.mp ho).1
    obtain ⟨g, rfl⟩ := pre_split hpre (by omega)
    obtain ⟨k, rfl⟩ : ∃ k, i = h.length + k := ⟨i - h.length, by omega⟩
    refine ⟨g, ?_, rfl⟩
    have hk : g[k]? = some o := by rw [List.getElem?_append_right (by omega)] at ho; simpa using ho
    refine gc_keep (o := o) ?_ hk hn
    rw [mDef_ev]
    show KD (b_judge [some (.ref c), some (.str nm), none, none, none, none, none, none, none, none, none] h) = _
    rw [e, KD_rt]
  revert W
  rcases R with ⟨x, lb, o'⟩ | ⟨o', tb'⟩
  · rintro ⟨v, H', e1, i, r, ev, hi, h1, h2, h3⟩
    rw [e1, nxt_rt] at S'
    obtain ⟨g, q1, q2⟩ := fin v H' i _ ev hi h1 rfl h3 S'
    subst q2
    exact ⟨i, g, q1, hi, r, h1, h2⟩
  · rintro ⟨l', z7, z8, z9, z10, H', e1, J⟩
    have V := vinit (h := H' ++ [.ins "Verdict" []]) (a := H'.length) (x := .bl true) (y := .ref (h.length + 2)) (z := .non) at_app0
    rw [set_app0] at V
    have tl := (List.getElem?_eq_some_iff.mp J.tb).1
    rw [e1, nxt_nx] at S'
    have E : b_judge [some (.ref c), some (.str nm), none, none, none, none, none, none, none, none, none] h = .rt (.ref H'.length) (H' ++ [.ins "Verdict" [("kept", .bl true), ("table", .ref (h.length + 2)), ("run", .non)]]) := by
      refine S'.trans ?_
      simp -implicitDefEqProofs [eV, gPos, V]
    obtain ⟨g, q1, q2⟩ := fin _ _ H'.length _ rfl (by omega) at_app0 rfl (fun j hj => by rw [List.getElem?_append_left (by omega)]; exact J.pre j hj) E
    refine ⟨H'.length, g, q1, by omega, h.length + 2, ?_, ?_⟩
    · rw [← q2]; exact at_app0
    · rw [← q2]; exact app_at J.tb
end
end Lw
namespace Lw
open PySem L2 Mo BF
def S3 (a b c : String) : ST := (Str.ofString a, Str.ofString b, Str.ofString c)
def I_calmB : List ST := [S3 "dealt" "idle" "", S3 "dealt" "out" "", S3 "idle" "dealt" "", S3 "idle" "idle" "", S3 "idle" "late" "", S3 "idle" "out" "", S3 "idle" "rests" "", S3 "idle" "works" "", S3 "late" "idle" "", S3 "late" "out" "", S3 "out" "dealt" "", S3 "out" "idle" "", S3 "out" "late" "", S3 "out" "out" "", S3 "out" "rests" "", S3 "out" "works" "", S3 "rests" "idle" "", S3 "rests" "out" "", S3 "works" "idle" "", S3 "works" "out" ""]
def I_calmA : List ST := [S3 "dealt" "idle" "", S3 "dealt" "out" "", S3 "idle" "dealt" "", S3 "idle" "idle" "", S3 "idle" "out" "", S3 "idle" "rests" "", S3 "idle" "works" "", S3 "out" "dealt" "", S3 "out" "idle" "", S3 "out" "out" "", S3 "out" "rests" "", S3 "out" "works" "", S3 "rests" "idle" "", S3 "rests" "out" "", S3 "works" "idle" "", S3 "works" "out" ""]
def I_sngB : List ST := [S3 "dealt" "idle" "", S3 "dealt" "out" "", S3 "ghost+" "idle" "", S3 "ghost+" "out" "", S3 "idle" "dealt" "", S3 "idle" "ghost+" "", S3 "idle" "idle" "", S3 "idle" "late" "", S3 "idle" "latent+" "", S3 "idle" "out" "", S3 "idle" "out+" "", S3 "idle" "rests" "", S3 "idle" "works" "", S3 "late" "idle" "", S3 "late" "out" "", S3 "latent+" "idle" "", S3 "latent+" "out" "", S3 "out" "dealt" "", S3 "out" "ghost+" "", S3 "out" "idle" "", S3 "out" "late" "", S3 "out" "latent+" "", S3 "out" "out" "", S3 "out" "out+" "", S3 "out" "rests" "", S3 "out" "works" "", S3 "out+" "idle" "", S3 "out+" "out" "", S3 "rests" "idle" "", S3 "rests" "out" "", S3 "works" "idle" "", S3 "works" "out" ""]
def I_sngA : List ST := [S3 "dealt" "idle" "", S3 "dealt" "out" "", S3 "ghost+" "idle" "", S3 "ghost+" "out" "", S3 "idle" "dealt" "", S3 "idle" "ghost+" "", S3 "idle" "idle" "", S3 "idle" "latent+" "", S3 "idle" "out" "", S3 "idle" "out+" "", S3 "idle" "rests" "", S3 "idle" "works" "", S3 "latent+" "idle" "", S3 "latent+" "out" "", S3 "out" "dealt" "", S3 "out" "ghost+" "", S3 "out" "idle" "", S3 "out" "latent+" "", S3 "out" "out" "", S3 "out" "out+" "", S3 "out" "rests" "", S3 "out" "works" "", S3 "out+" "idle" "", S3 "out+" "out" "", S3 "rests" "idle" "", S3 "rests" "out" "", S3 "works" "idle" "", S3 "works" "out" ""]
def I_stdO : List ST := [S3 "dealt" "ghost" "", S3 "dealt" "idle" "", S3 "dealt" "late" "", S3 "dealt" "latent" "", S3 "dealt" "out" "", S3 "ghost" "dealt" "", S3 "ghost" "ghost" "", S3 "ghost" "idle" "", S3 "ghost" "late" "", S3 "ghost" "latent" "", S3 "ghost" "out" "", S3 "ghost" "works" "", S3 "idle" "dealt" "", S3 "idle" "ghost" "", S3 "idle" "idle" "", S3 "idle" "late" "", S3 "idle" "latent" "", S3 "idle" "out" "", S3 "idle" "works" "", S3 "late" "dealt" "", S3 "late" "ghost" "", S3 "late" "idle" "", S3 "late" "latent" "", S3 "late" "out" "", S3 "late" "works" "", S3 "latent" "dealt" "", S3 "latent" "ghost" "", S3 "latent" "idle" "", S3 "latent" "late" "", S3 "latent" "latent" "", S3 "latent" "out" "", S3 "latent" "works" "", S3 "out" "dealt" "", S3 "out" "ghost" "", S3 "out" "idle" "", S3 "out" "late" "", S3 "out" "latent" "", S3 "out" "out" "", S3 "out" "works" "", S3 "works" "ghost" "", S3 "works" "idle" "", S3 "works" "late" "", S3 "works" "latent" "", S3 "works" "out" ""]
def I_stdW : List ST := [S3 "dealt" "ghost" "", S3 "dealt" "ghost+" "", S3 "dealt" "idle" "", S3 "dealt" "late" "", S3 "dealt" "latent" "", S3 "dealt" "out" "", S3 "dealt" "out+" "", S3 "ghost" "dealt" "", S3 "ghost" "ghost" "", S3 "ghost" "ghost+" "", S3 "ghost" "idle" "", S3 "ghost" "late" "", S3 "ghost" "latent" "", S3 "ghost" "latent+" "", S3 "ghost" "out" "", S3 "ghost" "out+" "", S3 "ghost" "works" "", S3 "ghost+" "dealt" "", S3 "ghost+" "ghost" "", S3 "ghost+" "ghost+" "", S3 "ghost+" "idle" "", S3 "ghost+" "late" "", S3 "ghost+" "latent" "", S3 "ghost+" "latent+" "", S3 "ghost+" "out" "", S3 "ghost+" "out+" "", S3 "ghost+" "works" "", S3 "idle" "dealt" "", S3 "idle" "ghost" "", S3 "idle" "ghost+" "", S3 "idle" "idle" "", S3 "idle" "late" "", S3 "idle" "latent" "", S3 "idle" "latent+" "", S3 "idle" "out" "", S3 "idle" "out+" "", S3 "idle" "works" "", S3 "late" "dealt" "", S3 "late" "ghost" "", S3 "late" "ghost+" "", S3 "late" "idle" "", S3 "late" "latent" "", S3 "late" "latent+" "", S3 "late" "out" "", S3 "late" "out+" "", S3 "late" "works" "", S3 "latent" "dealt" "", S3 "latent" "ghost" "", S3 "latent" "ghost+" "", S3 "latent" "idle" "", S3 "latent" "late" "", S3 "latent" "latent" "", S3 "latent" "latent+" "", S3 "latent" "out" "", S3 "latent" "out+" "", S3 "latent" "works" "", S3 "latent+" "ghost" "", S3 "latent+" "ghost+" "", S3 "latent+" "idle" "", S3 "latent+" "late" "", S3 "latent+" "latent" "", S3 "latent+" "out" "", S3 "latent+" "out+" "", S3 "out" "dealt" "", S3 "out" "ghost" "", S3 "out" "ghost+" "", S3 "out" "idle" "", S3 "out" "late" "", S3 "out" "latent" "", S3 "out" "latent+" "", S3 "out" "out" "", S3 "out" "out+" "", S3 "out" "works" "", S3 "out+" "dealt" "", S3 "out+" "ghost" "", S3 "out+" "ghost+" "", S3 "out+" "idle" "", S3 "out+" "late" "", S3 "out+" "latent" "", S3 "out+" "latent+" "", S3 "out+" "out" "", S3 "out+" "out+" "", S3 "out+" "works" "", S3 "works" "ghost" "", S3 "works" "ghost+" "", S3 "works" "idle" "", S3 "works" "late" "", S3 "works" "latent" "", S3 "works" "out" "", S3 "works" "out+" ""]
def I_nrpA : List ST := [S3 "dealt" "idle" "", S3 "dealt" "out" "", S3 "idle" "dealt" "", S3 "idle" "idle" "", S3 "idle" "out" "", S3 "idle" "rests" "", S3 "idle" "works" "", S3 "out" "dealt" "", S3 "out" "idle" "", S3 "out" "out" "", S3 "out" "rests" "", S3 "out" "works" "", S3 "rests" "idle" "", S3 "rests" "out" "", S3 "works" "idle" "", S3 "works" "out" ""]
def I_nrpB : List ST := [S3 "dealt" "idle" "", S3 "dealt" "out" "", S3 "idle" "dealt" "", S3 "idle" "idle" "", S3 "idle" "late" "", S3 "idle" "out" "", S3 "idle" "rests" "", S3 "idle" "works" "", S3 "late" "idle" "", S3 "late" "out" "", S3 "out" "dealt" "", S3 "out" "idle" "", S3 "out" "late" "", S3 "out" "out" "", S3 "out" "rests" "", S3 "out" "works" "", S3 "rests" "idle" "", S3 "rests" "out" "", S3 "works" "idle" "", S3 "works" "out" ""]
def I_fwdO : List ST := [S3 "dealt" "ghost" "", S3 "dealt" "idle" "", S3 "dealt" "late" "", S3 "dealt" "latent" "", S3 "dealt" "out" "", S3 "ghost" "dealt" "", S3 "ghost" "ghost" "", S3 "ghost" "ghost" "first", S3 "ghost" "ghost" "second", S3 "ghost" "idle" "", S3 "ghost" "idle" "first", S3 "ghost" "idle" "second", S3 "ghost" "late" "", S3 "ghost" "late" "first", S3 "ghost" "late" "second", S3 "ghost" "latent" "", S3 "ghost" "latent" "first", S3 "ghost" "out" "", S3 "ghost" "out" "first", S3 "ghost" "out" "second", S3 "ghost" "rests" "", S3 "ghost" "works" "", S3 "ghost" "works" "second", S3 "idle" "dealt" "", S3 "idle" "ghost" "", S3 "idle" "ghost" "first", S3 "idle" "ghost" "second", S3 "idle" "idle" "", S3 "idle" "idle" "first", S3 "idle" "idle" "second", S3 "idle" "late" "", S3 "idle" "late" "first", S3 "idle" "late" "second", S3 "idle" "latent" "", S3 "idle" "latent" "first", S3 "idle" "out" "", S3 "idle" "out" "first", S3 "idle" "out" "second", S3 "idle" "rests" "", S3 "idle" "works" "", S3 "idle" "works" "second", S3 "late" "dealt" "", S3 "late" "ghost" "", S3 "late" "ghost" "first", S3 "late" "ghost" "second", S3 "late" "idle" "", S3 "late" "idle" "first", S3 "late" "idle" "second", S3 "late" "latent" "", S3 "late" "latent" "first", S3 "late" "out" "", S3 "late" "out" "first", S3 "late" "out" "second", S3 "late" "rests" "", S3 "late" "works" "", S3 "late" "works" "second", S3 "latent" "dealt" "", S3 "latent" "ghost" "", S3 "latent" "ghost" "second", S3 "latent" "idle" "", S3 "latent" "idle" "second", S3 "latent" "late" "", S3 "latent" "late" "second", S3 "latent" "latent" "", S3 "latent" "out" "", S3 "latent" "out" "second", S3 "latent" "rests" "", S3 "latent" "works" "", S3 "latent" "works" "second", S3 "out" "dealt" "", S3 "out" "ghost" "", S3 "out" "ghost" "first", S3 "out" "ghost" "second", S3 "out" "idle" "", S3 "out" "idle" "first", S3 "out" "idle" "second", S3 "out" "late" "", S3 "out" "late" "first", S3 "out" "late" "second", S3 "out" "latent" "", S3 "out" "latent" "first", S3 "out" "out" "", S3 "out" "out" "first", S3 "out" "out" "second", S3 "out" "rests" "", S3 "out" "works" "", S3 "out" "works" "second", S3 "rests" "ghost" "", S3 "rests" "idle" "", S3 "rests" "late" "", S3 "rests" "latent" "", S3 "rests" "out" "", S3 "works" "ghost" "", S3 "works" "ghost" "first", S3 "works" "idle" "", S3 "works" "idle" "first", S3 "works" "late" "", S3 "works" "late" "first", S3 "works" "latent" "", S3 "works" "latent" "first", S3 "works" "out" "", S3 "works" "out" "first"]
def I_fwdW : List ST := [S3 "dealt" "ghost" "", S3 "dealt" "ghost+" "", S3 "dealt" "idle" "", S3 "dealt" "late" "", S3 "dealt" "latent" "", S3 "dealt" "out" "", S3 "dealt" "out+" "", S3 "ghost" "dealt" "", S3 "ghost" "ghost" "", S3 "ghost" "ghost" "first", S3 "ghost" "ghost" "second", S3 "ghost" "ghost+" "", S3 "ghost" "ghost+" "first", S3 "ghost" "ghost+" "second", S3 "ghost" "idle" "", S3 "ghost" "idle" "first", S3 "ghost" "idle" "second", S3 "ghost" "late" "", S3 "ghost" "late" "first", S3 "ghost" "late" "second", S3 "ghost" "latent" "", S3 "ghost" "latent" "first", S3 "ghost" "latent+" "", S3 "ghost" "out" "", S3 "ghost" "out" "first", S3 "ghost" "out" "second", S3 "ghost" "out+" "", S3 "ghost" "out+" "first", S3 "ghost" "out+" "second", S3 "ghost" "rests" "", S3 "ghost" "works" "", S3 "ghost" "works" "second", S3 "ghost+" "dealt" "", S3 "ghost+" "ghost" "", S3 "ghost+" "ghost" "first", S3 "ghost+" "ghost" "second", S3 "ghost+" "ghost+" "", S3 "ghost+" "ghost+" "first", S3 "ghost+" "ghost+" "second", S3 "ghost+" "idle" "", S3 "ghost+" "idle" "first", S3 "ghost+" "idle" "second", S3 "ghost+" "late" "", S3 "ghost+" "late" "first", S3 "ghost+" "late" "second", S3 "ghost+" "latent" "", S3 "ghost+" "latent" "first", S3 "ghost+" "latent+" "", S3 "ghost+" "out" "", S3 "ghost+" "out" "first", S3 "ghost+" "out" "second", S3 "ghost+" "out+" "", S3 "ghost+" "out+" "first", S3 "ghost+" "out+" "second", S3 "ghost+" "rests" "", S3 "ghost+" "works" "", S3 "ghost+" "works" "second", S3 "idle" "dealt" "", S3 "idle" "ghost" "", S3 "idle" "ghost" "first", S3 "idle" "ghost" "second", S3 "idle" "ghost+" "", S3 "idle" "ghost+" "first", S3 "idle" "ghost+" "second", S3 "idle" "idle" "", S3 "idle" "idle" "first", S3 "idle" "idle" "second", S3 "idle" "late" "", S3 "idle" "late" "first", S3 "idle" "late" "second", S3 "idle" "latent" "", S3 "idle" "latent" "first", S3 "idle" "latent+" "", S3 "idle" "out" "", S3 "idle" "out" "first", S3 "idle" "out" "second", S3 "idle" "out+" "", S3 "idle" "out+" "first", S3 "idle" "out+" "second", S3 "idle" "rests" "", S3 "idle" "works" "", S3 "idle" "works" "second", S3 "late" "dealt" "", S3 "late" "ghost" "", S3 "late" "ghost" "first", S3 "late" "ghost" "second", S3 "late" "ghost+" "", S3 "late" "ghost+" "first", S3 "late" "ghost+" "second", S3 "late" "idle" "", S3 "late" "idle" "first", S3 "late" "idle" "second", S3 "late" "latent" "", S3 "late" "latent" "first", S3 "late" "latent+" "", S3 "late" "out" "", S3 "late" "out" "first", S3 "late" "out" "second", S3 "late" "out+" "", S3 "late" "out+" "first", S3 "late" "out+" "second", S3 "late" "rests" "", S3 "late" "works" "", S3 "late" "works" "second", S3 "latent" "dealt" "", S3 "latent" "ghost" "", S3 "latent" "ghost" "second", S3 "latent" "ghost+" "", S3 "latent" "ghost+" "second", S3 "latent" "idle" "", S3 "latent" "idle" "second", S3 "latent" "late" "", S3 "latent" "late" "second", S3 "latent" "latent" "", S3 "latent" "latent+" "", S3 "latent" "out" "", S3 "latent" "out" "second", S3 "latent" "out+" "", S3 "latent" "out+" "second", S3 "latent" "rests" "", S3 "latent" "works" "", S3 "latent" "works" "second", S3 "latent+" "ghost" "", S3 "latent+" "ghost+" "", S3 "latent+" "idle" "", S3 "latent+" "late" "", S3 "latent+" "latent" "", S3 "latent+" "out" "", S3 "latent+" "out+" "", S3 "out" "dealt" "", S3 "out" "ghost" "", S3 "out" "ghost" "first", S3 "out" "ghost" "second", S3 "out" "ghost+" "", S3 "out" "ghost+" "first", S3 "out" "ghost+" "second", S3 "out" "idle" "", S3 "out" "idle" "first", S3 "out" "idle" "second", S3 "out" "late" "", S3 "out" "late" "first", S3 "out" "late" "second", S3 "out" "latent" "", S3 "out" "latent" "first", S3 "out" "latent+" "", S3 "out" "out" "", S3 "out" "out" "first", S3 "out" "out" "second", S3 "out" "out+" "", S3 "out" "out+" "first", S3 "out" "out+" "second", S3 "out" "rests" "", S3 "out" "works" "", S3 "out" "works" "second", S3 "out+" "dealt" "", S3 "out+" "ghost" "", S3 "out+" "ghost" "first", S3 "out+" "ghost" "second", S3 "out+" "ghost+" "", S3 "out+" "ghost+" "first", S3 "out+" "ghost+" "second", S3 "out+" "idle" "", S3 "out+" "idle" "first", S3 "out+" "idle" "second", S3 "out+" "late" "", S3 "out+" "late" "first", S3 "out+" "late" "second", S3 "out+" "latent" "", S3 "out+" "latent" "first", S3 "out+" "latent+" "", S3 "out+" "out" "", S3 "out+" "out" "first", S3 "out+" "out" "second", S3 "out+" "out+" "", S3 "out+" "out+" "first", S3 "out+" "out+" "second", S3 "out+" "rests" "", S3 "out+" "works" "", S3 "out+" "works" "second", S3 "rests" "ghost" "", S3 "rests" "ghost+" "", S3 "rests" "idle" "", S3 "rests" "late" "", S3 "rests" "latent" "", S3 "rests" "out" "", S3 "rests" "out+" "", S3 "works" "ghost" "", S3 "works" "ghost" "first", S3 "works" "ghost+" "", S3 "works" "ghost+" "first", S3 "works" "idle" "", S3 "works" "idle" "first", S3 "works" "late" "", S3 "works" "late" "first", S3 "works" "latent" "", S3 "works" "latent" "first", S3 "works" "out" "", S3 "works" "out" "first", S3 "works" "out+" "", S3 "works" "out+" "first"]
def R_calm : List (List Str) := [["enter first", "enter second", "deal first", "read first", "deal second", "read second"], ["enter first", "enter second", "deal second", "read second", "deal first", "read first"]]
def R_single : List (List Str) := [["enter first", "enter second", "deal first", "out first", "read first", "deal second", "read second"], ["enter first", "enter second", "deal first", "out first", "over first", "read first", "deal second", "read second"], ["enter first", "enter second", "deal second", "out second", "over second", "read second", "deal first", "read first"], ["enter first", "enter second", "deal second", "read second", "deal first", "read first"], ["enter first", "enter second", "deal first", "read first", "deal second", "read second"]]
def R_steady : List (List Str) := [["enter first", "deal first", "read first", "call first", "deal first"], ["enter second", "deal second", "read second", "call second", "deal second"]]
def R_norepeat : List (List Str) := [["enter first", "enter second", "deal first", "read first", "deal second", "read second"], ["enter first", "enter second", "deal second", "read second", "deal first", "read first"], ["enter first", "deal first", "read first", "deal nobody", "read first", "deal first", "read first"], ["enter second", "deal second", "read second", "deal nobody", "read second", "deal second", "read second"]]
def R_forward : List (List Str) := [["enter first", "enter second", "deal first", "read first", "send first", "out first", "hear first", "enter first", "deal second", "read second", "mark second", "leave second", "deal first", "arrive"]]
end Lw
namespace Lw
open PySem L2 Mo BF
def oos : List Str := ["once", "wait"]
def sss : List Str := ["asked", "all"]
def mms : List Str := ["once", "back"]
def kks : List Str := ["any", "owner", "given"]
def closed (I : List ST) (mv : ST → List (Str × Option ST)) : Bool := I.all fun x => (mv x).all fun m => match m.2 with
  | none => false
  | some y => decide (y ∈ I)
def walk (mv : ST → List (Str × Option ST)) : ST → List Str → Bool
  | _, [] => false
  | x, l :: r => match (mv x).find? fun m => decide (m.1 = l) with
    | some (_, none) => r.isEmpty
    | some (_, some y) => walk mv y r
    | none => false
def formP (nm k1 m1 o1 o2 s2 o3 s3 : Str) : Bool :=
  let all_ := decide (s2 = "all") && decide (s3 = "all")
  let calm := decide (m1 = "back") || all_
  if nm = "calm" then calm else if nm = "single" then calm && (decide (o1 = "wait") && (decide (o2 = "wait") && decide (o3 = "wait"))) else if nm = "steady" then decide (s2 = "asked") && decide (s3 = "asked") else
  if nm = "norepeat" then calm && (all_ || decide (k1 ≠ "owner")) else decide (k1 = "given")
theorem c_calmB : ∀ o1 ∈ oos, ∀ o2 ∈ oos, ∀ s2 ∈ sss, ∀ o3 ∈ oos, ∀ s3 ∈ sss, closed I_calmB (mvP "calm" "any" "back" o1 o2 s2 o3 s3) = true := by decide +kernel
theorem c_calmA : ∀ m1 ∈ mms, ∀ o1 ∈ oos, ∀ o2 ∈ oos, ∀ o3 ∈ oos, closed I_calmA (mvP "calm" "any" m1 o1 o2 "all" o3 "all") = true := by decide +kernel
theorem c_sngB : ∀ s2 ∈ sss, ∀ s3 ∈ sss, closed I_sngB (mvP "single" "any" "back" "wait" "wait" s2 "wait" s3) = true := by decide +kernel
theorem c_sngA : ∀ m1 ∈ mms, closed I_sngA (mvP "single" "any" m1 "wait" "wait" "all" "wait" "all") = true := by decide +kernel
theorem c_stdO : ∀ m1 ∈ mms, ∀ o2 ∈ oos, ∀ o3 ∈ oos, closed I_stdO (mvP "steady" "any" m1 "once" o2 "asked" o3 "asked") = true := by decide +kernel
theorem c_stdW : ∀ m1 ∈ mms, ∀ o2 ∈ oos, ∀ o3 ∈ oos, closed I_stdW (mvP "steady" "any" m1 "wait" o2 "asked" o3 "asked") = true := by decide +kernel
theorem c_nrpA : ∀ k1 ∈ kks, ∀ m1 ∈ mms, ∀ o1 ∈ oos, ∀ o2 ∈ oos, ∀ o3 ∈ oos, closed I_nrpA (mvP "norepeat" k1 m1 o1 o2 "all" o3 "all") = true := by decide +kernel
theorem c_nrpB : ∀ k1 ∈ (["any", "given"] : List Str), ∀ o1 ∈ oos, ∀ o2 ∈ oos, ∀ s2 ∈ sss, ∀ o3 ∈ oos, ∀ s3 ∈ sss, closed I_nrpB (mvP "norepeat" k1 "back" o1 o2 s2 o3 s3) = true := by decide +kernel
theorem n_calm : ∀ m1 ∈ mms, ∀ o1 ∈ oos, ∀ o2 ∈ oos, ∀ s2 ∈ sss, ∀ o3 ∈ oos, ∀ s3 ∈ sss, formP "calm" "any" m1 o1 o2 s2 o3 s3 = true ∨ (R_calm.any fun r => walk (mvP "calm" "any" m1 o1 o2 s2 o3 s3) st0 r) = true := by decide +kernel
theorem n_single : ∀ m1 ∈ mms, ∀ o1 ∈ oos, ∀ o2 ∈ oos, ∀ s2 ∈ sss, ∀ o3 ∈ oos, ∀ s3 ∈ sss, formP "single" "any" m1 o1 o2 s2 o3 s3 = true ∨ (R_single.any fun r => walk (mvP "single" "any" m1 o1 o2 s2 o3 s3) st0 r) = true := by decide +kernel
theorem n_steady : ∀ m1 ∈ mms, ∀ o1 ∈ oos, ∀ o2 ∈ oos, ∀ s2 ∈ sss, ∀ o3 ∈ oos, ∀ s3 ∈ sss, formP "steady" "any" m1 o1 o2 s2 o3 s3 = true ∨ (R_steady.any fun r => walk (mvP "steady" "any" m1 o1 o2 s2 o3 s3) st0 r) = true := by decide +kernel
theorem n_norepeat : ∀ k1 ∈ kks, ∀ m1 ∈ mms, ∀ o1 ∈ oos, ∀ o2 ∈ oos, ∀ s2 ∈ sss, ∀ o3 ∈ oos, ∀ s3 ∈ sss, formP "norepeat" k1 m1 o1 o2 s2 o3 s3 = true ∨ (R_norepeat.any fun r => walk (mvP "norepeat" k1 m1 o1 o2 s2 o3 s3) st0 r) = true := by decide +kernel
theorem n_forward : ∀ k1 ∈ (["any", "owner"] : List Str), ∀ m1 ∈ mms, ∀ o1 ∈ oos, ∀ o2 ∈ oos, ∀ s2 ∈ sss, ∀ o3 ∈ oos, ∀ s3 ∈ sss, (R_forward.any fun r => walk (mvP "forward" k1 m1 o1 o2 s2 o3 s3) st0 r) = true := by decide +kernel
end Lw
namespace Lw
open PySem L2 Mo BF
def okx (I : List ST) (mv : ST → List (Str × Option ST)) (x : ST) : Bool := (mv x).all fun m => match m.2 with
  | none => false
  | some y => decide (y ∈ I)
theorem all_td {α : Type} {f : α → Bool} (n : Nat) {I : List α} (h1 : (I.take n).all f = true) (h2 : (I.drop n).all f = true) : I.all f = true := by
  rw [← List.take_append_drop n I, List.all_append, h1, h2]; rfl
theorem closed_okx {I : List ST} {mv : ST → List (Str × Option ST)} (h : I.all (okx I mv) = true) : closed I mv = true := h
theorem c_fwdO0 : ∀ m1 ∈ mms, ∀ o2 ∈ oos, ∀ s2 ∈ sss, ∀ o3 ∈ oos, ∀ s3 ∈ sss, (I_fwdO.take 20).all (okx I_fwdO (mvP "forward" "given" m1 "once" o2 s2 o3 s3)) = true := by decide +kernel
theorem c_fwdO1 : ∀ m1 ∈ mms, ∀ o2 ∈ oos, ∀ s2 ∈ sss, ∀ o3 ∈ oos, ∀ s3 ∈ sss, ((I_fwdO.drop 20).take 20).all (okx I_fwdO (mvP "forward" "given" m1 "once" o2 s2 o3 s3)) = true := by decide +kernel
theorem c_fwdO2 : ∀ m1 ∈ mms, ∀ o2 ∈ oos, ∀ s2 ∈ sss, ∀ o3 ∈ oos, ∀ s3 ∈ sss, ((I_fwdO.drop 40).take 20).all (okx I_fwdO (mvP "forward" "given" m1 "once" o2 s2 o3 s3)) = true := by decide +kernel
theorem c_fwdO3 : ∀ m1 ∈ mms, ∀ o2 ∈ oos, ∀ s2 ∈ sss, ∀ o3 ∈ oos, ∀ s3 ∈ sss, ((I_fwdO.drop 60).take 20).all (okx I_fwdO (mvP "forward" "given" m1 "once" o2 s2 o3 s3)) = true := by decide +kernel
theorem c_fwdO4 : ∀ m1 ∈ mms, ∀ o2 ∈ oos, ∀ s2 ∈ sss, ∀ o3 ∈ oos, ∀ s3 ∈ sss, ((I_fwdO.drop 80).take 20).all (okx I_fwdO (mvP "forward" "given" m1 "once" o2 s2 o3 s3)) = true := by decide +kernel
theorem c_fwdO5 : ∀ m1 ∈ mms, ∀ o2 ∈ oos, ∀ s2 ∈ sss, ∀ o3 ∈ oos, ∀ s3 ∈ sss, ((I_fwdO.drop 100).take 20).all (okx I_fwdO (mvP "forward" "given" m1 "once" o2 s2 o3 s3)) = true := by decide +kernel
theorem c_fwdO : ∀ m1 ∈ mms, ∀ o2 ∈ oos, ∀ s2 ∈ sss, ∀ o3 ∈ oos, ∀ s3 ∈ sss, closed I_fwdO (mvP "forward" "given" m1 "once" o2 s2 o3 s3) = true := by
  intro m1 h1 o2 h2 s2 h3 o3 h4 s3 h5
  refine closed_okx ?_
  refine all_td 20 (c_fwdO0 m1 h1 o2 h2 s2 h3 o3 h4 s3 h5) ?_
  refine all_td 20 (c_fwdO1 m1 h1 o2 h2 s2 h3 o3 h4 s3 h5) ?_
  rw [List.drop_drop]
  refine all_td 20 (c_fwdO2 m1 h1 o2 h2 s2 h3 o3 h4 s3 h5) ?_
  rw [List.drop_drop]
  refine all_td 20 (c_fwdO3 m1 h1 o2 h2 s2 h3 o3 h4 s3 h5) ?_
  rw [List.drop_drop]
  refine all_td 20 (c_fwdO4 m1 h1 o2 h2 s2 h3 o3 h4 s3 h5) ?_
  rw [List.drop_drop]
  have := c_fwdO5 m1 h1 o2 h2 s2 h3 o3 h4 s3 h5
  rw [List.take_of_length_le (by decide)] at this
  exact this
theorem c_fwdW0 : ∀ m1 ∈ mms, ∀ o2 ∈ oos, ∀ s2 ∈ sss, ∀ o3 ∈ oos, ∀ s3 ∈ sss, (I_fwdW.take 20).all (okx I_fwdW (mvP "forward" "given" m1 "wait" o2 s2 o3 s3)) = true := by decide +kernel
theorem c_fwdW1 : ∀ m1 ∈ mms, ∀ o2 ∈ oos, ∀ s2 ∈ sss, ∀ o3 ∈ oos, ∀ s3 ∈ sss, ((I_fwdW.drop 20).take 20).all (okx I_fwdW (mvP "forward" "given" m1 "wait" o2 s2 o3 s3)) = true := by decide +kernel
theorem c_fwdW2 : ∀ m1 ∈ mms, ∀ o2 ∈ oos, ∀ s2 ∈ sss, ∀ o3 ∈ oos, ∀ s3 ∈ sss, ((I_fwdW.drop 40).take 20).all (okx I_fwdW (mvP "forward" "given" m1 "wait" o2 s2 o3 s3)) = true := by decide +kernel
theorem c_fwdW3 : ∀ m1 ∈ mms, ∀ o2 ∈ oos, ∀ s2 ∈ sss, ∀ o3 ∈ oos, ∀ s3 ∈ sss, ((I_fwdW.drop 60).take 20).all (okx I_fwdW (mvP "forward" "given" m1 "wait" o2 s2 o3 s3)) = true := by decide +kernel
theorem c_fwdW4 : ∀ m1 ∈ mms, ∀ o2 ∈ oos, ∀ s2 ∈ sss, ∀ o3 ∈ oos, ∀ s3 ∈ sss, ((I_fwdW.drop 80).take 20).all (okx I_fwdW (mvP "forward" "given" m1 "wait" o2 s2 o3 s3)) = true := by decide +kernel
theorem c_fwdW5 : ∀ m1 ∈ mms, ∀ o2 ∈ oos, ∀ s2 ∈ sss, ∀ o3 ∈ oos, ∀ s3 ∈ sss, ((I_fwdW.drop 100).take 20).all (okx I_fwdW (mvP "forward" "given" m1 "wait" o2 s2 o3 s3)) = true := by decide +kernel
theorem c_fwdW6 : ∀ m1 ∈ mms, ∀ o2 ∈ oos, ∀ s2 ∈ sss, ∀ o3 ∈ oos, ∀ s3 ∈ sss, ((I_fwdW.drop 120).take 20).all (okx I_fwdW (mvP "forward" "given" m1 "wait" o2 s2 o3 s3)) = true := by decide +kernel
theorem c_fwdW7 : ∀ m1 ∈ mms, ∀ o2 ∈ oos, ∀ s2 ∈ sss, ∀ o3 ∈ oos, ∀ s3 ∈ sss, ((I_fwdW.drop 140).take 20).all (okx I_fwdW (mvP "forward" "given" m1 "wait" o2 s2 o3 s3)) = true := by decide +kernel
theorem c_fwdW8 : ∀ m1 ∈ mms, ∀ o2 ∈ oos, ∀ s2 ∈ sss, ∀ o3 ∈ oos, ∀ s3 ∈ sss, ((I_fwdW.drop 160).take 20).all (okx I_fwdW (mvP "forward" "given" m1 "wait" o2 s2 o3 s3)) = true := by decide +kernel
theorem c_fwdW9 : ∀ m1 ∈ mms, ∀ o2 ∈ oos, ∀ s2 ∈ sss, ∀ o3 ∈ oos, ∀ s3 ∈ sss, ((I_fwdW.drop 180).take 20).all (okx I_fwdW (mvP "forward" "given" m1 "wait" o2 s2 o3 s3)) = true := by decide +kernel
theorem c_fwdW : ∀ m1 ∈ mms, ∀ o2 ∈ oos, ∀ s2 ∈ sss, ∀ o3 ∈ oos, ∀ s3 ∈ sss, closed I_fwdW (mvP "forward" "given" m1 "wait" o2 s2 o3 s3) = true := by
  intro m1 h1 o2 h2 s2 h3 o3 h4 s3 h5
  refine closed_okx ?_
  refine all_td 20 (c_fwdW0 m1 h1 o2 h2 s2 h3 o3 h4 s3 h5) ?_
  refine all_td 20 (c_fwdW1 m1 h1 o2 h2 s2 h3 o3 h4 s3 h5) ?_
  rw [List.drop_drop]
  refine all_td 20 (c_fwdW2 m1 h1 o2 h2 s2 h3 o3 h4 s3 h5) ?_
  rw [List.drop_drop]
  refine all_td 20 (c_fwdW3 m1 h1 o2 h2 s2 h3 o3 h4 s3 h5) ?_
  rw [List.drop_drop]
  refine all_td 20 (c_fwdW4 m1 h1 o2 h2 s2 h3 o3 h4 s3 h5) ?_
  rw [List.drop_drop]
  refine all_td 20 (c_fwdW5 m1 h1 o2 h2 s2 h3 o3 h4 s3 h5) ?_
  rw [List.drop_drop]
  refine all_td 20 (c_fwdW6 m1 h1 o2 h2 s2 h3 o3 h4 s3 h5) ?_
  rw [List.drop_drop]
  refine all_td 20 (c_fwdW7 m1 h1 o2 h2 s2 h3 o3 h4 s3 h5) ?_
  rw [List.drop_drop]
  refine all_td 20 (c_fwdW8 m1 h1 o2 h2 s2 h3 o3 h4 s3 h5) ?_
  rw [List.drop_drop]
  have := c_fwdW9 m1 h1 o2 h2 s2 h3 o3 h4 s3 h5
  rw [List.take_of_length_le (by decide)] at this
  exact this
end Lw
namespace Lw
open PySem L2 Mo BF
theorem closed_mem {I : List ST} {mv : ST → List (Str × Option ST)} (hc : closed I mv = true) {x : ST} (hx : x ∈ I) {l : Str} {t : Option ST} (hm : (l, t) ∈ mv x) : ∃ y, t = some y ∧ y ∈ I := by
  have h := List.all_eq_true.mp (List.all_eq_true.mp hc x hx) (l, t) hm
  cases t with
  | none => cases h
  | some y => exact ⟨y, rfl, of_decide_eq_true h⟩
theorem reach_in {I : List ST} {mv : ST → List (Str × Option ST)} (h0 : st0 ∈ I) (hc : closed I mv = true) : ∀ x, Reach mv st0 x → x ∈ I := by
  intro x hx
  induction hx with
  | start => exact h0
  | step _ hm ih =>
    obtain ⟨y, e, h⟩ := closed_mem hc ih hm
    cases e
    exact h
theorem kept_of {I : List ST} {mv : ST → List (Str × Option ST)} (h0 : st0 ∈ I) (hc : closed I mv = true) : ∀ x, Reach mv st0 x → ∀ l, (l, none) ∉ mv x := fun x hx l hm => by
  obtain ⟨y, e, _⟩ := closed_mem hc (reach_in h0 hc x hx) hm
  cases e
theorem walk_brk {mv : ST → List (Str × Option ST)} : ∀ (r : List Str) (x : ST), Reach mv st0 x → walk mv x r = true → ∃ y l, Reach mv st0 y ∧ (l, none) ∈ mv y
  | [], x, _, h => by cases h
  | l :: r, x, hx, h => by
    unfold walk at h
    split at h
    · rename_i l' e
      exact ⟨x, l', hx, List.mem_of_find?_eq_some e⟩
    · rename_i l' y e
      exact walk_brk r y (.step hx (List.mem_of_find?_eq_some e)) h
    · cases h
section
variable {k1 m1 o1 o2 s2 o3 s3 : Str}
theorem mv_k {nm : Str} (hnm : nm = "single" ∨ nm = "calm" ∨ nm = "steady") : mvP nm k1 m1 o1 o2 s2 o3 s3 = mvP nm "any" m1 o1 o2 s2 o3 s3 := by
  funext x
  have e : ∀ k, mv1 nm k x.1 x.2.1 x.2.2 = mv1 nm "any" x.1 x.2.1 x.2.2 := fun k => by
    funext y
    unfold mv1 mvO
    rcases hnm with rfl | rfl | rfl <;> simp
  unfold mvP movesP
  rw [e]
  rcases hnm with rfl | rfl | rfl <;> simp
structure OkO (k1 m1 o1 o2 s2 o3 s3 : Str) : Prop where
  k1 : k1 ∈ kks
  m1 : m1 ∈ mms
  o1 : o1 ∈ oos
  o2 : o2 ∈ oos
  s2 : s2 ∈ sss
  o3 : o3 ∈ oos
  s3 : s3 ∈ sss
theorem any_walk {mv : ST → List (Str × Option ST)} {R : List (List Str)} (h : (R.any fun r => walk mv st0 r) = true) : ∃ y l, Reach mv st0 y ∧ (l, none) ∈ mv y := by
  obtain ⟨r, _, hr⟩ := List.any_eq_true.mp h
  exact walk_brk r st0 .start hr
theorem form_no {nm : Str} (hnm : isNm nm) (K : OkO k1 m1 o1 o2 s2 o3 s3) (hf : formP nm k1 m1 o1 o2 s2 o3 s3 = false) : ∃ y l, Reach (mvP nm k1 m1 o1 o2 s2 o3 s3) st0 y ∧ (l, none) ∈ mvP nm k1 m1 o1 o2 s2 o3 s3 y := by
  rcases hnm with rfl | rfl | rfl | rfl | rfl
  · rw [mv_k (.inl rfl)]
    exact any_walk ((n_single m1 K.m1 o1 K.o1 o2 K.o2 s2 K.s2 o3 K.o3 s3 K.s3).resolve_left fun z => by have : formP "single" k1 m1 o1 o2 s2 o3 s3 = formP "single" "any" m1 o1 o2 s2 o3 s3 := rfl; rw [this, z] at hf; cases hf)
  · rw [mv_k (.inr (.inl rfl))]
    exact any_walk ((n_calm m1 K.m1 o1 K.o1 o2 K.o2 s2 K.s2 o3 K.o3 s3 K.s3).resolve_left fun z => by have : formP "calm" k1 m1 o1 o2 s2 o3 s3 = formP "calm" "any" m1 o1 o2 s2 o3 s3 := rfl; rw [this, z] at hf; cases hf)
  · rw [mv_k (.inr (.inr rfl))]
    exact any_walk ((n_steady m1 K.m1 o1 K.o1 o2 K.o2 s2 K.s2 o3 K.o3 s3 K.s3).resolve_left fun z => by have : formP "steady" k1 m1 o1 o2 s2 o3 s3 = formP "steady" "any" m1 o1 o2 s2 o3 s3 := rfl; rw [this, z] at hf; cases hf)
  · exact any_walk ((n_norepeat k1 K.k1 m1 K.m1 o1 K.o1 o2 K.o2 s2 K.s2 o3 K.o3 s3 K.s3).resolve_left fun z => by rw [z] at hf; cases hf)
  · have hk : k1 ∈ (["any", "owner"] : List Str) := by
      have h1 := K.k1
      simp only [kks, List.mem_cons, List.not_mem_nil, or_false] at h1 ⊢
      rcases h1 with rfl | rfl | rfl
      · exact .inl rfl
      · exact .inr rfl
      · simp [formP] at hf
    exact any_walk (n_forward k1 hk m1 K.m1 o1 K.o1 o2 K.o2 s2 K.s2 o3 K.o3 s3 K.s3)
theorem form_yes {nm : Str} (hnm : isNm nm) (K : OkO k1 m1 o1 o2 s2 o3 s3) (hf : formP nm k1 m1 o1 o2 s2 o3 s3 = true) : ∀ x, Reach (mvP nm k1 m1 o1 o2 s2 o3 s3) st0 x → ∀ l, (l, none) ∉ mvP nm k1 m1 o1 o2 s2 o3 s3 x := by
  have z1 : st0 ∈ I_calmB := by decide +kernel
  have z2 : st0 ∈ I_calmA := by decide +kernel
  have z3 : st0 ∈ I_sngB := by decide +kernel
  have z4 : st0 ∈ I_sngA := by decide +kernel
  have z5 : st0 ∈ I_stdO := by decide +kernel
  have z6 : st0 ∈ I_stdW := by decide +kernel
  have z7 : st0 ∈ I_nrpA := by decide +kernel
  have z8 : st0 ∈ I_nrpB := by decide +kernel
  have z9 : st0 ∈ I_fwdO := by decide +kernel
  have z10 : st0 ∈ I_fwdW := by decide +kernel
  rcases hnm with rfl | rfl | rfl | rfl | rfl
  · rw [mv_k (.inl rfl)]
    simp [formP] at hf
    obtain ⟨hc, rfl, rfl, rfl⟩ := hf
    rcases hc with rfl | ⟨rfl, rfl⟩
    · exact kept_of z3 (c_sngB s2 K.s2 s3 K.s3)
    · exact kept_of z4 (c_sngA m1 K.m1)
  · rw [mv_k (.inr (.inl rfl))]
    simp [formP] at hf
    rcases hf with rfl | ⟨rfl, rfl⟩
    · exact kept_of z1 (c_calmB o1 K.o1 o2 K.o2 s2 K.s2 o3 K.o3 s3 K.s3)
    · exact kept_of z2 (c_calmA m1 K.m1 o1 K.o1 o2 K.o2 o3 K.o3)
  · rw [mv_k (.inr (.inr rfl))]
    simp [formP] at hf
    obtain ⟨rfl, rfl⟩ := hf
    have h1 := K.o1
    simp only [oos, List.mem_cons, List.not_mem_nil, or_false] at h1
    rcases h1 with rfl | rfl
    · exact kept_of z5 (c_stdO m1 K.m1 o2 K.o2 o3 K.o3)
    · exact kept_of z6 (c_stdW m1 K.m1 o2 K.o2 o3 K.o3)
  · simp [formP] at hf
    obtain ⟨hc, hd⟩ := hf
    by_cases ha : s2 = "all" ∧ s3 = "all"
    · obtain ⟨rfl, rfl⟩ := ha
      exact kept_of z7 (c_nrpA k1 K.k1 m1 K.m1 o1 K.o1 o2 K.o2 o3 K.o3)
    · have hb : m1 = "back" := hc.resolve_right ha
      have hk : ¬ k1 = "owner" := hd.resolve_left ha
      subst hb
      have h1 := K.k1
      simp only [kks, List.mem_cons, List.not_mem_nil, or_false] at h1
      refine kept_of z8 (c_nrpB k1 ?_ o1 K.o1 o2 K.o2 s2 K.s2 o3 K.o3 s3 K.s3)
      simp only [List.mem_cons, List.not_mem_nil, or_false]
      rcases h1 with h1 | h1 | h1
      · exact .inl h1
      · exact absurd h1 hk
      · exact .inr h1
  · simp [formP] at hf
    subst hf
    have h1 := K.o1
    simp only [oos, List.mem_cons, List.not_mem_nil, or_false] at h1
    rcases h1 with rfl | rfl
    · exact kept_of z9 (c_fwdO m1 K.m1 o2 K.o2 s2 K.s2 o3 K.o3 s3 K.s3)
    · exact kept_of z10 (c_fwdW m1 K.m1 o2 K.o2 s2 K.s2 o3 K.o3 s3 K.s3)
end
end Lw
namespace Lw
open PySem L2 Mo BF
theorem pl_dealt (p : Str) (t : Bool) (hp : p ∈ pls) : plDealt p t ∈ pls := by
  unfold plDealt
  repeat' split
  all_goals first
    | exact hp
    | simp [pls]
theorem aEnter_pls {p r : Str} (h : aEnter p = some r) : r ∈ pls := by
  unfold aEnter at h
  split at h <;> cases h
  simp [pls]
theorem aLeave_pls {p r : Str} (h : aLeave p = some r) : r ∈ pls := by
  unfold aLeave at h
  split at h <;> cases h
  simp [pls]
theorem aOut_pls {p o r : Str} (h : aOut p o = some r) : r ∈ pls := by
  unfold aOut at h
  by_cases c : o = "wait"
  · simp only [c, if_true] at h
    repeat' split at h
    all_goals (cases h; try simp [pls])
  · simp only [c, if_false] at h
    repeat' split at h
    all_goals (cases h; try simp [pls])
theorem aHear_pls {p r : Str} (h : aHear p = some r) : r ∈ pls := by
  unfold aHear at h
  repeat' split at h
  all_goals (cases h; try simp [pls])
theorem aOver_pls {p o r : Str} (h : aOver p o = some r) : r ∈ pls := by
  unfold aOver at h
  repeat' split at h
  all_goals (cases h; try simp [pls])
theorem aRead_pls {p r : Str} (h : aRead p = some r) : r ∈ pls := by
  unfold aRead at h
  repeat' split at h
  all_goals (cases h; try simp [pls])
theorem aCall_pls {p o r : Str} (h : aCall p o = some r) : r ∈ pls := by
  unfold aCall at h
  split at h <;> cases h
  simp [pls]
theorem aft_pls (st p o1 o2 s2 : Str) {r : Str} (h : aftP st p o1 o2 s2 = some r) : r ∈ pls := by
  unfold aftP at h
  split at h
  · exact aEnter_pls h
  split at h
  · exact aLeave_pls h
  split at h
  · exact aOut_pls h
  split at h
  · exact aHear_pls h
  split at h
  · exact aOver_pls h
  split at h
  · exact aRead_pls h
  split at h
  · exact aCall_pls h
  · cases h
theorem steps_pls {p q m o o2 s2 o3 s3 : Str} (hp : p ∈ pls) (hq : q ∈ pls) : ∀ x ∈ stepsP p q m o o2 s2 o3 s3, x.2.1 ∈ pls ∧ x.2.2 ∈ pls := by
  intro x hx
  have h3 : ∀ t, x ∈ one3 p q m o s2 s3 t → x.2.1 ∈ pls ∧ x.2.2 ∈ pls := by
    intro t hx
    unfold one3 at hx
    split at hx
    · rename_i r hr
      split at hx
      · simp at hx
      · simp at hx
        subst hx
        unfold aDeal at hr
        split at hr
        · cases hr
        · split at hr
          · cases hr
          · split at hr
            · cases hr
            · cases hr
              exact ⟨pl_dealt _ _ hp, pl_dealt _ _ hq⟩
    · simp at hx
  unfold stepsP at hx
  simp only [List.mem_append, List.mem_flatMap] at hx
  rcases hx with (((⟨s, hs, hx⟩ | ⟨s, hs, hx⟩) | hx) | hx) | hx
  · unfold one1 at hx
    split at hx
    · rename_i r hr
      simp at hx; rw [hx]; exact ⟨aft_pls _ _ _ _ _ hr, hq⟩
    · simp at hx
  · unfold one2 at hx
    split at hx
    · rename_i r hr
      simp at hx; rw [hx]; exact ⟨hp, aft_pls _ _ _ _ _ hr⟩
    · simp at hx
  · exact h3 _ hx
  · exact h3 _ hx
  · exact h3 _ hx
end Lw
namespace Lw
open PySem L2 Mo BF
def noteL (nm : Str) : List Str := if nm = "forward" then nts else ["", "d"]
def UL (nm : Str) : List ST := pls.flatMap fun p => pls.flatMap fun q => (noteL nm).map fun n => (p, q, n)
theorem mem_UL {nm : Str} {x : ST} : x ∈ UL nm ↔ x.1 ∈ pls ∧ x.2.1 ∈ pls ∧ x.2.2 ∈ noteL nm := by
  obtain ⟨p, q, n⟩ := x
  simp only [UL, List.mem_flatMap, List.mem_map, Prod.mk.injEq]
  constructor
  · rintro ⟨a, ha, b, hb, c, hc, rfl, rfl, rfl⟩
    exact ⟨ha, hb, hc⟩
  · rintro ⟨ha, hb, hc⟩
    exact ⟨p, ha, q, hb, n, hc, rfl, rfl, rfl⟩
theorem mvO_UL {nm k1 p q n l u v : Str} {y : ST} (hu : u ∈ pls) (hv : v ∈ pls) (hn : n ∈ noteL nm) (g : mvO nm k1 p q n l u v = some y) : y ∈ UL nm := by
  rw [mem_UL]
  unfold mvO at g
  by_cases c1 : nm = "steady"
  · rw [if_pos c1] at g
    unfold stdyP at g
    split at g
    · cases g
    · split at g
      · cases g
      · cases g; exact ⟨hu, hv, hn⟩
  · rw [if_neg c1] at g
    by_cases c2 : nm = "norepeat"
    · rw [if_pos c2] at g
      unfold nrP at g
      split at g
      · cases g
      · split at g
        · cases g
        · cases g
          refine ⟨hu, hv, ?_⟩
          dsimp only
          split
          · subst c2; simp [noteL]
          · exact hn
    · rw [if_neg c2] at g
      by_cases c3 : nm = "forward"
      · rw [if_pos c3] at g
        have e0 : (Str.ofString "") ∈ noteL nm := by subst c3; simp [noteL, nts]
        cases g
        unfold fwP
        split
        · exact ⟨hu, hv, e0⟩
        · split
          · split
            · exact ⟨hu, hv, e0⟩
            · exact ⟨hu, hv, hn⟩
          · split
            · split
              · exact ⟨hu, hv, e0⟩
              · exact ⟨hu, hv, hn⟩
            · exact ⟨hu, hv, hn⟩
      · rw [if_neg c3] at g
        unfold snglP at g
        split at g
        · cases g
        · cases g; exact ⟨hu, hv, hn⟩
theorem opl_mem {c : Prop} [Decidable c] {x z : MVT} (h : z ∈ opl c x) : z = x := by
  unfold opl at h
  split at h
  · simpa using h
  · simp at h
theorem mmP_UL {mk p q n l : Str} {y : ST} (hp : p ∈ pls) (hq : q ∈ pls) (g : (l, some y) ∈ mmP mk p q n) : y.1 ∈ pls ∧ y.2.1 ∈ pls ∧ y.2.2 ∈ nts := by
  unfold mmP at g
  simp only [List.mem_append] at g
  rcases g with (((g | g) | g) | g) | g
  · have := opl_mem g; cases this; exact ⟨hp, hq, by simp [nts]⟩
  · have := opl_mem g; cases this; exact ⟨hp, hq, by simp [nts]⟩
  · have := opl_mem g; cases this; exact ⟨hp, hq, by simp [nts]⟩
  · have := opl_mem g; cases this; exact ⟨hp, hq, by simp [nts]⟩
  · have e := opl_mem g
    have e2 := congrArg Prod.snd e
    dsimp only at e2
    split at e2
    · cases e2
    · cases e2; exact ⟨hp, hq, by simp [nts]⟩
theorem moves_UL {nm k1 m1 o1 o2 s2 o3 s3 : Str} {x y : ST} {l : Str} (hx : x ∈ UL nm) (hm : (l, some y) ∈ mvP nm k1 m1 o1 o2 s2 o3 s3 x) : y ∈ UL nm := by
  obtain ⟨p, q, n⟩ := x
  rw [mem_UL] at hx
  obtain ⟨hp, hq, hn⟩ := hx
  simp only at hp hq hn
  have hm' : (l, some y) ∈ movesP nm p q n k1 m1 o1 o2 s2 o3 s3 := hm
  unfold movesP at hm'
  rcases List.mem_append.mp hm' with g | g
  · obtain ⟨z, hz, g1⟩ := List.mem_flatMap.mp g
    obtain ⟨a, b⟩ := steps_pls hp hq z hz
    unfold mv1 at g1
    split at g1
    · cases g1
    · have g2 := List.mem_singleton.mp g1
      exact mvO_UL a b hn (congrArg Prod.snd g2).symm
  · split at g
    · rename_i hnm
      rw [mem_UL]
      have := mmP_UL hp hq g
      refine ⟨this.1, this.2.1, ?_⟩
      unfold noteL
      rw [if_pos hnm]
      exact this.2.2
    · cases g
end Lw
namespace Lw
open PySem L2 Mo BF
theorem flat_len {α β : Type} {f : α → List β} {c : Nat} : ∀ l : List α, (∀ a ∈ l, (f a).length = c) → (l.flatMap f).length = l.length * c
  | [], _ => by simp
  | a :: l, h => by
    rw [List.flatMap_cons, List.length_append, h a List.mem_cons_self, flat_len l (fun b hb => h b (List.mem_cons_of_mem _ hb)), List.length_cons]
    rw [Nat.succ_mul]; omega
theorem UL_len (nm : Str) : (UL nm).length ≤ 900 := by
  have h5 : (noteL nm).length ≤ 5 := by
    unfold noteL
    split
    · exact Nat.le_refl 5
    · show 2 ≤ 5; decide
  have e : (UL nm).length = pls.length * (pls.length * (noteL nm).length) := by
    unfold UL
    refine flat_len _ fun p _ => ?_
    refine flat_len _ fun q _ => ?_
    rw [List.length_map]
  have p11 : pls.length = 11 := rfl
  rw [e, p11]
  omega
theorem bnd {nm k1 m1 o1 o2 s2 o3 s3 : Str} : Bnd nm (mvP nm k1 m1 o1 o2 s2 o3 s3) (UL nm) where
  hU x hx := by
    induction hx with
    | start => rw [mem_UL]; refine ⟨by simp [pls], by simp [pls], ?_⟩; unfold noteL; split <;> simp [nts]
    | step _ hm ih => exact moves_UL ih hm
  hs := UL_len nm
  ok x hx := by
    rw [mem_UL] at hx
    refine ⟨hx.1, hx.2.1, ?_⟩
    by_cases h : nm = "forward"
    · left; have := hx.2.2; unfold noteL at this; rwa [if_pos h] at this
    · exact .inr h
theorem judge_form {nm k1 m1 o1 o2 s2 o3 s3 : Str} {h : MH} {c : Nat} (hnm : isNm nm) (K : OkO k1 m1 o1 o2 s2 o3 s3) (C : CrewAt h c k1 m1 o1 o2 s2 o3 s3) :
    ∃ R i g, judge (mvP nm k1 m1 o1 o2 s2 o3 s3) st0 ((UL nm).length + 1) = some R ∧ m_judge [.ref c, .str nm] h = .ok (.ref i) (h ++ g) ∧ h.length ≤ i ∧ Verd (h ++ g) i R ∧ (R.isRight = formP nm k1 m1 o1 o2 s2 o3 s3) := by
  obtain ⟨R, hR, _⟩ := judge_ok (mv := mvP nm k1 m1 o1 o2 s2 o3 s3) (bnd (nm := nm)).hU (Nat.le_refl _)
  obtain ⟨i, g, e1, e2, e3⟩ := judge_run bnd C hnm hR
  refine ⟨R, i, g, hR, e1, e2, e3, ?_⟩
  rcases R with ⟨x, lb, o'⟩ | ⟨o', tb'⟩
  · obtain ⟨_, _, hr, hm⟩ := judge_broken (bnd (nm := nm)).hU (Nat.le_refl _) hR
    cases hf : formP nm k1 m1 o1 o2 s2 o3 s3 with
    | false => rfl
    | true => exact absurd hm (form_yes hnm K hf x hr lb)
  · cases hf : formP nm k1 m1 o1 o2 s2 o3 s3 with
    | true => rfl
    | false =>
      obtain ⟨y, l, hy, hm⟩ := form_no hnm K hf
      exact absurd hm (judge_kept (bnd (nm := nm)).hU (Nat.le_refl _) hR y hy l)
end Lw
namespace Lw
open PySem L2 Mo BF
open scoped List
def br (mv : ST → List (Str × Option ST)) : ST → List Str → Bool
  | _, [] => false
  | x, l :: r => match (mv x).filter fun m => decide (m.1 = l) with
    | [(_, none)] => r.isEmpty
    | [(_, some y)] => br mv y r
    | _ => false
theorem filter_one {l : Str} {t : Option ST} : ∀ {ms : List (Str × Option ST)}, (ms.map (·.1)).Nodup → (l, t) ∈ ms → (ms.filter fun m => decide (m.1 = l)) = [(l, t)]
  | [], _, h => by simp at h
  | (l', t') :: ms, hn, h => by
    rw [List.map_cons, List.nodup_cons] at hn
    rcases List.mem_cons.mp h with h | h
    · cases h
      rw [List.filter_cons, if_pos (by simp)]
      congr 1
      rw [List.filter_eq_nil_iff]
      intro m hm hd
      exact hn.1 (List.mem_map.mpr ⟨m, hm, of_decide_eq_true hd⟩)
    · have : l' ≠ l := fun e => by subst e; exact hn.1 (List.mem_map.mpr ⟨_, h, rfl⟩)
      rw [List.filter_cons, if_neg (by simpa using this)]
      exact filter_one hn.2 h
theorem br_some {mv : ST → List (Str × Option ST)} {x y : ST} {l : Str} {r : List Str} (hn : ((mv x).map (·.1)).Nodup) (hm : (l, some y) ∈ mv x) : br mv x (l :: r) = br mv y r := by
  rw [br, filter_one hn hm]
theorem br_none {mv : ST → List (Str × Option ST)} {x : ST} {l : Str} (hn : ((mv x).map (·.1)).Nodup) (hm : (l, none) ∈ mv x) : br mv x [l] = true := by
  rw [br, filter_one hn hm]
  rfl
theorem br_back {mv : ST → List (Str × Option ST)} {s0 : ST} (hu : ∀ x, Reach mv s0 x → ((mv x).map (·.1)).Nodup) {o : Or ST Str} (w : WF mv s0 o) :
    ∀ (n : Nat) (a : Or ST Str) (y : ST) (z : Option (ST × Str)) (b : Or ST Str), o = a ++ (y, z) :: b → a.length < n → ∀ r, br mv s0 ((back o n y).reverse ++ r) = br mv y r := by
  intro n
  induction n with
  | zero => intro a y z b e hn; omega
  | succ n ih =>
    intro a y z b e hn r
    have hy : y ∉ keys a := by
      have := w.nd
      rw [e, keys_app, List.nodup_append] at this
      intro hm
      exact this.2.2 y hm y (by simp [keys]) rfl
    have hp : par o y = some z := by rw [e]; exact par_app hy
    cases z with
    | none =>
      have := w.non a y b e
      subst this
      obtain ⟨q, hq⟩ := w.hd
      rw [e] at hq
      simp at hq
      rw [back, hp]
      simp [hq.1]
    | some pl =>
      obtain ⟨p, l⟩ := pl
      obtain ⟨h1, h2⟩ := w.par a y p l b e
      have hr := w.reach p (by rw [e, keys_app]; exact List.mem_append_left _ h1)
      obtain ⟨a1, z', a2, rfl⟩ := keys_split h1
      have bk : back o (n + 1) y = l :: back o n p := by simp only [back, hp]
      rw [bk, List.reverse_cons, List.append_assoc, ih a1 p z' (a2 ++ (y, some (p, l)) :: b) (by rw [e]; simp) (by simp at hn; omega)]
      exact br_some (hu p hr) h2
theorem br_run {mv : ST → List (Str × Option ST)} {s0 : ST} (hu : ∀ x, Reach mv s0 x → ((mv x).map (·.1)).Nodup) {o : Or ST Str} (w : WF mv s0 o) {x : ST} (hx : x ∈ keys o) {l : Str} (hm : (l, none) ∈ mv x) : br mv s0 (runTo o x ++ [l]) = true := by
  obtain ⟨a, z, b, e⟩ := keys_split hx
  unfold runTo
  rw [br_back hu w (o.length + 1) a x z b e (by rw [e]; simp; omega)]
  exact br_none (hu x (w.reach x hx)) hm
theorem sub_fm {α β γ : Type} {f : α → List β} {g : α → γ} {k : β → γ} (h : ∀ a, (f a).map k <+ [g a]) : ∀ l : List α, ((l.flatMap f).map k) <+ l.map g
  | [] => by simp
  | a :: l => by
    rw [List.flatMap_cons, List.map_append, List.map_cons]
    exact List.Sublist.append (h a) (sub_fm h l)
def allL : List Str := sts.map (fun s => s ++ (" first" : Str)) ++ sts.map (fun s => s ++ (" second" : Str)) ++ (["deal first", "deal second", "deal nobody"] : List Str)
def mkL : List Str := ["send first", "send second", "mark first", "mark second", "arrive"]
theorem allL_nd : (allL ++ mkL).Nodup := by decide +kernel
theorem steps_sub (p q m o o2 s2 o3 s3 : Str) : ((stepsP p q m o o2 s2 o3 s3).map (·.1)) <+ allL := by
  have h3 : ∀ t : Str, ((one3 p q m o s2 s3 t).map (·.1)) <+ [Str.ofString "deal " ++ t] := fun t => by
    unfold one3
    split
    · split
      · exact List.nil_sublist _
      · exact List.Sublist.refl _
    · exact List.nil_sublist _
  have d : allL = sts.map (fun s => s ++ (" first" : Str)) ++ sts.map (fun s => s ++ (" second" : Str)) ++ [Str.ofString "deal " ++ "first"] ++ [Str.ofString "deal " ++ "second"] ++ [Str.ofString "deal " ++ "nobody"] := by decide +kernel
  unfold stepsP
  rw [d]
  simp only [List.map_append]
  refine List.Sublist.append (List.Sublist.append (List.Sublist.append (List.Sublist.append (sub_fm (fun s => ?_) _) (sub_fm (fun s => ?_) _)) (h3 _)) (h3 _)) (h3 _)
  · unfold one1
    split
    · exact List.Sublist.refl _
    · exact List.nil_sublist _
  · unfold one2
    split
    · exact List.Sublist.refl _
    · exact List.nil_sublist _
theorem opl_sub {c : Prop} [Decidable c] {x : MVT} : ((opl c x).map (·.1)) <+ [x.1] := by
  unfold opl
  split
  · exact List.Sublist.refl _
  · exact List.nil_sublist _
theorem mm_sub (mk p q n : Str) : ((mmP mk p q n).map (·.1)) <+ mkL := by
  have d : mkL = [Str.ofString "send first"] ++ [Str.ofString "send second"] ++ [Str.ofString "mark first"] ++ [Str.ofString "mark second"] ++ [Str.ofString "arrive"] := rfl
  unfold mmP
  rw [d]
  simp only [List.map_append]
  exact List.Sublist.append (List.Sublist.append (List.Sublist.append (List.Sublist.append opl_sub opl_sub) opl_sub) opl_sub) opl_sub
theorem moves_nd {nm k1 m1 o1 o2 s2 o3 s3 : Str} (x : ST) : ((mvP nm k1 m1 o1 o2 s2 o3 s3 x).map (·.1)).Nodup := by
  refine List.Nodup.sublist ?_ allL_nd
  show ((movesP nm x.1 x.2.1 x.2.2 k1 m1 o1 o2 s2 o3 s3).map (·.1)) <+ _
  unfold movesP
  rw [List.map_append]
  refine List.Sublist.append ((sub_fm (g := fun y : Str × (Str × Str) => y.1) (fun y => ?_) _).trans (steps_sub _ _ _ _ _ _ _ _)) ?_
  · unfold mv1
    split
    · exact List.nil_sublist _
    · exact List.Sublist.refl _
  · split
    · exact mm_sub _ _ _ _
    · exact List.nil_sublist _
theorem run_breaks {nm k1 m1 o1 o2 s2 o3 s3 : Str} {x : ST} {lb : Str} {o : Or ST Str} (hR : judge (mvP nm k1 m1 o1 o2 s2 o3 s3) st0 ((UL nm).length + 1) = some (.inl (x, lb, o))) : br (mvP nm k1 m1 o1 o2 s2 o3 s3) st0 (runTo o x ++ [lb]) = true := by
  obtain ⟨w, hx, _, hm⟩ := judge_broken (bnd (nm := nm)).hU (Nat.le_refl _) hR
  exact br_run (fun x _ => moves_nd x) w hx hm
end Lw
namespace Lw
open PySem L2 Mo BF
def pL (lab : Str) : MV → Bool
  | .tup (.str l :: _) => decide (l = lab)
  | _ => false
def fL2 : MV → MV
  | .tup [_, t] => t
  | _ => .non
theorem sel_map (lab : Str) : ∀ ms : List MVT, ((ms.map mvM).filter (pL lab)).map fL2 = (ms.filter fun m => decide (m.1 = lab)).map fun m => om3 m.2
  | [] => rfl
  | (l, t) :: ms => by
    have ih := sel_map lab ms
    simp only [List.map_cons, List.filter_cons]
    have e : pL lab (mvM (l, t)) = decide (l = lab) := rfl
    rw [e]
    by_cases h : l = lab
    · simp only [h, decide_true, if_true, List.map_cons, ih]
      rfl
    · simp only [h, decide_false, Bool.false_eq_true, if_false, ih]
section
variable {nm k1 m1 o1 o2 s2 o3 s3 : Str} {h : MH} {c rn : Nat}
theorem sel_eq {H : MH} {mo : Nat} {ms : List MVT} {run : List Str} {k : Nat} (hk : k < run.length) (hm : H[mo]? = some (.lst (ms.map mvM))) (hr : H[rn]? = some (.lst (run.map .str))) (hl : ms.length ≤ 1000) (x0 x1 x3 x4 x6 x7 : Option MV) :
    lcV (gN 7) ZT0__law_breaks Z0__law_breaks (wipeM [x0, x1, some (.ref rn), x3, x4, some (.int k), x6, x7] [7]) (.ref mo) H = .ok (.ref H.length) (H ++ [.lst ((ms.filter fun m => decide (m.1 = run[k])).map fun m => om3 m.2)]) := by
  rw [lcS_run (xs := ms.map mvM) (f := fL2) (p := pL run[k]) (by rw [List.length_map]; have : SZ = 16777216 := rfl; omega) hm, sel_map]
  intro x hx
  obtain ⟨⟨l, t⟩, _, rfl⟩ := List.mem_map.mp hx
  refine ⟨_, rfl, fun acc => ?_⟩
  have hr' : (H ++ [MO.lst acc])[rn]? = some (.lst (run.map .str)) := app_at hr
  have ix : fIxA (.ref rn) (.int k) (H ++ [.lst acc]) = some (.str run[k], H ++ [.lst acc]) := by
    rw [fIxA_ev, if_neg (by rw [isDM_lst hr']; decide), fIx_ref hr', atI_ofNat, List.getElem?_map, List.getElem?_eq_getElem hk]
    rfl
  have em : mvM (l, t) = .tup [.str l, om3 t] := rfl
  rw [em]
  constructor
  · simp -implicitDefEqProofs [ZT0__law_breaks, eV, wipeM, -fIxA_ev, ixA_tup, ix, pL]
    by_cases hh : l = run[k] <;> simp [hh]
  · intro _
    simp -implicitDefEqProofs [Z0__law_breaks, eV, wipeM, -fIxA_ev, ixA_tup, fL2]
theorem moves_len (x : ST) : (mvP nm k1 m1 o1 o2 s2 o3 s3 x).length ≤ 1000 := by
  show (movesP nm x.1 x.2.1 x.2.2 k1 m1 o1 o2 s2 o3 s3).length ≤ 1000
  unfold movesP
  have a := Nat.le_trans (fm_len (mv1_len nm k1 x.1 x.2.1 x.2.2) (stepsP x.1 x.2.1 m1 o1 o2 s2 o3 s3)) (stepsP_len _ _ _ _ _ _ _ _)
  have b : (mmP k1 x.1 x.2.1 x.2.2).length ≤ 5 := by
    unfold mmP opl
    simp only [List.length_append]
    repeat' split
    all_goals simp
  rw [List.length_append]
  split
  · omega
  · simp only [List.length_nil]; omega
abbrev bS (nm : Str) (c rn : Nat) (h : MH) (x : ST) (k x6 x7 : Option MV) : Lo := [some (.str nm), some (.ref c), some (.ref rn), some (.ref h.length), some (stV x), k, x6, x7]
theorem lb_turn (K : CrewAt h c k1 m1 o1 o2 s2 o3 s3) (hnm : isNm nm) {run : List Str} (hr : h[rn]? = some (.lst (run.map .str))) {k : Nat} (hk : k < run.length) {x : ST} (hx : x ∈ UL nm) (g : MH) (x6 x7 : Option MV) :
    (br (mvP nm k1 m1 o1 o2 s2 o3 s3) x (run.drop k) = false ∧ ∃ g', L0__law_breaks (bS nm c rn h x (some (.int k)) x6 x7) (h ++ .ins "Promise" [("name", .str nm)] :: g) = .rt (.bl false) (h ++ .ins "Promise" [("name", .str nm)] :: g')) ∨
    (∃ g', L0__law_breaks (bS nm c rn h x (some (.int k)) x6 x7) (h ++ .ins "Promise" [("name", .str nm)] :: g) = .rt (.bl (br (mvP nm k1 m1 o1 o2 s2 o3 s3) x (run.drop k))) (h ++ .ins "Promise" [("name", .str nm)] :: g')) ∨
    (∃ y z6 z7 g', y ∈ UL nm ∧ br (mvP nm k1 m1 o1 o2 s2 o3 s3) x (run.drop k) = br (mvP nm k1 m1 o1 o2 s2 o3 s3) y (run.drop (k + 1)) ∧ L0__law_breaks (bS nm c rn h x (some (.int k)) x6 x7) (h ++ .ins "Promise" [("name", .str nm)] :: g) = .nx (bS nm c rn h y (some (.int k)) z6 z7) (h ++ .ins "Promise" [("name", .str nm)] :: g')) := by
  obtain ⟨H, eH⟩ : ∃ H, H = h ++ MO.ins "Promise" [("name", .str nm)] :: g := ⟨_, rfl⟩
  have pre : ∀ i, i < h.length → H[i]? = h[i]? := fun i hi => by rw [eH]; exact List.getElem?_append_left hi
  have hp : H[h.length]? = some (.ins "Promise" [("name", .str nm)]) := by rw [eH]; exact at_app0
  rw [mem_UL] at hx
  have C := call_at (K.to pre) hnm hp x hx.1 hx.2.1 (by
    by_cases f : nm = "forward"
    · left; have := hx.2.2; unfold noteL at this; rwa [if_pos f] at this
    · exact .inr f)
  have hx' : x ∈ UL nm := mem_UL.mpr hx
  have hrH : H[rn]? = some (.lst (run.map .str)) := by rw [pre rn (List.getElem?_eq_some_iff.mp hr).1]; exact hr
  obtain ⟨ms, ems⟩ : ∃ ms, ms = mvP nm k1 m1 o1 o2 s2 o3 s3 x := ⟨_, rfl⟩
  have ml : ms.length ≤ 1000 := by rw [ems]; exact moves_len x
  rw [← ems] at C
  have SE := sel_eq (rn := rn) (H := H ++ [.lst (ms.map mvM)]) (mo := H.length) (ms := ms) hk at_app0 (app_at hrH) ml (some (.str nm)) (some (.ref c)) (some (.ref h.length)) (some (stV x)) x6 x7
  have ed : run.drop k = run[k] :: run.drop (k + 1) := List.drop_eq_getElem_cons hk
  have brE : ∀ fs, ms.filter (fun m => decide (m.1 = run[k])) = fs → br (mvP nm k1 m1 o1 o2 s2 o3 s3) x (run.drop k) = match fs with
    | [(_, none)] => (run.drop (k + 1)).isEmpty
    | [(_, some y)] => br (mvP nm k1 m1 o1 o2 s2 o3 s3) y (run.drop (k + 1))
    | _ => false := fun fs e => by
    rw [ed, br, ← ems, e]
    all_goals (rcases fs with _ | ⟨⟨_, _ | _⟩, _ | ⟨_, _⟩⟩ <;> rfl)
  have RL := fLen_ref (h := H ++ [.lst (ms.map mvM), .lst ((ms.filter fun m => decide (m.1 = run[k])).map fun m => om3 m.2)]) (i := rn) (app_at hrH)
  have mem : ∀ m ∈ ms.filter (fun m => decide (m.1 = run[k])), m ∈ mvP nm k1 m1 o1 o2 s2 o3 s3 x := fun m hm => by rw [← ems]; exact (List.mem_filter.mp hm).1
  obtain ⟨fs, hfs⟩ : ∃ fs, ms.filter (fun m => decide (m.1 = run[k])) = fs := ⟨_, rfl⟩
  rw [hfs] at SE RL mem
  replace brE := brE fs hfs
  clear hfs
  have e1 : (H ++ [MO.lst (ms.map mvM)]).length = H.length + 1 := by simp
  rw [e1] at SE
  have S1 : (H ++ [MO.lst (ms.map mvM)]) ++ [.lst (fs.map fun m => om3 m.2)] = H ++ [.lst (ms.map mvM), .lst (fs.map fun m => om3 m.2)] := by simp
  rw [S1] at SE
  have G : ∀ t, H ++ t = h ++ MO.ins "Promise" [("name", .str nm)] :: (g ++ t) := fun t => by rw [eH]; simp
  have q1 : (H ++ [MO.lst (ms.map mvM), .lst (fs.map fun m => om3 m.2)])[H.length + 1]? = some (.lst (fs.map fun m => om3 m.2)) := by simp [at_app]
  have FL := fLen_ref q1
  have q0 : ∀ v, (fs.map fun m => om3 m.2)[0]? = some v → fIxA (.ref (H.length + 1)) (.int 0) (H ++ [.lst (ms.map mvM), .lst (fs.map fun m => om3 m.2)]) = some (v, H ++ [.lst (ms.map mvM), .lst (fs.map fun m => om3 m.2)]) := fun v hv => by
    rw [fIxA_ev, if_neg (by rw [isDM_lst q1]; decide), fIx_ref q1, atI_0, hv]; rfl
  rw [← eH]
  rcases fs with _ | ⟨⟨lb, _ | y⟩, _ | ⟨b, r⟩⟩
  · refine .inl ⟨brE, g ++ [.lst (ms.map mvM), .lst []], ?_⟩
    rw [← G]
    simp only [List.map_nil] at FL SE
    simp -implicitDefEqProofs [L0__law_breaks, eV, KIC2_ok hp, C, eLc_ev, KCo_ok, SE, FL]
  · refine .inr (.inl ⟨g ++ [.lst (ms.map mvM), .lst [.non]], ?_⟩)
    rw [← G, brE]
    have q0' := q0 .non rfl
    have eb : decide ((k : Int) = (run.length : Int) - 1) = (run.drop (k + 1)).isEmpty := by
      by_cases hh : k + 1 = run.length
      · have : run.drop (k + 1) = [] := List.drop_eq_nil_iff.mpr (by omega)
        rw [this, decide_eq_true (by omega)]; rfl
      · rw [decide_eq_false (by omega)]
        cases hd : run.drop (k + 1) with
        | nil => rw [List.drop_eq_nil_iff] at hd; omega
        | cons _ _ => rfl
    dsimp only
    rw [← eb]
    simp only [List.map_cons, List.map_nil, om3, List.length_map] at SE FL q0' RL ⊢
    simp -implicitDefEqProofs [L0__law_breaks, eV, KIC2_ok hp, C, eLc_ev, KCo_ok, SE, FL, -fIxA_ev, q0', RL]
    try (by_cases hh : (k : Int) = (run.length : Int) - 1 <;> simp [hh])
  · refine .inl ⟨brE, g ++ [.lst (ms.map mvM), .lst (((lb, none) :: b :: r).map fun m => om3 m.2)], ?_⟩
    rw [← G]
    have n1 : ¬ ((r.length : Int) + 1 + 1 = 1) := by omega
    simp only [List.map_cons] at FL SE
    simp -implicitDefEqProofs [L0__law_breaks, eV, KIC2_ok hp, C, eLc_ev, KCo_ok, SE, FL, n1]
  · have q0' := q0 (stV y) rfl
    have isn : fIsN (stV y) .non (H ++ [.lst (ms.map mvM), .lst [stV y]]) = some (.bl false, H ++ [.lst (ms.map mvM), .lst [stV y]]) := rfl
    refine .inr (.inr ⟨y, some (.ref (H.length + 1)), x7, g ++ [.lst (ms.map mvM), .lst [stV y]], moves_UL hx' (mem _ List.mem_cons_self), brE, ?_⟩)
    rw [← G]
    have e1 : (List.map (fun m : MVT => om3 m.2) [(lb, some y)]) = [stV y] := rfl
    rw [e1] at SE FL q0'
    simp -implicitDefEqProofs [L0__law_breaks, eV, KIC2_ok hp, C, eLc_ev, KCo_ok, SE, FL, -fIxA_ev, q0', isn]
  · refine .inl ⟨brE, g ++ [.lst (ms.map mvM), .lst (((lb, some y) :: b :: r).map fun m => om3 m.2)], ?_⟩
    rw [← G]
    have n1 : ¬ ((r.length : Int) + 1 + 1 = 1) := by omega
    simp only [List.map_cons] at FL SE
    simp -implicitDefEqProofs [L0__law_breaks, eV, KIC2_ok hp, C, eLc_ev, KCo_ok, SE, FL, n1]
end
end Lw
namespace Lw
open PySem L2 Mo BF
def runOf (nm k1 m1 o1 o2 s2 o3 s3 : Str) : List Str := match judge (mvP nm k1 m1 o1 o2 s2 o3 s3) st0 ((UL nm).length + 1) with
  | some (.inl (x, lb, o)) => runTo o x ++ [lb]
  | _ => []
theorem judge_at {nm k1 m1 o1 o2 s2 o3 s3 : Str} {H : MH} {c : Nat} (hnm : isNm nm) (K : OkO k1 m1 o1 o2 s2 o3 s3) (C : CrewAt H c k1 m1 o1 o2 s2 o3 s3) : ∃ i g, m_judge [.ref c, .str nm] H = .ok (.ref i) (H ++ g) ∧
    ((formP nm k1 m1 o1 o2 s2 o3 s3 = true ∧ ∃ t, (H ++ g)[i]? = some (.ins "Verdict" [("kept", .bl true), ("table", .ref t), ("run", .non)])) ∨
     (formP nm k1 m1 o1 o2 s2 o3 s3 = false ∧ ∃ r, (H ++ g)[i]? = some (.ins "Verdict" [("kept", .bl false), ("table", .non), ("run", .ref r)]) ∧ (H ++ g)[r]? = some (.lst ((runOf nm k1 m1 o1 o2 s2 o3 s3).map .str)) ∧ br (mvP nm k1 m1 o1 o2 s2 o3 s3) st0 (runOf nm k1 m1 o1 o2 s2 o3 s3) = true)) := by
  obtain ⟨R, i, g, hR, e1, _, e3, e4⟩ := judge_form hnm K C
  refine ⟨i, g, e1, ?_⟩
  rcases R with ⟨x, lb, o'⟩ | ⟨o', tb'⟩
  · obtain ⟨r, h1, h2⟩ := e3
    have er : runOf nm k1 m1 o1 o2 s2 o3 s3 = runTo o' x ++ [lb] := by unfold runOf; rw [hR]
    refine .inr ⟨e4.symm, r, h1, by rw [er]; exact h2, ?_⟩
    rw [er]
    exact run_breaks hR
  · obtain ⟨t, h1, _⟩ := e3
    exact .inl ⟨e4.symm, t, h1⟩
structure BkD where
  s : Str
  m : Str
  o : Str
  k : Str
  pl : Nat
def BookAt (H : MH) (d : BkD) : Prop := (∃ r, H[d.pl]? = some (.ins "Book" (bfs d.s d.m d.o d.k r))) ∧ okW d.s d.m d.o d.k
theorem BookAt.app {H t : MH} {d : BkD} (b : BookAt H d) : BookAt (H ++ t) d := ⟨let ⟨r, h⟩ := b.1; ⟨r, app_at h⟩, b.2⟩
def word (b : Bool) : Str := if b = true then "new" else "old"
theorem okO' {s1 m1 o1 k1 s2 m2 o2 k2 s3 m3 o3 k3 : Str} (w1 : okW s1 m1 o1 k1) (w2 : okW s2 m2 o2 k2) (w3 : okW s3 m3 o3 k3) : OkO k1 m1 o1 o2 s2 o3 s3 := by
  obtain ⟨a1, a2, a3, a4⟩ := w1
  obtain ⟨b1, b2, b3, b4⟩ := w2
  obtain ⟨c1, c2, c3, c4⟩ := w3
  refine ⟨?_, ?_, ?_, ?_, ?_, ?_, ?_⟩
  · simp only [kks, List.mem_cons, List.not_mem_nil, or_false]; rcases a4 with h | h | h <;> subst h <;> simp
  · simp only [mms, List.mem_cons, List.not_mem_nil, or_false]; rcases a2 with h | h <;> subst h <;> simp
  · simp only [oos, List.mem_cons, List.not_mem_nil, or_false]; rcases a3 with h | h <;> subst h <;> simp
  · simp only [oos, List.mem_cons, List.not_mem_nil, or_false]; rcases b3 with h | h <;> subst h <;> simp
  · simp only [sss, List.mem_cons, List.not_mem_nil, or_false]; rcases b1 with h | h <;> subst h <;> simp
  · simp only [oos, List.mem_cons, List.not_mem_nil, or_false]; rcases c3 with h | h <;> subst h <;> simp
  · simp only [sss, List.mem_cons, List.not_mem_nil, or_false]; rcases c1 with h | h <;> subst h <;> simp
theorem cinit_eq {h : MH} {a i j l : Nat} (ha : h[a]? = some (.ins "Crew" [])) : m_Crew___init__ [.ref a, .ref i, .ref j, .ref l] h = .ok .non (h.set a (.ins "Crew" (crewF i j l))) := by
  have g : ∀ o, (h.set a o)[a]? = some o := fun o => List.getElem?_set_self (List.getElem?_eq_some_iff.mp ha).1
  simp -implicitDefEqProofs [m_Crew___init__, b_Crew___init__, mDef_ev, eV, SZ, putI_ref ha, putI_ref (g _), crewF]
section
variable {nm : Str} {bk : Bool → BkD} {H : MH} {d i j : Nat}
structure ChH (H : MH) (bk : Bool → BkD) (d : Nat) : Prop where
  dk : H[d]? = some (.dk [(.inr "old", .ref (bk false).pl), (.inr "new", .ref (bk true).pl)])
  bks : ∀ b, BookAt H (bk b)
theorem ChH.app {t : MH} (c : ChH H bk d) : ChH (H ++ t) bk d := ⟨app_at c.dk, fun b => (c.bks b).app⟩
theorem ChH.ix (c : ChH H bk d) (b : Bool) : fIxA (.ref d) (.str (word b)) H = some (.ref (bk b).pl, H) := by
  unfold fIxA fDGet
  rw [if_pos (isDM_dk c.dk), dGet_dk c.dk]
  cases b <;> simp [word, keyM, valM]
end
end Lw
namespace Lw
open PySem L2 Mo BF
theorem gc_tup {f : MF} {xs : List MV} {h h2 : MH} {ys : List MV} (e : f xs h = .ok (.tup ys) h2) (hn : norefs ys = false) : gc f xs h = .ok (.tup ys) h2 := by
  unfold gc
  rw [e]
  dsimp only
  rw [if_neg (by intro z; have := z.1; simp [noref, hn] at this), dif_neg (by rintro ⟨o, k, g, h1, _⟩; cases h1)]
section
variable {nm : Str} {bk : Bool → BkD} {H : MH} {d : Nat}
end
end Lw
namespace Lw
open PySem L2 Mo BF
section
variable {nm k1 m1 o1 o2 s2 o3 s3 : Str} {h : MH} {c rn : Nat}
theorem law_breaks_eq (K : CrewAt h c k1 m1 o1 o2 s2 o3 s3) (hnm : isNm nm) {run : List Str} (hr : h[rn]? = some (.lst (run.map .str))) (hl : run.length < 1000) :
    m__law_breaks [.str nm, .ref c, .ref rn] h = .ok (.bl (br (mvP nm k1 m1 o1 o2 s2 o3 s3) st0 run)) h := by
  refine gc_okE ?_ rfl
  have I := jinit_ok (h := h ++ [.ins "Promise" []]) (a := h.length) hnm at_app0
  rw [set_app0] at I
  have I' : m_Promise___init__ [.ref h.length, .str nm] (h ++ [.ins "Promise" []]) = .ok .non (h ++ [.ins "Promise" [("name", .str nm)]]) := I
  have RL := fLen_ref (h := h ++ [.ins "Promise" [("name", .str nm)]]) (i := rn) (app_at hr)
  rw [List.length_map] at RL
  have L : (∃ g', forG (getR 0 run.length) (gN 5) L0__law_breaks (run.length + 1) 0 (bS nm c rn h st0 none none none) (h ++ [.ins "Promise" [("name", .str nm)]]) = .rt (.bl (br (mvP nm k1 m1 o1 o2 s2 o3 s3) st0 run)) (h ++ g')) ∨
      (∃ s' g', forG (getR 0 run.length) (gN 5) L0__law_breaks (run.length + 1) 0 (bS nm c rn h st0 none none none) (h ++ [.ins "Promise" [("name", .str nm)]]) = .nx s' (h ++ g') ∧ br (mvP nm k1 m1 o1 o2 s2 o3 s3) st0 run = false) := by
    refine forR_inv (h := h ++ [.ins "Promise" [("name", .str nm)]]) (fun i s h' => ∃ x y5 y6 y7 g, s = bS nm c rn h x y5 y6 y7 ∧ h' = h ++ .ins "Promise" [("name", .str nm)] :: g ∧ x ∈ UL nm ∧ br (mvP nm k1 m1 o1 o2 s2 o3 s3) st0 run = br (mvP nm k1 m1 o1 o2 s2 o3 s3) x (run.drop i))
      (fun r => (∃ g', r = .rt (.bl (br (mvP nm k1 m1 o1 o2 s2 o3 s3) st0 run)) (h ++ g')) ∨ (∃ s' g', r = .nx s' (h ++ g') ∧ br (mvP nm k1 m1 o1 o2 s2 o3 s3) st0 run = false)) ⟨st0, none, none, none, [], rfl, rfl, (bnd (nm := nm) (k1 := k1) (m1 := m1) (o1 := o1) (o2 := o2) (s2 := s2) (o3 := o3) (s3 := s3)).hU st0 .start, rfl⟩ ?_ ?_
    · rintro i s h' hi ⟨x, y5, y6, y7, g, rfl, rfl, hx, hb⟩
      refine ⟨_, rfl, ?_⟩
      simp only [Int.zero_add]
      show Turn _ _ (L0__law_breaks [_, _, _, _, _, _, _, _] _)
      rcases lb_turn K hnm hr hi hx g y6 y7 with ⟨f, g', e⟩ | ⟨g', e⟩ | ⟨y, z6, z7, g', hy, hb2, e⟩
      · rw [show L0__law_breaks [_, _, _, _, _, _, _, _] _ = _ from e, turn_rt]
        left
        rw [hb, f]
        exact ⟨_, rfl⟩
      · rw [show L0__law_breaks [_, _, _, _, _, _, _, _] _ = _ from e, turn_rt]
        left
        rw [hb]
        exact ⟨_, rfl⟩
      · rw [show L0__law_breaks [_, _, _, _, _, _, _, _] _ = _ from e, turn_nx]
        exact ⟨y, _, z6, z7, g', rfl, rfl, hy, by rw [hb, hb2]⟩
    · rintro s h' ⟨x, y5, y6, y7, g, rfl, rfl, hx, hb⟩
      right
      refine ⟨_, _, rfl, ?_⟩
      rw [hb, List.drop_length]
      rfl
  have e0 : (MV.tup [.str "out", .str "out", .str ""]) = stV st0 := rfl
  have hn : -4611686018427387904 ≤ (run.length : Int) ∧ (run.length : Int) < 4611686018427387904 := by omega
  have P : ∀ b : MS, sSeq (sAsg (eMk "Promise" 1 0 2 m_Promise___init__ gPos (aCons (eV 0) (aNil)) aNil) (gN 3))
    (sSeq (sAsg (eA fTup (aCons (eC (.str "out")) (aCons (eC (.str "out")) (aCons (eC (.str "")) (aNil))))) (gN 4)) b) [some (.str nm), some (.ref c), some (.ref rn), none, none, none, none, none] h = b (bS nm c rn h st0 none none none) (h ++ [.ins "Promise" [("name", .str nm)]]) := fun b => by
    simp -implicitDefEqProofs [eV, SZ, gPos, I']
    rw [e0]
  rw [mDef_ev]
  have E : b__law_breaks [some (.str nm), some (.ref c), some (.ref rn), none, none, none, none, none] h = (forG (getR 0 run.length) (gN 5) L0__law_breaks (run.length + 1) 0 (bS nm c rn h st0 none none none) (h ++ [.ins "Promise" [("name", .str nm)]])).nxt (sRet (eC (.bl false))) := by
    refine (P _).trans ?_
    simp -implicitDefEqProofs [eV, RL, KFR_1, hn]
  show ∃ g, KD (b__law_breaks [some (.str nm), some (.ref c), some (.ref rn), none, none, none, none, none] h) = _
  rw [E]
  rcases L with ⟨g', e⟩ | ⟨s', g', e, hb⟩
  · exact ⟨g', by rw [e, nxt_rt, KD_rt]⟩
  · exact ⟨g', by rw [e, nxt_nx, hb]; rfl⟩
end
end Lw
namespace Lw
open PySem L2 Mo BF
theorem plain_eq (h : MH) (i : Nat) : m_Crew_plain [.glo "Crew", .ref i] h = .ok (.ref h.length) (h ++ [.ins "Crew" (crewF i i i)]) := by
  have q := cinit_eq (h := h ++ [.ins "Crew" []]) (a := h.length) (i := i) (j := i) (l := i) at_app0
  rw [set_app0] at q
  have q : m_Crew___init__ [.ref h.length, .ref i, .ref i, .ref i] (h ++ [.ins "Crew" []]) = .ok .non (h ++ [.ins "Crew" (crewF i i i)]) := q
  simp -implicitDefEqProofs [m_Crew_plain, b_Crew_plain, mDef_ev, eV, SZ, q]
theorem seqN {x y : MS} {s s1 : Lo} {h h1 : MH} (e : x s h = .nx s1 h1) : sSeq x y s h = y s1 h1 := by
  unfold sSeq
  rw [e]
def Pn (d : BkD) (nm : Str) : Bool := formP nm d.k d.m d.o d.o d.s d.o d.s
def Pr (d : BkD) (nm : Str) : List Str := runOf nm d.k d.m d.o d.o d.s d.o d.s
def fbP (d : BkD) (names : List Str) : Option Str := names.find? fun nm => !Pn d nm
section
variable {H : MH} {d : BkD} {nm : Str} {nl : Nat} {names : List Str} {x1 x3 : Option MV}
theorem fb_turn (hnm : isNm nm) (B : BookAt H d) :
    (Pn d nm = true ∧ ∃ y3 g, L0_first_broken [some (.ref d.pl), x1, some (.str nm), x3] H = .nx [some (.ref d.pl), x1, some (.str nm), y3] (H ++ g)) ∨
    (Pn d nm = false ∧ ∃ r g, L0_first_broken [some (.ref d.pl), x1, some (.str nm), x3] H = .rt (.tup [.str nm, .ref r]) (H ++ g) ∧ (H ++ g)[r]? = some (.lst ((Pr d nm).map .str))) := by
  have PL := plain_eq H d.pl
  obtain ⟨M, eM⟩ : ∃ M, M = H ++ [MO.ins "Crew" (crewF d.pl d.pl d.pl)] := ⟨_, rfl⟩
  rw [← eM] at PL
  obtain ⟨⟨r1, h1⟩, w1⟩ := B
  have CA : CrewAt M H.length d.k d.m d.o d.o d.s d.o d.s :=
    ⟨⟨d.pl, d.pl, d.pl, d.s, r1, d.m, d.k, r1, d.m, d.k, r1, by rw [eM]; exact at_app0, by rw [eM]; exact app_at h1, by rw [eM]; exact app_at h1, by rw [eM]; exact app_at h1⟩⟩
  obtain ⟨v, g, e1, e2⟩ := judge_at hnm (okO' w1 w1 w1) CA
  obtain ⟨Z, eZ⟩ : ∃ Z, Z = M ++ g := ⟨_, rfl⟩
  have ZH : Z = H ++ (MO.ins "Crew" (crewF d.pl d.pl d.pl) :: g) := by rw [eZ, eM]; simp
  rw [← eZ] at e1 e2
  rcases e2 with ⟨f, t, V⟩ | ⟨f, r, V, L, _⟩
  · left
    refine ⟨f, some (.ref v), MO.ins "Crew" (crewF d.pl d.pl d.pl) :: g, ?_⟩
    rw [← ZH]
    have fk : fFld "kept" ["Verdict"] (.ref v) Z = some (.bl true, Z) := by rw [fFld_ref V, if_pos (by simp)]; rfl
    simp -implicitDefEqProofs [L0_first_broken, eV, PL, e1, fk]
  · right
    refine ⟨f, r, MO.ins "Crew" (crewF d.pl d.pl d.pl) :: g, ?_, by rw [← ZH]; exact L⟩
    rw [← ZH]
    have fk : fFld "kept" ["Verdict"] (.ref v) Z = some (.bl false, Z) := by rw [fFld_ref V, if_pos (by simp)]; rfl
    have fr : fFld "run" ["Verdict"] (.ref v) Z = some (.ref r, Z) := by rw [fFld_ref V, if_pos (by simp)]; rfl
    simp -implicitDefEqProofs [L0_first_broken, eV, SZ, PL, e1, fk, fr]
theorem find_skip {p : Str → Bool} {xs : List Str} {k : Nat} (hk : k < xs.length) (h : ∀ i (hi : i < k), p (xs[i]'(by omega)) = false) (hp : p xs[k] = true) : xs.find? p = some xs[k] := by
  rw [List.find?_eq_some_iff_getElem]
  exact ⟨hp, k, hk, rfl, fun j hj => by rw [h j hj]; rfl⟩
theorem first_broken_eq (hn : ∀ nm ∈ names, isNm nm) (B : BookAt H d) (q : H[nl]? = some (.lst (names.map .str))) :
    (fbP d names = none ∧ m_first_broken [.ref d.pl, .ref nl] H = .ok .non H) ∨
    ∃ nm r g, fbP d names = some nm ∧ m_first_broken [.ref d.pl, .ref nl] H = .ok (.tup [.str nm, .ref r]) (H ++ g) ∧ (H ++ g)[r]? = some (.lst ((Pr d nm).map .str)) := by
  have lp : (fbP d names = none ∧ ∃ s g, forG (getSeq (.ref nl)) (gN 2) L0_first_broken ((names.map MV.str).length + 1) 0 [some (.ref d.pl), some (.ref nl), none, none] H = .nx s (H ++ g)) ∨
      ∃ nm r g, fbP d names = some nm ∧ forG (getSeq (.ref nl)) (gN 2) L0_first_broken ((names.map MV.str).length + 1) 0 [some (.ref d.pl), some (.ref nl), none, none] H = .rt (.tup [.str nm, .ref r]) (H ++ g) ∧ (H ++ g)[r]? = some (.lst ((Pr d nm).map .str)) := by
    refine forS_inv (v := .ref nl) (xs := names.map .str) (fun k s h' => (∃ y2 y3, s = [some (.ref d.pl), some (.ref nl), y2, y3]) ∧ (∃ g, h' = H ++ g) ∧ ∀ i (hi : i < k) (hl : i < names.length), Pn d names[i] = true)
      (fun x => (fbP d names = none ∧ ∃ s g, x = .nx s (H ++ g)) ∨ ∃ nm r g, fbP d names = some nm ∧ x = .rt (.tup [.str nm, .ref r]) (H ++ g) ∧ (H ++ g)[r]? = some (.lst ((Pr d nm).map .str))) ⟨⟨none, none, rfl⟩, ⟨[], by simp⟩, fun i hi => absurd hi (Nat.not_lt_zero _)⟩ ?_ ?_ ?_
    · rintro k s h' ⟨_, ⟨g, rfl⟩, _⟩
      exact seqOf_ref (app_at q)
    · rintro k s h' hk ⟨⟨y2, y3, rfl⟩, ⟨g, rfl⟩, P⟩
      have hk' : k < names.length := by simpa using hk
      have e : (names.map MV.str)[k] = .str names[k] := by simp
      rw [e]
      refine ⟨[some (.ref d.pl), some (.ref nl), some (.str names[k]), y3], rfl, ?_⟩
      rcases fb_turn (x1 := some (.ref nl)) (x3 := y3) (hn _ (List.getElem_mem hk')) (B.app (t := g)) with ⟨f, z3, g2, E⟩ | ⟨f, r, g2, E, L⟩
      · rw [E, turn_nx]
        refine ⟨⟨_, _, rfl⟩, ⟨g ++ g2, by rw [List.append_assoc]⟩, fun i hi hl => ?_⟩
        by_cases c : i = k
        · subst c; exact f
        · exact P i (by omega) hl
      · rw [E, turn_rt]
        right
        refine ⟨names[k], r, g ++ g2, ?_, by rw [List.append_assoc], by rw [← List.append_assoc]; exact L⟩
        exact find_skip hk' (fun i hi => by rw [P i hi (by omega)]; rfl) (by rw [f]; rfl)
    · rintro s h' ⟨_, ⟨g, rfl⟩, P⟩
      left
      refine ⟨List.find?_eq_none.mpr fun nm hm => ?_, s, g, rfl⟩
      obtain ⟨i, hi, rfl⟩ := List.mem_iff_getElem.mp hm
      rw [P i (by rw [List.length_map]; exact hi) hi]
      simp
  have ex : (mDef 4 b_first_broken) [.ref d.pl, .ref nl] H = KD (b_first_broken [some (.ref d.pl), some (.ref nl), none, none] H) := by
    simp -implicitDefEqProofs [mDef_ev]
  have ev : (eV 1) [some (.ref d.pl), some (.ref nl), none, none] H = .ok (.ref nl) H := by simp [eV]
  have fs : (sFor (eV 1) (gN 2) (L0_first_broken)) [some (.ref d.pl), some (.ref nl), none, none] H = forG (getSeq (.ref nl)) (gN 2) L0_first_broken ((names.map MV.str).length + 1) 0 [some (.ref d.pl), some (.ref nl), none, none] H := by
    rw [sFor_ev, ev, KFo_ref q]
  rcases lp with ⟨f, s, g, lp⟩ | ⟨nm, r, g, f, lp, L⟩
  · left
    refine ⟨f, gc_okE ⟨g, ?_⟩ rfl⟩
    rw [lp] at fs
    rw [ex]
    unfold b_first_broken
    rw [seqN fs]
    simp -implicitDefEqProofs
  · right
    refine ⟨nm, r, g, f, ?_, L⟩
    refine gc_tup ?_ rfl
    rw [lp] at fs
    rw [ex]
    unfold b_first_broken
    have : sSeq (sFor (eV 1) (gN 2) (L0_first_broken)) (sRet (eC .non)) [some (.ref d.pl), some (.ref nl), none, none] H = .rt (.tup [.str nm, .ref r]) (H ++ g) := by
      unfold sSeq
      rw [fs]
    rw [this]
    rfl
end
end Lw
namespace Lw
open PySem L2 Mo BF
theorem lcS_rel {h : MH} {s : Lo} {g : MG} {m : ME} {i : Nat} {xs : List MV} {P : MV → Prop} {R : Nat → MV → MH → Prop} (hl : xs.length ≤ SZ) (hx : h[i]? = some (.lst xs)) (mono : ∀ k y T T', R k y T → R k y (T ++ T'))
    (hstep : ∀ k (hk : k < xs.length), ∃ s1, g xs[k] s = some s1 ∧ ∀ acc T, (∀ y ∈ acc, P y) → ∃ y T1, m s1 (h ++ .lst acc :: T) = .ok y (h ++ .lst acc :: (T ++ T1)) ∧ P y ∧ R k y (T ++ T1)) :
    ∃ ys T, lcV g bYes m s (.ref i) h = .ok (.ref h.length) (h ++ .lst ys :: T) ∧ ys.length = xs.length ∧ (∀ y ∈ ys, P y) ∧ ∀ k y, ys[k]? = some y → R k y T := by
  have hlt := (List.getElem?_eq_some_iff.mp hx).1
  have sq : seqOf h (.ref i) = some xs := seqOf_ref hx
  rw [lcV_ref sq]
  refine lcG_inv (N := xs.length) (fun t h' => ∃ ys T, h' = h ++ .lst ys :: T ∧ ys.length = t ∧ (∀ y ∈ ys, P y) ∧ ∀ k y, ys[k]? = some y → R k y T)
    (fun r => ∃ ys T, r = .ok (.ref h.length) (h ++ .lst ys :: T) ∧ ys.length = xs.length ∧ (∀ y ∈ ys, P y) ∧ ∀ k y, ys[k]? = some y → R k y T) ?_ ?_ xs.length 0 _ (by simp) ⟨[], [], rfl, rfl, (by intro y hy; exact absurd hy List.not_mem_nil), (by intro k y e; rw [List.getElem?_nil] at e; cases e)⟩
  · rintro h' ⟨ys, T, rfl, l, p, r⟩
    refine ⟨?_, ys, T, rfl, l, p, r⟩
    unfold getSeq
    rw [seqOf_ref (app_at hx)]
    show some (xs[xs.length]?) = _
    rw [List.getElem?_eq_none (Nat.le_refl _)]
  · rintro t h' ht ⟨ys, T, rfl, l, p, r⟩
    obtain ⟨s1, e1, e2⟩ := hstep t ht
    obtain ⟨y, T1, e3, e4, e5⟩ := e2 ys T p
    refine ⟨xs[t], s1, ?_, e1, .inr ⟨y, _, h ++ .lst (ys ++ [y]) :: (T ++ T1), rfl, e3, ?_, ys ++ [y], T ++ T1, rfl, by simp [l], fun z hz => ?_, fun k z e => ?_⟩⟩
    · unfold getSeq
      rw [seqOf_ref (app_at hx)]
      show some (xs[t]?) = _
      rw [List.getElem?_eq_getElem ht]
    · have hle : ys.length < SZ := by omega
      unfold putLc
      rw [List.getElem?_append_right (Nat.le_refl _)]
      simp only [Nat.sub_self, List.getElem?_cons_zero, if_pos hle]
      simp [List.set_append_right]
    · rcases List.mem_append.mp hz with q | q
      · exact p z q
      · rw [List.mem_singleton.mp q]; exact e4
    · by_cases c : k < ys.length
      · rw [List.getElem?_append_left c] at e
        exact mono _ _ _ _ (r k z e)
      · rw [List.getElem?_append_right (by omega)] at e
        have c2 : k - ys.length = 0 := by
          have := (List.getElem?_eq_some_iff.mp e).1
          simp at this
          omega
        rw [c2] at e
        cases e
        have : k = t := by omega
        subst this
        exact e5
def BookP (H : MH) (d : BkD) : Prop := (∃ r, H[d.pl]? = some (.ins "Book" (bfs d.s d.m d.o d.k r)) ∧ H[r]? = some (.lst [.tup [.str "stop", .str d.s], .tup [.str "move", .str d.m], .tup [.str "out", .str d.o], .tup [.str "marks", .str d.k]])) ∧ okW d.s d.m d.o d.k
theorem BookP.at {H : MH} {d : BkD} (b : BookP H d) : BookAt H d := ⟨let ⟨r, h, _⟩ := b.1; ⟨r, h⟩, b.2⟩
theorem BookP.app {H t : MH} {d : BkD} (b : BookP H d) : BookP (H ++ t) d := ⟨let ⟨r, h, h2⟩ := b.1; ⟨r, app_at h, app_at h2⟩, b.2⟩
def Rb (N : Nat) (h : MH) (ds : List BkD) (names : List Str) (k : Nat) (y : MV) (T : MH) : Prop := ∀ d, ds[k]? = some d → (fbP d names = none ∧ y = .non) ∨ ∃ nm r, fbP d names = some nm ∧ y = .tup [.str nm, .ref r] ∧ r ≠ N ∧ ∀ acc, (h ++ .lst acc :: T)[r]? = some (.lst ((Pr d nm).map .str))
def NoS (y : MV) : Prop := ∀ x, y ≠ .str x
theorem not_at {h T : MH} {acc acc' : List MV} {r : Nat} (ne : r ≠ h.length) : (h ++ .lst acc :: T)[r]? = (h ++ .lst acc' :: T)[r]? := by
  by_cases c : r < h.length
  · rw [List.getElem?_append_left c, List.getElem?_append_left c]
  · rw [List.getElem?_append_right (by omega), List.getElem?_append_right (by omega)]
    obtain ⟨j, e⟩ : ∃ j, r - h.length = j + 1 := ⟨r - h.length - 1, by omega⟩
    rw [e, List.getElem?_cons_succ, List.getElem?_cons_succ]
theorem fb_run {d : BkD} {names : List Str} {nm : Str} (hn : ∀ nm ∈ names, isNm nm) (w : okW d.s d.m d.o d.k) (e : fbP d names = some nm) : Pr d nm ≠ [] := by
  intro z
  have hm := List.mem_of_find?_eq_some e
  have hp := List.find?_some e
  have f : Pn d nm = false := by simpa using hp
  obtain ⟨M, hM⟩ : ∃ M : MH, M = [MO.ins "Book" (bfs d.s d.m d.o d.k 0), MO.ins "Crew" (crewF 0 0 0)] := ⟨_, rfl⟩
  have CA : CrewAt M 1 d.k d.m d.o d.o d.s d.o d.s := ⟨⟨0, 0, 0, d.s, 0, d.m, d.k, 0, d.m, d.k, 0, by rw [hM]; rfl, by rw [hM]; rfl, by rw [hM]; rfl, by rw [hM]; rfl⟩⟩
  obtain ⟨v, g, _, e2⟩ := judge_at (hn nm hm) (okO' w w w) CA
  rcases e2 with ⟨f2, _⟩ | ⟨_, r, _, _, b⟩
  · have : Pn d nm = true := f2
    rw [f] at this; cases this
  · have b : br (mvP nm d.k d.m d.o d.o d.s d.o d.s) st0 (Pr d nm) = true := b
    rw [z] at b
    cases b
section
variable {h : MH} {ds : List BkD} {names : List Str} {bl nl : Nat} {x2 x3 x4 x6 x7 x8 x9 : Option MV}
theorem broken_eq (hn : ∀ nm ∈ names, isNm nm) (B : ∀ d ∈ ds, BookP h d) (qb : h[bl]? = some (.lst (ds.map fun d => .ref d.pl))) (qn : h[nl]? = some (.lst (names.map .str))) (hl : ds.length < 64) :
    ∃ ys T, lcV (gN 5) bYes Z0_weakest [some (.ref bl), some (.ref nl), x2, x3, x4, none, x6, x7, x8, x9] (.ref bl) h = .ok (.ref h.length) (h ++ .lst ys :: T) ∧ ys.length = ds.length ∧ ∀ k y, ys[k]? = some y → Rb h.length h ds names k y T := by
  have zz : SZ = 16777216 := rfl
  obtain ⟨ys, T, e1, e2, _, e4⟩ := lcS_rel (P := NoS) (R := fun k y T => Rb h.length h ds names k y T) (g := gN 5) (m := Z0_weakest) (s := [some (.ref bl), some (.ref nl), x2, x3, x4, none, x6, x7, x8, x9]) (by rw [List.length_map]; omega) qb
    (fun k y T T' r d hd => by
      rcases r d hd with q | ⟨nm, r', q1, q2, q3, q4⟩
      · exact .inl q
      · exact .inr ⟨nm, r', q1, q2, q3, fun acc => by
          have := app_at (t := T') (q4 acc)
          rwa [List.append_assoc] at this⟩)
    (fun k hk => by
      have hk' : k < ds.length := by simpa using hk
      refine ⟨[some (.ref bl), some (.ref nl), x2, x3, x4, some (.ref ds[k].pl), x6, x7, x8, x9], by rw [List.getElem_map]; rfl, fun acc T hacc => ?_⟩
      have hm := List.getElem_mem hk'
      have hk2 : ds[k]? = some ds[k] := List.getElem?_eq_getElem hk'
      generalize hd : ds[k] = d at *
      have BH := (B d hm).app (t := .lst acc :: T)
      have w := (B d hm).2
      rcases first_broken_eq hn BH.at (app_at (t := .lst acc :: T) qn) with ⟨f, E⟩ | ⟨nm, r, g, f, E, L⟩
      · refine ⟨.non, [], ?_, fun x => by simp, fun d' hd' => ?_⟩
        · rw [List.append_nil]
          simp -implicitDefEqProofs [Z0_weakest, eV, E]
        · rw [hk2] at hd'; cases hd'
          exact .inl ⟨f, rfl⟩
      · refine ⟨.tup [.str nm, .ref r], g, ?_, fun x => by simp, fun d' hd' => ?_⟩
        · have E' : m_first_broken [.ref d.pl, .ref nl] (h ++ .lst acc :: T) = .ok (.tup [.str nm, .ref r]) (h ++ .lst acc :: (T ++ g)) := by rw [E, List.append_assoc]; rfl
          simp -implicitDefEqProofs [Z0_weakest, eV, E']
        · rw [hk2] at hd'; cases hd'
          rw [List.append_assoc] at L
          have L : (h ++ .lst acc :: (T ++ g))[r]? = some (.lst ((Pr d nm).map .str)) := L
          have ne : r ≠ h.length := fun z => by
            rw [z, List.getElem?_append_right (Nat.le_refl _), Nat.sub_self, List.getElem?_cons_zero] at L
            cases L
            cases hc : Pr d nm with
            | nil => exact fb_run hn w f hc
            | cons x xs => exact hacc (.str x) (by rw [hc]; simp) x rfl
          exact .inr ⟨nm, r, f, rfl, ne, fun acc' => (not_at ne).trans L⟩)
  rw [List.length_map] at e2
  exact ⟨ys, T, e1, e2, e4⟩
end
end Lw
namespace Lw
open PySem L2 Mo BF
def prs (s m o k : Str) : List MV := [.tup [.str "stop", .str s], .tup [.str "move", .str m], .tup [.str "out", .str o], .tup [.str "marks", .str k]]
theorem isi_book {h : MH} {j : Nat} {fs : List (Str × MV)} (hj : h[j]? = some (.ins "Book" fs)) : fIsi ownT [.ref j, .glo "Book"] h = some (.bl true, h) := by
  simp [fIsi, tyM, hj, isiM, ownOf, tabT]
def leP (s1 m1 o1 k1 s2 m2 o2 k2 : Str) : Bool := (s1 == "asked" || s2 == "all") && ((m1 == "once" || m2 == "back") && ((o1 == "once" || o2 == "wait") && (k1 == "any" || k1 == k2)))
def eqP (s1 m1 o1 k1 s2 m2 o2 k2 : Str) : Bool := s1 == s2 && (m1 == m2 && (o1 == o2 && k1 == k2))
section
variable {h : MH} {i j : Nat} {s1 m1 o1 k1 s2 m2 o2 k2 : Str} {r1 r2 : Nat}
theorem am_stop (hs : Str.ofString "asked" = s1 ∨ Str.ofString "all" = s1) (hs2 : Str.ofString "asked" = s2 ∨ Str.ofString "all" = s2) : m_at_most [k_STOPS, .str s1, .str s2] h = .ok (.bl (s1 == "asked" || s2 == "all")) h := by
  refine gc_okE ?_ rfl
  rcases hs with rfl | rfl <;> rcases hs2 with rfl | rfl <;> simp [b_at_most, mDef_ev, eV, k_STOPS, fTupIx, strsM, List.findIdx?_cons]
theorem am_move (hs : Str.ofString "once" = m1 ∨ Str.ofString "back" = m1) (hs2 : Str.ofString "once" = m2 ∨ Str.ofString "back" = m2) : m_at_most [k_MOVES, .str m1, .str m2] h = .ok (.bl (m1 == "once" || m2 == "back")) h := by
  refine gc_okE ?_ rfl
  rcases hs with rfl | rfl <;> rcases hs2 with rfl | rfl <;> simp [b_at_most, mDef_ev, eV, k_MOVES, fTupIx, strsM, List.findIdx?_cons]
theorem am_out (hs : Str.ofString "once" = o1 ∨ Str.ofString "wait" = o1) (hs2 : Str.ofString "once" = o2 ∨ Str.ofString "wait" = o2) : m_at_most [k_OUTS, .str o1, .str o2] h = .ok (.bl (o1 == "once" || o2 == "wait")) h := by
  refine gc_okE ?_ rfl
  rcases hs with rfl | rfl <;> rcases hs2 with rfl | rfl <;> simp [b_at_most, mDef_ev, eV, k_OUTS, fTupIx, strsM, List.findIdx?_cons]
theorem ble_eq (w1 : okW s1 m1 o1 k1) (w2 : okW s2 m2 o2 k2) (hi : h[i]? = some (.ins "Book" (bfs s1 m1 o1 k1 r1))) (hj : h[j]? = some (.ins "Book" (bfs s2 m2 o2 k2 r2))) :
    m_Book___le__ [.ref i, .ref j] h = .ok (.bl (leP s1 m1 o1 k1 s2 m2 o2 k2)) h := by
  have A := am_stop (h := h) w1.1 w2.1
  have B := am_move (h := h) w1.2.1 w2.2.1
  have C := am_out (h := h) w1.2.2.1 w2.2.2.1
  generalize ea : (s1 == Str.ofString "asked" || s2 == Str.ofString "all") = a at A
  generalize eb : (m1 == Str.ofString "once" || m2 == Str.ofString "back") = b at B
  generalize ec : (o1 == Str.ofString "once" || o2 == Str.ofString "wait") = c at C
  have L : leP s1 m1 o1 k1 s2 m2 o2 k2 = (a && (b && (c && (k1 == Str.ofString "any" || k1 == k2)))) := by rw [leP, ea, eb, ec]
  rw [L]
  cases a <;> cases b <;> cases c <;> simp [m_Book___le__, b_Book___le__, mDef_ev, eV, SZ, isi_book hj, fFld_ref hi, fFld_ref hj, bfs, A, B, C]
  rw [BEq.comm (a := k1), BEq.comm (a := k1)]
theorem beq_eq (hi : h[i]? = some (.ins "Book" (bfs s1 m1 o1 k1 r1))) (hj : h[j]? = some (.ins "Book" (bfs s2 m2 o2 k2 r2))) (h1 : h[r1]? = some (.lst (prs s1 m1 o1 k1))) (h2 : h[r2]? = some (.lst (prs s2 m2 o2 k2))) :
    m_Book___eq__ [.ref i, .ref j] h = .ok (.bl (eqP s1 m1 o1 k1 s2 m2 o2 k2)) h := by
  have e : mRc h (.ref r1) (.ref r2) = some (eqP s1 m1 o1 k1 s2 m2 o2 k2) := by
    simp only [mRc, scM, flM, mEqS, asT, lstAt, h1, h2]
    simp [prs, eqP]
  simp [m_Book___eq__, b_Book___eq__, mDef_ev, eV, SZ, isi_book hj, fFld_ref hi, fFld_ref hj, bfs, e]
end
def leB (d e : BkD) : Bool := leP d.s d.m d.o d.k e.s e.m e.o e.k
def eqB (d e : BkD) : Bool := eqP d.s d.m d.o d.k e.s e.m e.o e.k
def wkB (e d : BkD) : Bool := leB e d && !eqB e d
section
variable {H : MH} {ds : List BkD} {d e : BkD} {bl : Nat} {x1 x2 x3 x4 x6 x7 x8 x9 : Option MV}
theorem cmp_le (Be : BookP H e) (Bd : BookP H d) : ownRun [("Book", m_Book___le__)] false (.ref e.pl) (.ref d.pl) H = .ok (.bl (leB e d)) H := by
  obtain ⟨⟨r1, h1, _⟩, w1⟩ := Be
  obtain ⟨⟨r2, h2, _⟩, w2⟩ := Bd
  rw [ownRun_ev h1 h2 rfl, ble_eq w1 w2 h1 h2]
  rfl
theorem cmp_eq (Be : BookP H e) (Bd : BookP H d) : ownRun [("Book", m_Book___eq__)] false (.ref e.pl) (.ref d.pl) H = .ok (.bl (eqB e d)) H := by
  obtain ⟨⟨r1, h1, g1⟩, w1⟩ := Be
  obtain ⟨⟨r2, h2, g2⟩, w2⟩ := Bd
  rw [ownRun_ev h1 h2 rfl, beq_eq h1 h2 g1 g2]
  rfl
def wkI (ds : List BkD) (d : BkD) : List Nat := (List.range ds.length).filter fun k => match ds[k]? with
  | some e => wkB e d
  | none => false
theorem weaker_eq (B : ∀ d ∈ ds, BookP H d) (hd : d ∈ ds) (qb : H[bl]? = some (.lst (ds.map fun d => .ref d.pl))) (hl : ds.length < 64) :
    eLcE (eV 0) (gT [8, 9]) ZT1_weakest Z1_weakest [8, 9] [some (.ref bl), x1, x2, x3, x4, some (.ref d.pl), x6, x7, x8, x9] H = .ok (.ref H.length) (H ++ [.lst ((wkI ds d).map fun k => .int (k : Nat))]) := by
  have zz : SZ = 16777216 := rfl
  have ev : (eV 0) [some (.ref bl), x1, x2, x3, x4, some (.ref d.pl), x6, x7, x8, x9] H = .ok (.ref bl) H := by simp [eV]
  rw [eLcE_at ev qb]
  have G := lcG_run (h := H) (s := wipeM [some (.ref bl), x1, x2, x3, x4, some (.ref d.pl), x6, x7, x8, x9] [8, 9]) (g := gT [8, 9]) (c := ZT1_weakest) (m := Z1_weakest) (get := getEn (.ref bl))
    (xs := (List.range ds.length).map fun k => MV.tup [.int (k : Nat), (match ds[k]? with | some e => .ref e.pl | none => .non)])
    (f := fun v => match v with | .tup (a :: _) => a | _ => .non)
    (p := fun v => match v with | .tup (.int k :: _) => (match ds[k.toNat]? with | some e => wkB e d | none => false) | _ => false)
    (by rw [List.length_map, List.length_range]; omega)
    (fun i acc hi => by
      rw [getEn_at (app_at qb)]
      congr 1
      by_cases c : i < ds.length
      · rw [List.getElem?_map, List.getElem?_map, List.getElem?_eq_getElem c, List.getElem?_range c]
        simp [List.getElem?_eq_getElem c]
      · rw [List.getElem?_eq_none (by rw [List.length_map]; omega), List.getElem?_eq_none (by rw [List.length_map, List.length_range]; omega)]
        rfl)
    (fun x hx => by
      obtain ⟨k, hk, rfl⟩ := List.mem_map.mp hx
      have hk := List.mem_range.mp hk
      have hk2 : ds[k]? = some ds[k] := List.getElem?_eq_getElem hk
      rw [hk2]
      have hm := List.getElem_mem hk
      generalize ds[k] = e at *
      refine ⟨[some (.ref bl), x1, x2, x3, x4, some (.ref d.pl), x6, x7, some (.int (k : Nat)), some (.ref e.pl)], rfl, fun acc => ?_⟩
      have C1 := cmp_le ((B e hm).app (t := [.lst acc])) ((B d hd).app (t := [.lst acc]))
      have C2 := cmp_eq ((B e hm).app (t := [.lst acc])) ((B d hd).app (t := [.lst acc]))
      generalize H ++ [MO.lst acc] = X at *
      have tn : ((k : Nat) : Int).toNat = k := Int.toNat_natCast k
      constructor
      · show _ = Rz.ok (match ds[((k : Nat) : Int).toNat]? with | some e => wkB e d | none => false) X
        rw [tn, hk2]
        unfold wkB
        cases h1 : leB e d <;> cases h2 : eqB e d <;> rw [h1] at C1 <;> rw [h2] at C2 <;> simp -implicitDefEqProofs [ZT1_weakest, eV, C1, C2, h1, h2]
      · intro _
        simp -implicitDefEqProofs [Z1_weakest, eV])
  rw [List.length_map, List.length_range] at G
  rw [List.length_map, G]
  congr 3
  unfold wkI
  rw [List.filter_map, List.map_map]
  congr 1
  
end
end Lw
namespace Lw
open PySem L2 Mo BF
def BrV (H : MH) (lim : Nat) (names : List Str) (d : BkD) (y : MV) : Prop := (fbP d names = none ∧ y = .non) ∨ ∃ nm r, fbP d names = some nm ∧ y = .tup [.str nm, .ref r] ∧ r < lim ∧ H[r]? = some (.lst ((Pr d nm).map .str))
structure BrOk (H : MH) (br lim : Nat) (ds : List BkD) (names : List Str) (ys : List MV) : Prop where
  q : H[br]? = some (.lst ys)
  lt : br < lim
  l : ys.length = ds.length
  v : ∀ (k : Nat) (d : BkD), ds[k]? = some d → ∃ y, ys[k]? = some y ∧ BrV H lim names d y
section
variable {H : MH} {ds : List BkD} {d e : BkD} {bl br lim : Nat} {names : List Str} {ys : List MV} {k : Nat} {x0 x1 x3 x4 x5 x6 x7 x8 x9 : Option MV}
theorem BrV.app {t : MH} {y : MV} (b : BrV H lim names d y) : BrV (H ++ t) lim names d y := by
  rcases b with q | ⟨nm, r, q1, q2, q3, q4⟩
  · exact .inl q
  · exact .inr ⟨nm, r, q1, q2, q3, app_at q4⟩
theorem BrOk.app {t : MH} (b : BrOk H br lim ds names ys) : BrOk (H ++ t) br lim ds names ys := ⟨app_at b.q, b.lt, b.l, fun k d h => let ⟨y, h1, h2⟩ := b.v k d h; ⟨y, h1, h2.app⟩⟩
theorem BrOk.set {o : MO} (b : BrOk H br lim ds names ys) : BrOk (H.set lim o) br lim ds names ys := by
  refine ⟨by rw [List.getElem?_set_ne (by have := b.lt; omega)]; exact b.q, b.lt, b.l, fun k d h => ?_⟩
  obtain ⟨y, h1, h2⟩ := b.v k d h
  refine ⟨y, h1, ?_⟩
  rcases h2 with q | ⟨nm, r, q1, q2, q3, q4⟩
  · exact .inl q
  · exact .inr ⟨nm, r, q1, q2, q3, by rw [List.getElem?_set_ne (by omega)]; exact q4⟩
theorem BrOk.ix (b : BrOk H br lim ds names ys) (hk : ds[k]? = some d) : ∃ y, fIxA (.ref br) (.int (k : Nat)) H = some (y, H) ∧ BrV H lim names d y := by
  obtain ⟨y, h1, h2⟩ := b.v k d hk
  refine ⟨y, ?_, h2⟩
  rw [fIxA_ev, if_neg (by rw [isDM_lst b.q]; decide), fIx_ref b.q, atI_ofNat, h1]
  rfl
def brkB (ds : List BkD) (names : List Str) (k : Nat) : Bool := match ds[k]? with
  | some d => (fbP d names).isNone
  | none => false
theorem wkI_lt {j : Nat} (h : j ∈ wkI ds d) : j < ds.length := List.mem_range.mp (List.mem_filter.mp h).1
theorem only_eq (b : BrOk H br lim ds names ys) (hl : ds.length < 64) {wp : Nat} (qw : H[wp]? = some (.lst ((wkI ds d).map fun k => .int (k : Nat)))) :
    lcV (gN 8) ZT3_weakest Z3_weakest [x0, x1, some (.ref br), x3, x4, x5, x6, x7, none, x9] (.ref wp) H = .ok (.ref H.length) (H ++ [.lst (((wkI ds d).filter (brkB ds names)).map fun k => .int (k : Nat))]) := by
  have zz : SZ = 16777216 := rfl
  have ll : (wkI ds d).length ≤ ds.length := by
    have := List.length_filter_le (fun k => match ds[k]? with | some e => wkB e d | none => false) (List.range ds.length)
    rw [List.length_range] at this
    exact this
  have G := lcS_run (h := H) (s := [x0, x1, some (.ref br), x3, x4, x5, x6, x7, none, x9]) (g := gN 8) (c := ZT3_weakest) (m := Z3_weakest) (xs := (wkI ds d).map fun k => .int (k : Nat)) (f := id)
    (p := fun v => match v with | .int i => brkB ds names i.toNat | _ => false) (by rw [List.length_map]; omega) qw (fun x hx => by
      obtain ⟨k, hk, rfl⟩ := List.mem_map.mp hx
      have hk := wkI_lt hk
      have hk2 : ds[k]? = some ds[k] := List.getElem?_eq_getElem hk
      refine ⟨[x0, x1, some (.ref br), x3, x4, x5, x6, x7, some (.int (k : Nat)), x9], rfl, fun acc => ?_⟩
      obtain ⟨y, i1, i2⟩ := (b.app (t := [.lst acc])).ix hk2
      have tn : ((k : Nat) : Int).toNat = k := Int.toNat_natCast k
      generalize H ++ [MO.lst acc] = X at *
      constructor
      · show _ = Rz.ok (brkB ds names ((k : Nat) : Int).toNat) X
        rw [tn]
        unfold brkB
        rw [hk2]
        rcases i2 with ⟨q1, rfl⟩ | ⟨nm, r, q1, rfl, _, _⟩
        · simp -implicitDefEqProofs [ZT3_weakest, eV, -fIxA_ev, i1, q1]
        · simp -implicitDefEqProofs [ZT3_weakest, eV, -fIxA_ev, i1, q1]
      · intro _
        simp -implicitDefEqProofs [Z3_weakest, eV])
  rw [G]
  congr 3
  rw [List.map_id, List.filter_map]
  congr 1
def RowV (H : MH) (lim : Nat) (names : List Str) (e : BkD) (y : MV) : Prop := ∃ nm r, fbP e names = some nm ∧ y = .tup [.ref e.pl, .str nm, .ref r] ∧ r < lim ∧ H[r]? = some (.lst ((Pr e nm).map .str))
theorem rows_eq (b : BrOk H br lim ds names ys) (hl : ds.length < 64) (qb : H[bl]? = some (.lst (ds.map fun d => .ref d.pl))) {wp : Nat} (qw : H[wp]? = some (.lst ((wkI ds d).map fun k => .int (k : Nat)))) (no : (wkI ds d).filter (brkB ds names) = []) :
    ∃ rows, lcV (gN 8) bYes Z5_weakest [some (.ref bl), x1, some (.ref br), x3, x4, x5, x6, x7, none, x9] (.ref wp) H = .ok (.ref H.length) (H ++ [.lst rows]) ∧ rows.length = (wkI ds d).length ∧ ∀ (i k : Nat) (e : BkD), (wkI ds d)[i]? = some k → ds[k]? = some e → ∃ y, rows[i]? = some y ∧ RowV H lim names e y := by
  have zz : SZ = 16777216 := rfl
  have ll : (wkI ds d).length ≤ ds.length := by
    have := List.length_filter_le (fun k => match ds[k]? with | some e => wkB e d | none => false) (List.range ds.length)
    rw [List.length_range] at this
    exact this
  have nb : ∀ k ∈ wkI ds d, brkB ds names k = false := fun k hk => by
    have := List.filter_eq_nil_iff.mp no k hk
    simpa using this
  let F : MV → MV := fun v => match v with
    | .int i => (match ds[i.toNat]?, ys[i.toNat]? with
      | some e, some (.tup [a, c]) => .tup [.ref e.pl, a, c]
      | _, _ => .non)
    | _ => .non
  have one : ∀ k ∈ wkI ds d, ∃ e nm r, ds[k]? = some e ∧ fbP e names = some nm ∧ ys[k]? = some (.tup [.str nm, .ref r]) ∧ r < lim ∧ H[r]? = some (.lst ((Pr e nm).map .str)) := fun k hk => by
    have h1 := wkI_lt hk
    have hk2 : ds[k]? = some ds[k] := List.getElem?_eq_getElem h1
    obtain ⟨y, g1, g2⟩ := b.v k _ hk2
    have hb := nb k hk
    unfold brkB at hb
    rw [hk2] at hb
    have hb : (fbP ds[k] names).isNone = false := hb
    rcases g2 with ⟨q1, _⟩ | ⟨nm, r, q1, q2, q3, q4⟩
    · rw [q1] at hb; cases hb
    · exact ⟨_, nm, r, hk2, q1, by rw [g1, q2], q3, q4⟩
  have G := lcS_run (h := H) (s := [some (.ref bl), x1, some (.ref br), x3, x4, x5, x6, x7, none, x9]) (g := gN 8) (c := bYes) (m := Z5_weakest) (xs := (wkI ds d).map fun k => .int (k : Nat)) (f := F) (p := fun _ => true)
    (by rw [List.length_map]; omega) qw (fun x hx => by
      obtain ⟨k, hk, rfl⟩ := List.mem_map.mp hx
      obtain ⟨e, nm, r, o1, o2, o3, o4, o5⟩ := one k hk
      refine ⟨[some (.ref bl), x1, some (.ref br), x3, x4, x5, x6, x7, some (.int (k : Nat)), x9], rfl, fun acc => ⟨rfl, fun _ => ?_⟩⟩
      have tn : ((k : Nat) : Int).toNat = k := Int.toNat_natCast k
      have qy := (b.app (t := [.lst acc])).q
      have i1 : fIxA (.ref br) (.int (k : Nat)) (H ++ [.lst acc]) = some (.tup [.str nm, .ref r], H ++ [.lst acc]) := by
        rw [fIxA_ev, if_neg (by rw [isDM_lst qy]; decide), fIx_ref qy, atI_ofNat, o3]; rfl
      have qb' := app_at (t := [MO.lst acc]) qb
      have i2 : fIxA (.ref bl) (.int (k : Nat)) (H ++ [.lst acc]) = some (.ref e.pl, H ++ [.lst acc]) := by
        rw [fIxA_ev, if_neg (by rw [isDM_lst qb']; decide), fIx_ref qb', atI_ofNat, List.getElem?_map, o1]; rfl
      have i3 : fIxA (.tup [.str nm, .ref r]) (.int 0) (H ++ [.lst acc]) = some (.str nm, H ++ [.lst acc]) := rfl
      have i4 : fIxA (.tup [.str nm, .ref r]) (.int 1) (H ++ [.lst acc]) = some (.ref r, H ++ [.lst acc]) := rfl
      have z3 : 3 ≤ SZ := by decide
      have hF : F (.int (k : Nat)) = .tup [.ref e.pl, .str nm, .ref r] := by
        show (match ds[((k : Nat) : Int).toNat]?, ys[((k : Nat) : Int).toNat]? with | some e, some (.tup [a, c]) => MV.tup [.ref e.pl, a, c] | _, _ => .non) = _
        rw [tn, o1, o3]
      rw [hF]
      clear_value F
      generalize H ++ [MO.lst acc] = X at *
      simp -implicitDefEqProofs [Z5_weakest, eV, -fIxA_ev, i1, i2, i3, i4, z3])
  rw [List.filter_eq_self.mpr fun _ _ => rfl, List.map_map] at G
  refine ⟨_, G, by rw [List.length_map], fun i k e hi he => ?_⟩
  obtain ⟨e', nm, r, o1, o2, o3, o4, o5⟩ := one k (List.mem_of_getElem? hi)
  rw [he] at o1
  cases o1
  have tn : ((k : Nat) : Int).toNat = k := Int.toNat_natCast k
  refine ⟨.tup [.ref e.pl, .str nm, .ref r], ?_, nm, r, o2, rfl, o4, o5⟩
  rw [List.getElem?_map, hi]
  show some (match ds[((k : Nat) : Int).toNat]?, ys[((k : Nat) : Int).toNat]? with | some e, some (.tup [a, c]) => MV.tup [.ref e.pl, a, c] | _, _ => .non) = _
  rw [tn, he, o3]
end
end Lw
namespace Lw
open PySem L2 Mo BF
def keptB (ds : List BkD) (names : List Str) (k : Nat) : Bool := match ds[k]? with
  | some d => (fbP d names).isNone && decide ((wkI ds d).filter (brkB ds names) = [])
  | none => false
def RowsOk (H : MH) (fo : Nat) (names : List Str) (ds : List BkD) (d : BkD) (rw : Nat) : Prop := ∃ rows, H[rw]? = some (.lst rows) ∧ rows.length = (wkI ds d).length ∧ ∀ (i k : Nat) (e : BkD), (wkI ds d)[i]? = some k → ds[k]? = some e → ∃ y, rows[i]? = some y ∧ RowV H fo names e y
theorem seqCt {x y : MS} {s s1 : Lo} {h h1 : MH} (e : x s h = .ct s1 h1) : sSeq x y s h = .ct s1 h1 := by
  unfold sSeq
  rw [e]
section
variable {H : MH} {ds : List BkD} {d : BkD} {bl br fo k : Nat} {names : List Str} {ys zs : List MV} {x1 x6 x7 : Option MV}
theorem wk_turn (Bs : ∀ d ∈ ds, BookP H d) (b : BrOk H br fo ds names ys) (qb : H[bl]? = some (.lst (ds.map fun d => .ref d.pl))) (qf : H[fo]? = some (.lst zs)) (hz : zs.length < 64) (hk : ds[k]? = some d) (hl : ds.length < 64) :
    (keptB ds names k = false ∧ ∃ y6 y7 g, L0_weakest [some (.ref bl), x1, some (.ref br), some (.ref fo), some (.int (k : Nat)), some (.ref d.pl), x6, x7, none, none] H = .ct [some (.ref bl), x1, some (.ref br), some (.ref fo), some (.int (k : Nat)), some (.ref d.pl), y6, y7, none, none] (H ++ g)) ∨
    (keptB ds names k = true ∧ ∃ y6 y7 g rw, L0_weakest [some (.ref bl), x1, some (.ref br), some (.ref fo), some (.int (k : Nat)), some (.ref d.pl), x6, x7, none, none] H = .nx [some (.ref bl), x1, some (.ref br), some (.ref fo), some (.int (k : Nat)), some (.ref d.pl), y6, y7, none, none] ((H ++ g).set fo (.lst (zs ++ [.tup [.ref d.pl, .ref rw]]))) ∧ H.length ≤ rw ∧ RowsOk (H ++ g) fo names ds d rw) := by
  have zz : SZ = 16777216 := rfl
  have z0 : 0 ≤ SZ := by decide
  have z2 : 2 ≤ SZ := by decide
  have hm := List.mem_of_getElem? hk
  have W := weaker_eq (x1 := x1) (x2 := some (.ref br)) (x3 := some (.ref fo)) (x4 := some (.int (k : Nat))) (x6 := x6) (x7 := x7) (x8 := none) (x9 := none) Bs hm qb hl
  have s0 : (sAsg (eLcE (eV 0) (gT [8, 9]) (ZT1_weakest) Z1_weakest [8, 9]) (gN 6)) [some (.ref bl), x1, some (.ref br), some (.ref fo), some (.int (k : Nat)), some (.ref d.pl), x6, x7, none, none] H = .nx [some (.ref bl), x1, some (.ref br), some (.ref fo), some (.int (k : Nat)), some (.ref d.pl), some (.ref H.length), x7, none, none] (H ++ [.lst ((wkI ds d).map fun k => .int (k : Nat))]) := by
    generalize eLcE (eV 0) (gT [8, 9]) ZT1_weakest Z1_weakest [8, 9] = E at *
    simp -implicitDefEqProofs [W]
  have qw : (H ++ [MO.lst ((wkI ds d).map fun k => .int (k : Nat))])[H.length]? = some (.lst ((wkI ds d).map fun k => .int (k : Nat))) := at_app0
  have b1 := b.app (t := [.lst ((wkI ds d).map fun k => .int (k : Nat))])
  have qb1 := app_at (t := [MO.lst ((wkI ds d).map fun k => .int (k : Nat))]) qb
  have qf1 := app_at (t := [MO.lst ((wkI ds d).map fun k => .int (k : Nat))]) qf
  obtain ⟨T1, hT1⟩ : ∃ T, H ++ [MO.lst ((wkI ds d).map fun k => .int (k : Nat))] = H ++ T := ⟨_, rfl⟩
  have le1 : H.length ≤ (H ++ [MO.lst ((wkI ds d).map fun k => .int (k : Nat))]).length := by simp
  generalize hW : H.length = wp at *
  clear W
  generalize H ++ [MO.lst ((wkI ds d).map fun k => .int (k : Nat))] = H1 at *
  obtain ⟨y, i1, i2⟩ := b1.ix hk
  have kb : keptB ds names k = ((fbP d names).isNone && decide ((wkI ds d).filter (brkB ds names) = [])) := by
    unfold keptB
    rw [hk]
  rcases i2 with ⟨q1, rfl⟩ | ⟨nm, r, q1, rfl, _, _⟩
  · have LC := only_eq (x0 := some (.ref bl)) (x1 := x1) (x3 := some (.ref fo)) (x4 := some (.int (k : Nat))) (x5 := some (.ref d.pl)) (x6 := some (.ref wp)) (x7 := x7) (x9 := none) (d := d) b1 hl qw
    have MM : mRc (H1 ++ [.lst (((wkI ds d).filter (brkB ds names)).map fun k => .int (k : Nat))] ++ [.lst []]) (.ref H1.length) (.ref (H1.length + 1)) = some (decide ((wkI ds d).filter (brkB ds names) = [])) := by
      rw [mRc_ll (app_at at_app0) (by rw [show H1.length + 1 = (H1 ++ [MO.lst (((wkI ds d).filter (brkB ds names)).map fun k => .int (k : Nat))]).length from by simp]; exact at_app0)]
      cases (wkI ds d).filter (brkB ds names) with
      | nil => rfl
      | cons a as => simp
    have hX' : H1 ++ [MO.lst (((wkI ds d).filter (brkB ds names)).map fun k => .int (k : Nat)), .lst []] = H1 ++ [MO.lst (((wkI ds d).filter (brkB ds names)).map fun k => .int (k : Nat))] ++ [.lst []] := by simp
    have b2 := (b1.app (t := [MO.lst (((wkI ds d).filter (brkB ds names)).map fun k => .int (k : Nat))])).app (t := [.lst []])
    have qb2 := app_at (t := [MO.lst []]) (app_at (t := [MO.lst (((wkI ds d).filter (brkB ds names)).map fun k => .int (k : Nat))]) qb1)
    have qf2 := app_at (t := [MO.lst []]) (app_at (t := [MO.lst (((wkI ds d).filter (brkB ds names)).map fun k => .int (k : Nat))]) qf1)
    have qw2 := app_at (t := [MO.lst []]) (app_at (t := [MO.lst (((wkI ds d).filter (brkB ds names)).map fun k => .int (k : Nat))]) qw)
    obtain ⟨T2, hT2⟩ : ∃ T, H1 ++ [MO.lst (((wkI ds d).filter (brkB ds names)).map fun k => .int (k : Nat))] ++ [.lst []] = H ++ T := ⟨_, by rw [hT1, List.append_assoc, List.append_assoc]⟩
    have le2 : wp ≤ (H1 ++ [MO.lst (((wkI ds d).filter (brkB ds names)).map fun k => .int (k : Nat))] ++ [MO.lst []]).length := by simp; omega
    generalize hX : H1 ++ [MO.lst (((wkI ds d).filter (brkB ds names)).map fun k => .int (k : Nat))] ++ [.lst []] = X at *
    by_cases c : (wkI ds d).filter (brkB ds names) = []
    · right
      rw [decide_eq_true c] at MM
      refine ⟨by rw [kb, q1, decide_eq_true c]; rfl, ?_⟩
      have s1 : (sIf (bOr (bB (e2 fNotN (e2 fIxA (eV 2) (eV 4)) (eC .non))) (bB (e2 fNe (eLc (eV 6) (gN 8) (ZT3_weakest) Z3_weakest [8]) (eA fLst (aNil))))) (sCnt) (sNx)) [some (.ref bl), x1, some (.ref br), some (.ref fo), some (.int (k : Nat)), some (.ref d.pl), some (.ref wp), x7, none, none] H1 = .nx [some (.ref bl), x1, some (.ref br), some (.ref fo), some (.int (k : Nat)), some (.ref d.pl), some (.ref wp), x7, none, none] X := by
        simp -implicitDefEqProofs [eV, -fIxA_ev, i1, eLc_ev, KCo_ok, wipeM, LC, z0, hX', MM]
      obtain ⟨rows, LR, r1, r2⟩ := rows_eq (x1 := x1) (x3 := some (.ref fo)) (x4 := some (.int (k : Nat))) (x5 := some (.ref d.pl)) (x6 := some (.ref wp)) (x7 := x7) (x9 := none) b2 hl qb2 qw2 c
      have s2 : (sAsg (eLc (eV 6) (gN 8) (bYes) Z5_weakest [8]) (gN 7)) [some (.ref bl), x1, some (.ref br), some (.ref fo), some (.int (k : Nat)), some (.ref d.pl), some (.ref wp), x7, none, none] X = .nx [some (.ref bl), x1, some (.ref br), some (.ref fo), some (.int (k : Nat)), some (.ref d.pl), some (.ref wp), some (.ref X.length), none, none] (X ++ [.lst rows]) := by
        simp -implicitDefEqProofs [eV, eLc_ev, KCo_ok, wipeM, LR]
      have ap : fAppend (.ref fo) [.tup [.ref d.pl, .ref X.length]] (X ++ [.lst rows]) = some (.non, (X ++ [MO.lst rows]).set fo (MO.lst (zs ++ [MV.tup [.ref d.pl, .ref X.length]]))) := fAppend_ref (app_at (t := [MO.lst rows]) qf2) (by omega)
      have il := isL_ref (app_at (t := [MO.lst rows]) qf2)
      have s3 : (sExp (eMt isL fAppend (eV 3) (aCons (eA fTup (aCons (eV 5) (aCons (eV 7) (aNil)))) (aNil)))) [some (.ref bl), x1, some (.ref br), some (.ref fo), some (.int (k : Nat)), some (.ref d.pl), some (.ref wp), some (.ref X.length), none, none] (X ++ [.lst rows]) = .nx [some (.ref bl), x1, some (.ref br), some (.ref fo), some (.int (k : Nat)), some (.ref d.pl), some (.ref wp), some (.ref X.length), none, none] ((X ++ [MO.lst rows]).set fo (MO.lst (zs ++ [MV.tup [.ref d.pl, .ref X.length]]))) := by
        generalize (X ++ [MO.lst rows]).set fo (MO.lst (zs ++ [MV.tup [.ref d.pl, .ref X.length]])) = X2 at *
        generalize X ++ [MO.lst rows] = X1 at *
        simp -implicitDefEqProofs [eV, z2, il, ap]
      refine ⟨some (.ref wp), some (.ref X.length), T2 ++ [.lst rows], X.length, ?_, le2, rows, ?_, r1, fun i k e h1 h2 => ?_⟩
      · unfold L0_weakest
        rw [seqN s0, seqN s1, seqN s2, s3, hT2, List.append_assoc]
      · rw [← List.append_assoc, ← hT2]; exact at_app0
      · obtain ⟨y, g1, nm, r, g2, g3, g4, g5⟩ := r2 i k e h1 h2
        exact ⟨y, g1, nm, r, g2, g3, g4, by rw [← List.append_assoc, ← hT2]; exact app_at g5⟩
    · left
      rw [decide_eq_false c] at MM
      refine ⟨by rw [kb, q1, decide_eq_false c]; rfl, some (.ref wp), x7, T2, ?_⟩
      have s1 : (sIf (bOr (bB (e2 fNotN (e2 fIxA (eV 2) (eV 4)) (eC .non))) (bB (e2 fNe (eLc (eV 6) (gN 8) (ZT3_weakest) Z3_weakest [8]) (eA fLst (aNil))))) (sCnt) (sNx)) [some (.ref bl), x1, some (.ref br), some (.ref fo), some (.int (k : Nat)), some (.ref d.pl), some (.ref wp), x7, none, none] H1 = .ct [some (.ref bl), x1, some (.ref br), some (.ref fo), some (.int (k : Nat)), some (.ref d.pl), some (.ref wp), x7, none, none] X := by
        simp -implicitDefEqProofs [eV, -fIxA_ev, i1, eLc_ev, KCo_ok, wipeM, LC, z0, hX', MM]
      unfold L0_weakest
      rw [seqN s0, seqCt s1, hT2]
  · left
    refine ⟨by rw [kb, q1]; rfl, some (.ref wp), x7, T1, ?_⟩
    have s1 : (sIf (bOr (bB (e2 fNotN (e2 fIxA (eV 2) (eV 4)) (eC .non))) (bB (e2 fNe (eLc (eV 6) (gN 8) (ZT3_weakest) Z3_weakest [8]) (eA fLst (aNil))))) (sCnt) (sNx)) [some (.ref bl), x1, some (.ref br), some (.ref fo), some (.int (k : Nat)), some (.ref d.pl), some (.ref wp), x7, none, none] H1 = .ct [some (.ref bl), x1, some (.ref br), some (.ref fo), some (.int (k : Nat)), some (.ref d.pl), some (.ref wp), x7, none, none] H1 := by
      simp -implicitDefEqProofs [eV, -fIxA_ev, i1]
    unfold L0_weakest
    rw [seqN s0, seqCt s1, hT1]
end
end Lw
namespace Lw
open PySem L2 Mo BF
def kepts (ds : List BkD) (names : List Str) (t : Nat) : List Nat := (List.range t).filter (keptB ds names)
structure FdOk (H : MH) (fo : Nat) (names : List Str) (ds : List BkD) (K : List Nat) (zs : List MV) : Prop where
  q : H[fo]? = some (.lst zs)
  l : zs.length = K.length
  v : ∀ (i k : Nat) (d : BkD), K[i]? = some k → ds[k]? = some d → ∃ rw, zs[i]? = some (.tup [.ref d.pl, .ref rw]) ∧ rw ≠ fo ∧ RowsOk H fo names ds d rw
section
variable {H : MH} {ds : List BkD} {d : BkD} {bl nl br fo k rw : Nat} {names : List Str} {ys zs : List MV} {K : List Nat}
theorem RowsOk.app {t : MH} (r : RowsOk H fo names ds d rw) : RowsOk (H ++ t) fo names ds d rw := by
  obtain ⟨rows, h1, h2, h3⟩ := r
  refine ⟨rows, app_at h1, h2, fun i k e g1 g2 => ?_⟩
  obtain ⟨y, a1, nm, r, a2, a3, a4, a5⟩ := h3 i k e g1 g2
  exact ⟨y, a1, nm, r, a2, a3, a4, app_at a5⟩
theorem RowsOk.set {o : MO} (ne : rw ≠ fo) (r : RowsOk H fo names ds d rw) : RowsOk (H.set fo o) fo names ds d rw := by
  obtain ⟨rows, h1, h2, h3⟩ := r
  refine ⟨rows, by rw [List.getElem?_set_ne (Ne.symm ne)]; exact h1, h2, fun i k e g1 g2 => ?_⟩
  obtain ⟨y, a1, nm, r, a2, a3, a4, a5⟩ := h3 i k e g1 g2
  exact ⟨y, a1, nm, r, a2, a3, a4, by rw [List.getElem?_set_ne (by omega)]; exact a5⟩
theorem FdOk.app {t : MH} (f : FdOk H fo names ds K zs) : FdOk (H ++ t) fo names ds K zs := ⟨app_at f.q, f.l, fun i k d h1 h2 => let ⟨rw, g1, g2, g3⟩ := f.v i k d h1 h2; ⟨rw, g1, g2, g3.app⟩⟩
theorem FdOk.snoc (f : FdOk H fo names ds K zs) (hk : ds[k]? = some d) (ne : rw ≠ fo) (r : RowsOk H fo names ds d rw) : FdOk (H.set fo (.lst (zs ++ [.tup [.ref d.pl, .ref rw]]))) fo names ds (K ++ [k]) (zs ++ [.tup [.ref d.pl, .ref rw]]) := by
  refine ⟨List.getElem?_set_self (List.getElem?_eq_some_iff.mp f.q).1, by simp [f.l], fun i k' d' h1 h2 => ?_⟩
  by_cases c : i < K.length
  · rw [List.getElem?_append_left c] at h1
    obtain ⟨rw', g1, g2, g3⟩ := f.v i k' d' h1 h2
    exact ⟨rw', by rw [List.getElem?_append_left (by rw [f.l]; exact c)]; exact g1, g2, g3.set g2⟩
  · rw [List.getElem?_append_right (by omega)] at h1
    have c2 : i - K.length = 0 := by
      have := (List.getElem?_eq_some_iff.mp h1).1
      simp at this
      omega
    rw [c2] at h1
    cases h1
    rw [hk] at h2
    cases h2
    refine ⟨rw, ?_, ne, r.set ne⟩
    rw [List.getElem?_append_right (by rw [f.l]; omega), f.l, c2]
    rfl
theorem kepts_succ {t : Nat} : kepts ds names (t + 1) = if keptB ds names t = true then kepts ds names t ++ [t] else kepts ds names t := by
  unfold kepts
  rw [List.range_succ, List.filter_append]
  by_cases c : keptB ds names t = true
  · rw [if_pos c]; simp [c]
  · rw [if_neg c]; simp [c]
theorem kepts_le {t : Nat} : (kepts ds names t).length ≤ t := by
  have := List.length_filter_le (keptB ds names) (List.range t)
  rw [List.length_range] at this
  exact this
theorem weakest_eq (hn : ∀ nm ∈ names, isNm nm) (Bs : ∀ d ∈ ds, BookP H d) (qb : H[bl]? = some (.lst (ds.map fun d => .ref d.pl))) (qn : H[nl]? = some (.lst (names.map .str))) (hl : ds.length < 64) :
    ∃ told fo zs g, m_weakest [.ref bl, .ref nl] H = .ok (.ref told) (H ++ g) ∧ (H ++ g)[told]? = some (.lst zs) ∧ zs.length = (kepts ds names ds.length).length ∧
      ∀ (i k : Nat) (d : BkD), (kepts ds names ds.length)[i]? = some k → ds[k]? = some d → ∃ rw, zs[i]? = some (.tup [.ref d.pl, .ref rw]) ∧ RowsOk (H ++ g) fo names ds d rw := by
  have zz : SZ = 16777216 := rfl
  have z0 : 0 ≤ SZ := by decide
  obtain ⟨ys, T, LC, l1, v1⟩ := broken_eq (x2 := none) (x3 := none) (x4 := none) (x6 := none) (x7 := none) (x8 := none) (x9 := none) hn Bs qb qn hl
  have s0 : (sAsg (eLc (eV 0) (gN 5) (bYes) Z0_weakest [5]) (gN 2)) [some (.ref bl), some (.ref nl), none, none, none, none, none, none, none, none] H = .nx [some (.ref bl), some (.ref nl), some (.ref H.length), none, none, none, none, none, none, none] (H ++ .lst ys :: T) := by
    simp -implicitDefEqProofs [eV, eLc_ev, KCo_ok, wipeM, LC]
  have s1 : (sAsg (eA fLst (aNil)) (gN 3)) [some (.ref bl), some (.ref nl), some (.ref H.length), none, none, none, none, none, none, none] (H ++ .lst ys :: T) = .nx [some (.ref bl), some (.ref nl), some (.ref H.length), some (.ref (H ++ .lst ys :: T).length), none, none, none, none, none, none] (H ++ .lst ys :: T ++ [.lst []]) := by
    generalize H ++ MO.lst ys :: T = X at *
    simp -implicitDefEqProofs [z0]
  have lf : H.length < (H ++ MO.lst ys :: T).length := by simp
  have b0 : BrOk (H ++ .lst ys :: T ++ [.lst []]) H.length (H ++ MO.lst ys :: T).length ds names ys := by
    refine ⟨app_at (by rw [List.getElem?_append_right (Nat.le_refl _), Nat.sub_self]; rfl), lf, l1, fun k d hk => ?_⟩
    have hk' : k < ys.length := by rw [l1]; exact (List.getElem?_eq_some_iff.mp hk).1
    have e := List.getElem?_eq_getElem hk'
    refine ⟨ys[k], e, ?_⟩
    rcases v1 k _ e d hk with q | ⟨nm, r, q1, q2, q3, q4⟩
    · exact .inl q
    · exact .inr ⟨nm, r, q1, q2, (List.getElem?_eq_some_iff.mp (q4 ys)).1, app_at (q4 ys)⟩
  have f0 : FdOk (H ++ .lst ys :: T ++ [.lst []]) (H ++ MO.lst ys :: T).length names ds (kepts ds names 0) [] := ⟨at_app0, rfl, fun i k d h => by simp [kepts] at h⟩
  obtain ⟨g0, hg0⟩ : ∃ g, H ++ MO.lst ys :: T ++ [.lst []] = H ++ g := ⟨_, List.append_assoc _ _ _⟩
  generalize (H ++ MO.lst ys :: T).length = fo at *
  rw [hg0] at s1 b0 f0
  have lp : ∃ y4 y5 y6 y7 zs g, forG (getEn (.ref bl)) (gT [4, 5]) L0_weakest ((ds.map fun d => MV.ref d.pl).length + 1) 0 [some (.ref bl), some (.ref nl), some (.ref H.length), some (.ref fo), none, none, none, none, none, none] (H ++ g0) = .nx [some (.ref bl), some (.ref nl), some (.ref H.length), some (.ref fo), y4, y5, y6, y7, none, none] (H ++ g) ∧ FdOk (H ++ g) fo names ds (kepts ds names ds.length) zs := by
    refine forG_inv (N := ds.length) (fun t s h' => ∃ y4 y5 y6 y7 zs g, s = [some (.ref bl), some (.ref nl), some (.ref H.length), some (.ref fo), y4, y5, y6, y7, none, none] ∧ h' = H ++ g ∧ BrOk (H ++ g) H.length fo ds names ys ∧ FdOk (H ++ g) fo names ds (kepts ds names t) zs)
      (fun r => ∃ y4 y5 y6 y7 zs g, r = .nx [some (.ref bl), some (.ref nl), some (.ref H.length), some (.ref fo), y4, y5, y6, y7, none, none] (H ++ g) ∧ FdOk (H ++ g) fo names ds (kepts ds names ds.length) zs) ?_ ?_ (ds.map fun d => MV.ref d.pl).length 0 _ _ (by simp) ⟨none, none, none, none, [], g0, rfl, rfl, b0, f0⟩
    · rintro s h' ⟨y4, y5, y6, y7, zs, g, rfl, rfl, _, f⟩
      refine ⟨?_, y4, y5, y6, y7, zs, g, rfl, f⟩
      rw [getEn_at (app_at qb), List.getElem?_eq_none (by rw [List.length_map]; omega)]
      rfl
    · rintro t s h' ht ⟨y4, y5, y6, y7, zs, g, rfl, rfl, b, f⟩
      have hk : ds[t]? = some ds[t] := List.getElem?_eq_getElem ht
      refine ⟨.tup [.int (t : Nat), .ref ds[t].pl], [some (.ref bl), some (.ref nl), some (.ref H.length), some (.ref fo), some (.int (t : Nat)), some (.ref ds[t].pl), y6, y7, none, none], ?_, rfl, ?_⟩
      · rw [getEn_at (app_at qb), List.getElem?_map, hk]
        rfl
      · rcases wk_turn (x1 := some (.ref nl)) (x6 := y6) (x7 := y7) (fun d hd => (Bs d hd).app (t := g)) b (app_at qb) f.q (by rw [f.l]; have := kepts_le (ds := ds) (names := names) (t := t); omega) hk hl with ⟨kb, z6, z7, g2, E⟩ | ⟨kb, z6, z7, g2, rw1, E, le, r⟩
        · rw [E, turn_ct]
          refine ⟨_, _, _, _, zs, g ++ g2, rfl, by rw [List.append_assoc], by rw [← List.append_assoc]; exact b.app, ?_⟩
          rw [kepts_succ, if_neg (by rw [kb]; decide), ← List.append_assoc]
          exact f.app
        · rw [E, turn_nx]
          have ltf : H.length < fo := b.lt
          have fl : fo < (H ++ g).length := (List.getElem?_eq_some_iff.mp f.q).1
          have es : ((H ++ g) ++ g2).set fo (.lst (zs ++ [.tup [.ref ds[t].pl, .ref rw1]])) = H ++ (g ++ g2).set (fo - H.length) (.lst (zs ++ [.tup [.ref ds[t].pl, .ref rw1]])) := by
            rw [List.append_assoc, List.set_append_right _ _ (by omega)]
          refine ⟨_, _, _, _, zs ++ [.tup [.ref ds[t].pl, .ref rw1]], (g ++ g2).set (fo - H.length) (.lst (zs ++ [.tup [.ref ds[t].pl, .ref rw1]])), rfl, es, by rw [← es]; exact (b.app).set, ?_⟩
          rw [kepts_succ, if_pos kb, ← es]
          exact (f.app).snoc hk (by omega) r
  obtain ⟨y4, y5, y6, y7, zs, g, lp, f⟩ := lp
  have s2 : (sForE (eV 0) (gT [4, 5]) (L0_weakest)) [some (.ref bl), some (.ref nl), some (.ref H.length), some (.ref fo), none, none, none, none, none, none] (H ++ g0) = .nx [some (.ref bl), some (.ref nl), some (.ref H.length), some (.ref fo), y4, y5, y6, y7, none, none] (H ++ g) := by
    have ev : (eV 0) [some (.ref bl), some (.ref nl), some (.ref H.length), some (.ref fo), none, none, none, none, none, none] (H ++ g0) = .ok (.ref bl) (H ++ g0) := by simp [eV]
    rw [sForE_at ev (app_at qb), lp]
  have ex : (mDef 10 b_weakest) [.ref bl, .ref nl] H = .ok (.ref fo) (H ++ g) := by
    have e1 : (mDef 10 b_weakest) [.ref bl, .ref nl] H = KD (b_weakest [some (.ref bl), some (.ref nl), none, none, none, none, none, none, none, none] H) := by
      simp -implicitDefEqProofs [mDef_ev]
    rw [e1]
    unfold b_weakest
    rw [hg0] at *
    rw [seqN s0, seqN s1, seqN s2]
    simp -implicitDefEqProofs [eV]
  have ltf : H.length < fo := b0.lt
  have ek : g[fo - H.length]? = some (.lst zs) := by
    have := f.q
    rw [List.getElem?_append_right (by omega)] at this
    exact this
  have ef : fo = H.length + (fo - H.length) := by omega
  cases hz : norefO (.lst zs) with
  | false =>
    refine ⟨fo, fo, zs, g, ?_, f.q, f.l, fun i k d h1 h2 => let ⟨rw, g1, _, g3⟩ := f.v i k d h1 h2; ⟨rw, g1, g3⟩⟩
    rw [ef] at ex ⊢
    exact gc_keep ex ek hz
  | true =>
    have nz : zs = [] := by
      cases hc : kepts ds names ds.length with
      | nil => exact List.eq_nil_of_length_eq_zero (by rw [f.l, hc]; rfl)
      | cons k ks =>
        have hm : k ∈ kepts ds names ds.length := by rw [hc]; simp
        have hk := List.mem_range.mp (List.mem_filter.mp hm).1
        obtain ⟨rw, g1, _, _⟩ := f.v 0 k ds[k] (by rw [hc]; rfl) (List.getElem?_eq_getElem hk)
        match zs, g1, hz with
        | z :: zs', g1, hz =>
          cases g1
          simp [norefO, norefs, noref] at hz
    refine ⟨H.length, fo, [], [.lst []], ?_, at_app0, by rw [← f.l, nz], fun i k d h1 h2 => ?_⟩
    · have := gc_newE (f := mDef 10 b_weakest) (xs := [.ref bl, .ref nl]) (h := H) (o := .lst zs) ⟨fo - H.length, g, by rw [← ef]; exact ex, ek⟩ hz
      rw [nz] at this
      exact this
    · have := (List.getElem?_eq_some_iff.mp h1).1
      rw [← f.l, nz] at this
      cases this
end
end Lw
namespace Lw
open PySem L2 Mo BF
def WL (H : MH) (a : Nat) (s m o k : Str) : Prop := H[a]? = some (.lst [.str s, .str m, .str o, .str k]) ∧ okW s m o k
theorem mixW0 {s1 m1 o1 k1 s2 m2 o2 k2 : Str} (a : okW s1 m1 o1 k1) (b : okW s2 m2 o2 k2) : okW s2 m1 o1 k1 := ⟨b.1, a.2.1, a.2.2.1, a.2.2.2⟩
theorem mixW1 {s1 m1 o1 k1 s2 m2 o2 k2 : Str} (a : okW s1 m1 o1 k1) (b : okW s2 m2 o2 k2) : okW s1 m2 o1 k1 := ⟨a.1, b.2.1, a.2.2.1, a.2.2.2⟩
theorem mixW2 {s1 m1 o1 k1 s2 m2 o2 k2 : Str} (a : okW s1 m1 o1 k1) (b : okW s2 m2 o2 k2) : okW s1 m1 o2 k1 := ⟨a.1, a.2.1, b.2.2.1, a.2.2.2⟩
theorem mixW3 {s1 m1 o1 k1 s2 m2 o2 k2 : Str} (a : okW s1 m1 o1 k1) (b : okW s2 m2 o2 k2) : okW s1 m1 o1 k2 := ⟨a.1, a.2.1, a.2.2.1, b.2.2.2⟩
end Lw
namespace Lw
open PySem L2 Mo BF
theorem WL.app {H t : MH} {a : Nat} {s m o k : Str} (w : WL H a s m o k) : WL (H ++ t) a s m o k := ⟨app_at w.1, w.2⟩
theorem WL.ix {H : MH} {a : Nat} {s m o k : Str} (w : WL H a s m o k) : fIxA (.ref a) (.int 0) H = some (.str s, H) ∧ fIxA (.ref a) (.int 1) H = some (.str m, H) ∧ fIxA (.ref a) (.int 2) H = some (.str o, H) ∧ fIxA (.ref a) (.int 3) H = some (.str k, H) := by
  have d : isDM (.ref a) H = false := isDM_lst w.1
  refine ⟨?_, ?_, ?_, ?_⟩ <;> · rw [fIxA_ev, if_neg (by rw [d]; decide), fIx_ref w.1]; rfl
theorem form_eq {H : MH} {a b c : Nat} {s1 m1 o1 k1 s2 m2 o2 k2 s3 m3 o3 k3 : Str} (w1 : WL H a s1 m1 o1 k1) (w2 : WL H b s2 m2 o2 k2) (w3 : WL H c s3 m3 o3 k3) (nm : Str) (hnm : isNm nm) :
    m__law_form [.str nm, .ref a, .ref b, .ref c] H = .ok (.bl (formP nm k1 m1 o1 o2 s2 o3 s3)) H := by
  refine gc_okE ?_ rfl
  obtain ⟨x0, x1, x2, x3⟩ := w1.ix
  obtain ⟨y0, y1, y2, y3⟩ := w2.ix
  obtain ⟨z0, z1, z2, z3⟩ := w3.ix
  have q : ∀ a b : Str, (a == b) = decide (a = b) := fun a b => by by_cases h : a = b <;> simp [h]
  rcases hnm with rfl | rfl | rfl | rfl | rfl
  · by_cases ca : s2 = "all" ∧ s3 = "all" ∨ m1 = "back"
    · have e1 := mRc_strs (h := H ++ [.lst [.str o1, .str o2, .str o3], .lst [.str "wait", .str "wait", .str "wait"]]) (i := H.length) (j := H.length + 1) (a := [o1, o2, o3]) (b := ["wait", "wait", "wait"]) (by simp [at_app0]) (by simp [at_app])
      have e2 : formP "single" k1 m1 o1 o2 s2 o3 s3 = decide (([o1, o2, o3] : List Str) = (["wait", "wait", "wait"] : List Str)) := by
        have : (decide (m1 = Str.ofString "back") || decide (s2 = Str.ofString "all") && decide (s3 = Str.ofString "all")) = true := by
          rcases ca with ⟨h1, h2⟩ | h1
          · simp [h1, h2]
          · simp [h1]
        simp [formP, this]
      rw [e2]
      refine ⟨[.lst [.str o1, .str o2, .str o3], .lst [.str "wait", .str "wait", .str "wait"]], ?_⟩
      rcases ca with ⟨h1, h2⟩ | h1
      · by_cases hb : m1 = "back" <;> simp -implicitDefEqProofs [mDef_ev, b__law_form, eV, SZ, -fIxA_ev, x0, x1, x2, x3, y0, y2, z0, z2, h1, h2, hb, e1]
      · by_cases h2 : s2 = "all" <;> by_cases h3 : s3 = "all" <;> simp -implicitDefEqProofs [mDef_ev, b__law_form, eV, SZ, -fIxA_ev, x0, x1, x2, x3, y0, y2, z0, z2, h1, h2, h3, e1]
    · have h1 : ¬ m1 = "back" := fun z => ca (.inr z)
      refine ⟨[], ?_⟩
      by_cases h2 : s2 = "all"
      · have h3 : ¬ s3 = "all" := fun z => ca (.inl ⟨h2, z⟩)
        simp -implicitDefEqProofs [mDef_ev, b__law_form, eV, SZ, -fIxA_ev, x0, x1, x2, x3, y0, y2, z0, z2, h1, h2, h3, formP]
      · simp -implicitDefEqProofs [mDef_ev, b__law_form, eV, SZ, -fIxA_ev, x0, x1, x2, x3, y0, y2, z0, z2, h1, h2, formP]
  all_goals
    refine ⟨[], ?_⟩
    by_cases h1 : m1 = "back" <;> by_cases h2 : s2 = "all" <;> by_cases h3 : s3 = "all" <;> by_cases h4 : k1 = "owner" <;> by_cases h5 : k1 = "given" <;> by_cases h6 : s2 = "asked" <;> by_cases h7 : s3 = "asked" <;>
      simp -implicitDefEqProofs [mDef_ev, b__law_form, eV, SZ, -fIxA_ev, x0, x1, x2, x3, y0, z0, h1, h2, h3, h4, h5, h6, h7, formP]
theorem ix2 {H : MH} {x a b : Nat} (h : H[x]? = some (.lst [.ref a, .ref b])) : fIxA (.ref x) (.int 0) H = some (.ref a, H) ∧ fIxA (.ref x) (.int 1) H = some (.ref b, H) := by
  have d : isDM (.ref x) H = false := isDM_lst h
  refine ⟨?_, ?_⟩ <;> · rw [fIxA_ev, if_neg (by rw [d]; decide), fIx_ref h]; rfl
theorem bk_eq {H : MH} {a : Nat} {s m o k : Str} (w : WL H a s m o k) : m__law_book [.ref a] H = .ok (.ref H.length) (H ++ [.ins "Book" (bfs s m o k (H.length + 1)), .lst [.tup [.str "stop", .str s], .tup [.str "move", .str m], .tup [.str "out", .str o], .tup [.str "marks", .str k]]]) := book_eq w.1 w.2
section
variable {h : MH} {i j : Nat} {s1 m1 o1 k1 s2 m2 o2 k2 : Str}
theorem lam_eq (w1 : okW s1 m1 o1 k1) (w2 : okW s2 m2 o2 k2) (hi : h[i]? = some (.lst [.str s1, .str m1, .str o1, .str k1])) (hj : h[j]? = some (.lst [.str s2, .str m2, .str o2, .str k2])) :
    m__law_at_most [.ref i, .ref j] h = .ok (.bl (leP s1 m1 o1 k1 s2 m2 o2 k2)) h := by
  refine gc_okE ?_ rfl
  have hi' : ∀ l, (h ++ l)[i]? = some (.lst [.str s1, .str m1, .str o1, .str k1]) := fun l => app_at hi
  have hj' : ∀ l, (h ++ l)[j]? = some (.lst [.str s2, .str m2, .str o2, .str k2]) := fun l => app_at hj
  obtain ⟨a1, a2, a3, _⟩ := w1
  obtain ⟨b1, b2, b3, _⟩ := w2
  rcases a1 with rfl | rfl <;> rcases b1 with rfl | rfl <;> rcases a2 with rfl | rfl <;> rcases b2 with rfl | rfl <;> rcases a3 with rfl | rfl <;> rcases b3 with rfl | rfl <;>
    simp [b__law_at_most, L0__law_at_most, mDef_ev, eV, SZ, KDs_ok, set_app0, at_app0, KFR_1, forG_ev, isDM_lst (hi' _), isDM_lst (hj' _), fIx_ref (hi' _), fIx_ref (hj' _), isDM_dk, fDGet, dGet_dk, leP] <;>
    (by_cases e : k1 = "any" <;> simp [e])
end
section
variable {H : MH} {wp nl : Nat} {d : BkD} {names : List Str}
theorem law_broken_eq (hn : ∀ nm ∈ names, isNm nm) (w : WL H wp d.s d.m d.o d.k) (qn : H[nl]? = some (.lst (names.map .str))) : m__law_broken [.ref wp, .ref nl] H = .ok (match fbP d names with | some nm => .str nm | none => .non) H := by
  refine gc_okE ⟨[], ?_⟩ (by cases fbP d names <;> rfl)
  rw [List.append_nil]
  have lp : (fbP d names = none ∧ ∃ s, forG (getSeq (.ref nl)) (gN 2) L0__law_broken ((names.map MV.str).length + 1) 0 [some (.ref wp), some (.ref nl), none] H = .nx s H) ∨ ∃ nm, fbP d names = some nm ∧ forG (getSeq (.ref nl)) (gN 2) L0__law_broken ((names.map MV.str).length + 1) 0 [some (.ref wp), some (.ref nl), none] H = .rt (.str nm) H := by
    refine forS_inv (v := .ref nl) (xs := names.map .str) (fun k s h' => (∃ y2, s = [some (.ref wp), some (.ref nl), y2]) ∧ h' = H ∧ ∀ i (hi : i < k) (hl : i < names.length), Pn d names[i] = true)
      (fun x => (fbP d names = none ∧ ∃ s, x = .nx s H) ∨ ∃ nm, fbP d names = some nm ∧ x = .rt (.str nm) H) ⟨⟨none, rfl⟩, rfl, fun i hi => absurd hi (Nat.not_lt_zero _)⟩ ?_ ?_ ?_
    · rintro k s h' ⟨_, rfl, _⟩
      exact seqOf_ref qn
    · rintro k s h' hk ⟨⟨y2, rfl⟩, rfl, P⟩
      have hk' : k < names.length := by simpa using hk
      have e : (names.map MV.str)[k] = .str names[k] := by simp
      rw [e]
      refine ⟨[some (.ref wp), some (.ref nl), some (.str names[k])], rfl, ?_⟩
      have F := form_eq w w w names[k] (hn _ (List.getElem_mem hk'))
      have F : m__law_form [.str names[k], .ref wp, .ref wp, .ref wp] h' = .ok (.bl (Pn d names[k])) h' := F
      cases f : Pn d names[k] with
      | true =>
        rw [f] at F
        have T : L0__law_broken [some (.ref wp), some (.ref nl), some (.str names[k])] h' = .nx [some (.ref wp), some (.ref nl), some (.str names[k])] h' := by
          generalize names[k] = z at *
          simp -implicitDefEqProofs [L0__law_broken, eV, F]
        rw [T, turn_nx]
        refine ⟨⟨_, rfl⟩, rfl, fun i hi hl => ?_⟩
        by_cases c : i = k
        · subst c; exact f
        · exact P i (by omega) hl
      | false =>
        rw [f] at F
        have T : L0__law_broken [some (.ref wp), some (.ref nl), some (.str names[k])] h' = .rt (.str names[k]) h' := by
          generalize names[k] = z at *
          simp -implicitDefEqProofs [L0__law_broken, eV, F]
        rw [T, turn_rt]
        right
        exact ⟨names[k], find_skip hk' (fun i hi => by rw [P i hi (by omega)]; rfl) (by rw [f]; rfl), rfl⟩
    · rintro s h' ⟨_, rfl, P⟩
      left
      refine ⟨List.find?_eq_none.mpr fun nm hm => ?_, s, rfl⟩
      obtain ⟨i, hi, rfl⟩ := List.mem_iff_getElem.mp hm
      rw [P i (by rw [List.length_map]; exact hi) hi]
      simp
  have ex : (mDef 3 b__law_broken) [.ref wp, .ref nl] H = KD (b__law_broken [some (.ref wp), some (.ref nl), none] H) := by
    simp -implicitDefEqProofs [mDef_ev]
  have ev : (eV 1) [some (.ref wp), some (.ref nl), none] H = .ok (.ref nl) H := by simp [eV]
  have fs : (sFor (eV 1) (gN 2) (L0__law_broken)) [some (.ref wp), some (.ref nl), none] H = forG (getSeq (.ref nl)) (gN 2) L0__law_broken ((names.map MV.str).length + 1) 0 [some (.ref wp), some (.ref nl), none] H := by
    rw [sFor_ev, ev, KFo_ref qn]
  rw [ex]
  rcases lp with ⟨f, s, lp⟩ | ⟨nm, f, lp⟩
  · rw [lp] at fs
    unfold b__law_broken
    rw [seqN fs, f]
    simp -implicitDefEqProofs
  · rw [lp] at fs
    unfold b__law_broken
    have : sSeq (sFor (eV 1) (gN 2) (L0__law_broken)) (sRet (eC .non)) [some (.ref wp), some (.ref nl), none] H = .rt (.str nm) H := by
      unfold sSeq
      rw [fs]
    rw [this, f]
    rfl
end
end Lw
namespace Lw
open PySem L2 Mo BF
section
variable {H : MH} {d : BkD}
theorem words_of_eq (B : BookAt H d) : m__law_words_of [.ref d.pl] H = .ok (.ref H.length) (H ++ [.lst [.str d.s, .str d.m, .str d.o, .str d.k]]) := by
  obtain ⟨⟨r, h⟩, w⟩ := B
  refine gc_newE (o := .lst [.str d.s, .str d.m, .str d.o, .str d.k]) ⟨0, [.lst [.str d.s, .str d.m, .str d.o, .str d.k]], ?_, rfl⟩ rfl
  have z4 : 4 ≤ SZ := by decide
  simp -implicitDefEqProofs [b__law_words_of, mDef_ev, eV, fFld_ref h, bfs, z4]
theorem words_WL (B : BookAt H d) : WL (H ++ [.lst [.str d.s, .str d.m, .str d.o, .str d.k]]) H.length d.s d.m d.o d.k := ⟨at_app0, B.2⟩
end
end Lw
namespace Lw
open PySem L2 Mo BF
section
variable {H : MH} {d : BkD} {nm : Str} {names : List Str} {r nl wk : Nat}
theorem row_right_eq (hn : ∀ nm ∈ names, isNm nm) (B : BookAt H d) (hr : H[r]? = some (.lst ((Pr d nm).map .str))) (hrl : (Pr d nm).length < 1000) (f : fbP d names = some nm) (qn : H[nl]? = some (.lst (names.map .str)))
    (NI : fNotInA (.ref H.length) (.ref wk) (H ++ [.lst [.str d.s, .str d.m, .str d.o, .str d.k]]) = some (.bl false, H ++ [.lst [.str d.s, .str d.m, .str d.o, .str d.k]])) :
    m__law_row_right [.tup [.ref d.pl, .str nm, .ref r], .ref nl, .ref wk] H = .ok (.bl true) H := by
  refine gc_okE ?_ rfl
  have hnm := hn nm (List.mem_of_find?_eq_some f)
  have pf : Pn d nm = false := by have := List.find?_some f; simpa using this
  have i0 : ∀ X, fIxA (.tup [.ref d.pl, .str nm, .ref r]) (.int 0) X = some (.ref d.pl, X) := fun _ => rfl
  have i1 : ∀ X, fIxA (.tup [.ref d.pl, .str nm, .ref r]) (.int 1) X = some (.str nm, X) := fun _ => rfl
  have i2 : ∀ X, fIxA (.tup [.ref d.pl, .str nm, .ref r]) (.int 2) X = some (.ref r, X) := fun _ => rfl
  have s0 : (sIf (bOr (bNot (bT (eA (fIsi ownT) (aCons (eV 0) (aCons (eC (.ty "tuple")) (aNil)))))) (bOr (bB (e2 fNe (eA fLen (aCons (eV 0) (aNil))) (eC (.int 3)))) (bNot (bT (eA (fIsi ownT) (aCons (e2 fIxA (eV 0) (eC (.int 2))) (aCons (eC (.ty "list")) (aNil)))))))) (sRet (eC (.bl false))) (sNx)) [some (.tup [.ref d.pl, .str nm, .ref r]), some (.ref nl), some (.ref wk), none, none] H = .nx [some (.tup [.ref d.pl, .str nm, .ref r]), some (.ref nl), some (.ref wk), none, none] H := by
    simp -implicitDefEqProofs [eV, -fIxA_ev, i2, fIsi, tyM, isiM, ownOf, tabT, hr, show tabB "tuple" "tuple" = some true from by decide +kernel, show tabB "list" "list" = some true from by decide +kernel]
  have WO := words_of_eq B
  have s1 : (sAsg (call 1 m__law_words_of (aCons (e2 fIxA (eV 0) (eC (.int 0))) (aNil))) (gN 3)) [some (.tup [.ref d.pl, .str nm, .ref r]), some (.ref nl), some (.ref wk), none, none] H = .nx [some (.tup [.ref d.pl, .str nm, .ref r]), some (.ref nl), some (.ref wk), some (.ref H.length), none] (H ++ [.lst [.str d.s, .str d.m, .str d.o, .str d.k]]) := by
    simp -implicitDefEqProofs [eV, -fIxA_ev, i0, WO]
  have w := words_WL B
  have LB := law_broken_eq (d := d) hn w (app_at (t := [.lst [.str d.s, .str d.m, .str d.o, .str d.k]]) qn)
  rw [f] at LB
  have LB : m__law_broken [.ref H.length, .ref nl] (H ++ [.lst [.str d.s, .str d.m, .str d.o, .str d.k]]) = .ok (.str nm) (H ++ [.lst [.str d.s, .str d.m, .str d.o, .str d.k]]) := LB
  have BK := bk_eq w
  have hr1 := app_at (t := [MO.lst [.str d.s, .str d.m, .str d.o, .str d.k]]) hr
  obtain ⟨T1, hT1⟩ : ∃ T, H ++ [MO.lst [.str d.s, .str d.m, .str d.o, .str d.k]] = H ++ T := ⟨_, rfl⟩
  have wd := B.2
  generalize hwp : H.length = wp at *
  generalize H ++ [MO.lst [.str d.s, .str d.m, .str d.o, .str d.k]] = H1 at *
  have s2 : (sIf (bOr (bB (e2 fNotInA (eV 3) (eV 2))) (bB (e2 fNe (e2 fIxA (eV 0) (eC (.int 1))) (call 2 m__law_broken (aCons (eV 3) (aCons (eV 1) (aNil))))))) (sRet (eC (.bl false))) (sNx)) [some (.tup [.ref d.pl, .str nm, .ref r]), some (.ref nl), some (.ref wk), some (.ref wp), none] H1 = .nx [some (.tup [.ref d.pl, .str nm, .ref r]), some (.ref nl), some (.ref wk), some (.ref wp), none] H1 := by
    simp -implicitDefEqProofs [eV, -fIxA_ev, -fNotInA_ev, i1, NI, LB]
  obtain ⟨H2, hH2⟩ : ∃ H2, H2 = H1 ++ [MO.ins "Book" (bfs d.s d.m d.o d.k (H1.length + 1)), .lst [.tup [.str "stop", .str d.s], .tup [.str "move", .str d.m], .tup [.str "out", .str d.o], .tup [.str "marks", .str d.k]]] := ⟨_, rfl⟩
  rw [← hH2] at BK
  have PL := plain_eq H2 H1.length
  have qB : H2[H1.length]? = some (.ins "Book" (bfs d.s d.m d.o d.k (H1.length + 1))) := by rw [hH2]; exact at_app0
  have s3 : (sAsg (eCMeth "Crew" 2 m_Crew_plain (aCons (call 1 m__law_book (aCons (eV 3) (aNil))) (aNil))) (gN 4)) [some (.tup [.ref d.pl, .str nm, .ref r]), some (.ref nl), some (.ref wk), some (.ref wp), none] H1 = .nx [some (.tup [.ref d.pl, .str nm, .ref r]), some (.ref nl), some (.ref wk), some (.ref wp), some (.ref H2.length)] (H2 ++ [.ins "Crew" (crewF H1.length H1.length H1.length)]) := by
    simp -implicitDefEqProofs [eV, BK, PL]
  have CA : CrewAt (H2 ++ [.ins "Crew" (crewF H1.length H1.length H1.length)]) H2.length d.k d.m d.o d.o d.s d.o d.s :=
    ⟨⟨H1.length, H1.length, H1.length, d.s, _, d.m, d.k, _, d.m, d.k, _, at_app0, app_at qB, app_at qB, app_at qB⟩⟩
  have hr3 : (H2 ++ [MO.ins "Crew" (crewF H1.length H1.length H1.length)])[r]? = some (.lst ((Pr d nm).map .str)) := app_at (by rw [hH2]; exact app_at hr1)
  have BR := law_breaks_eq CA hnm hr3 hrl
  obtain ⟨v, g, jE, jR⟩ := judge_at hnm (okO' wd wd wd) CA
  obtain ⟨T3, hT3⟩ : ∃ T, H2 ++ [MO.ins "Crew" (crewF H1.length H1.length H1.length)] = H ++ T := ⟨_, by rw [hH2, hT1, List.append_assoc, List.append_assoc]⟩
  generalize hH3 : H2 ++ [MO.ins "Crew" (crewF H1.length H1.length H1.length)] = H3 at *
  rcases jR with ⟨f2, _⟩ | ⟨_, r2, V, L, b⟩
  · have : Pn d nm = true := f2
    rw [pf] at this; cases this
  · have b : br (mvP nm d.k d.m d.o d.o d.s d.o d.s) st0 (Pr d nm) = true := b
    rw [b] at BR
    have fr : fFld "run" ["Verdict"] (.ref v) (H3 ++ g) = some (.ref r2, H3 ++ g) := by rw [fFld_ref V, if_pos (by simp)]; rfl
    have L : (H3 ++ g)[r2]? = some (.lst ((Pr d nm).map .str)) := L
    have n1 : fLen [.ref r] H3 = some (.int (Pr d nm).length, H3) := by rw [fLen_ref hr3, List.length_map]
    have n2 : fLen [.ref r2] (H3 ++ g) = some (.int (Pr d nm).length, H3 ++ g) := by rw [fLen_ref L, List.length_map]
    have s4 : (sRet (eAnd (call 3 m__law_breaks (aCons (e2 fIxA (eV 0) (eC (.int 1))) (aCons (eV 4) (aCons (e2 fIxA (eV 0) (eC (.int 2))) (aNil))))) (e2 fEq (eA fLen (aCons (e2 fIxA (eV 0) (eC (.int 2))) (aNil))) (eA fLen (aCons (e1 (fFld "run" ["Verdict"]) (call 2 m_judge (aCons (eV 4) (aCons (e2 fIxA (eV 0) (eC (.int 1))) (aNil))))) (aNil)))))) [some (.tup [.ref d.pl, .str nm, .ref r]), some (.ref nl), some (.ref wk), some (.ref wp), some (.ref H2.length)] H3 = .rt (.bl true) (H3 ++ g) := by
      simp -implicitDefEqProofs [eV, -fIxA_ev, i1, i2, BR, n1, jE, fr, n2]
    refine ⟨T3 ++ g, ?_⟩
    have ex : (mDef 5 b__law_row_right) [.tup [.ref d.pl, .str nm, .ref r], .ref nl, .ref wk] H = KD (b__law_row_right [some (.tup [.ref d.pl, .str nm, .ref r]), some (.ref nl), some (.ref wk), none, none] H) := by
      simp -implicitDefEqProofs [mDef_ev]
    rw [ex]
    unfold b__law_row_right
    rw [seqN s0, seqN s1, seqN s2, seqN s3, s4, hT3, List.append_assoc]
    rfl
end
end Lw
namespace Lw
open PySem L2 Mo BF
theorem Pr_len {nm : Str} {d : BkD} : (Pr d nm).length < 1000 := by
  unfold Pr runOf
  split
  · rename_i x lb o hR
    obtain ⟨w, hx, _, _⟩ := judge_broken (bnd (nm := nm)).hU (Nat.le_refl _) hR
    have ho : o.length ≤ 900 := by
      have := nodup_le (keys o) (UL nm) w.nd (fun y hy => (bnd (nm := nm)).hU y (w.reach y hy))
      have h2 := UL_len nm
      unfold keys at this
      rw [List.length_map] at this
      omega
    have hl : ∀ n y, (back o n y).length ≤ n := by
      intro n
      induction n with
      | zero => intro y; simp [back]
      | succ n ih =>
        intro y
        unfold back
        split
        · simp; exact ih _
        · simp
    have hr : (runTo o x).length ≤ 901 := by unfold runTo; rw [List.length_reverse]; have := hl (o.length + 1) x; omega
    rw [List.length_append, List.length_singleton]
    omega
  · decide
end Lw
namespace Lw
open PySem L2 Mo BF
def WLd (H : MH) (d : BkD) : Prop := WL H d.pl d.s d.m d.o d.k
structure LsAt (H : MH) (p : Nat) (ws : List BkD) : Prop where
  q : H[p]? = some (.lst (ws.map fun d => .ref d.pl))
  v : ∀ d ∈ ws, WLd H d
theorem LsAt.app {H T : MH} {p : Nat} {ws : List BkD} (l : LsAt H p ws) : LsAt (H ++ T) p ws := ⟨app_at l.q, fun d h => WL.app (l.v d h)⟩
theorem LsAt.ne {H : MH} {p : Nat} {ws : List BkD} (l : LsAt H p ws) : ∀ d ∈ ws, d.pl ≠ p := fun d h z => by
  have := (l.v d h).1
  rw [z, l.q] at this
  cases ws with
  | nil => cases h
  | cons a as => cases this
theorem LsAt.snoc {H : MH} {p : Nat} {ws : List BkD} {d : BkD} (l : LsAt H p ws) (w : WLd H d) (ne : d.pl ≠ p) : LsAt (H.set p (.lst (ws.map (fun d => MV.ref d.pl) ++ [.ref d.pl]))) p (ws ++ [d]) := by
  refine ⟨?_, fun e he => ?_⟩
  · rw [List.getElem?_set_self (List.getElem?_eq_some_iff.mp l.q).1]; simp
  · have : e.pl ≠ p ∧ WLd H e := by
      rcases List.mem_append.mp he with h | h
      · exact ⟨l.ne e h, l.v e h⟩
      · rw [List.mem_singleton.mp h]; exact ⟨ne, w⟩
    exact ⟨by rw [List.getElem?_set_ne (Ne.symm this.1)]; exact this.2.1, this.2.2⟩
theorem ix_at {H : MH} {p : Nat} {xs : List MV} {i : Nat} {v : MV} (q : H[p]? = some (.lst xs)) (e : xs[i]? = some v) : fIxA (.ref p) (.int (i : Nat)) H = some (v, H) := by
  rw [fIxA_ev, if_neg (by rw [isDM_lst q]; decide), fIx_ref q, atI_ofNat, e]
  rfl
theorem ix_last {H : MH} {p : Nat} {xs : List MV} {v : MV} (q : H[p]? = some (.lst (xs ++ [v]))) : fIxA (.ref p) (.int (-1)) H = some (v, H) := by
  rw [fIxA_ev, if_neg (by rw [isDM_lst q]; decide), fIx_ref q]
  have : atI (xs ++ [v]) (-1) = some v := by
    have hl : (xs ++ [v]).length = xs.length + 1 := by simp
    have e : ixN (xs ++ [v]).length (-1) = some xs.length := by
      unfold ixN
      rw [hl, if_neg (by decide), if_pos (by omega)]
      congr 1
      omega
    unfold atI
    rw [e]
    show (xs ++ [v])[xs.length]? = some v
    rw [List.getElem?_append_right (Nat.le_refl _), Nat.sub_self]
    rfl
  rw [this]
  rfl
section
variable {H : MH} {ws : List BkD} {dr L t : Nat} {xs : List Int} {x0 x4 x5 x6 x7 x8 : Option MV}
theorem ll_turn (hd : H[dr]? = some (.lst (xs.map .int))) (hx : xs.length = 8) (l : LsAt H L ws) (ht : ws.length = t) (h8 : t < 8) (ne : dr ≠ L) :
    ∃ y4 y5 H' d, L0__law_lists [x0, some (.ref dr), some (.ref L), some (.int (t : Nat)), x4, x5, x6, x7, x8] H = .nx [x0, some (.ref dr), some (.ref L), some (.int (t : Nat)), y4, y5, x6, x7, x8] H' ∧ H'[dr]? = some (.lst (xs.map .int)) ∧ LsAt H' L (ws ++ [d]) := by
  have ht8 : t < xs.length := by omega
  have i1 : ∀ T, fIxA (.ref dr) (.int (t : Nat)) (H ++ T) = some (.int xs[t], H ++ T) := fun T => ix_at (app_at hd) (by simp [List.getElem?_eq_getElem ht8])
  have i10 := i1 []
  rw [List.append_nil] at i10
  have i7 : ∀ T, fIxA (.ref dr) (.int 7) (H ++ T) = some (.int (xs[7]'(by omega)), H ++ T) := fun T => ix_at (i := 7) (app_at hd) (by simp [List.getElem?_eq_getElem (show 7 < xs.length by omega)])
  generalize xs[7]'(by omega) = c7 at *
  generalize xs[t] = c at *
  obtain ⟨s1, m1, o1, k1, ew1, w1⟩ := wsP_ok (c % 24)
  have W1 := words_eq (c % 24) H
  rw [ew1] at W1
  have W1 : m__law_words [.int (c % 24)] H = .ok (.ref H.length) (H ++ [.lst [.str s1, .str m1, .str o1, .str k1]]) := W1
  have a0 : (sAsg (call 1 m__law_words (aCons (e2 fMod (eA fInt (aCons (e2 fIxA (eV 1) (eV 3)) (aNil))) (eC (.int 24))) (aNil))) (gN 4)) [x0, some (.ref dr), some (.ref L), some (.int (t : Nat)), x4, x5, x6, x7, x8] H = .nx [x0, some (.ref dr), some (.ref L), some (.int (t : Nat)), some (.ref H.length), x5, x6, x7, x8] (H ++ [.lst [.str s1, .str m1, .str o1, .str k1]]) := by
    simp -implicitDefEqProofs [eV, -fIxA_ev, i10, W1]
  have a1 : ∃ y5 q T s m o k, (sIf (bAnd (bB (e2 fEq (e2 fMod (eA fInt (aCons (eV 3) (aNil))) (eC (.int 2))) (eC (.int 1)))) (bB (e2 fLt (e2 fIxA (eV 1) (eC (.int 7))) (eC (.int 48))))) (sSeq (sAsg (eA fList (aCons (e2 fIxA (eV 2) (e1 fNeg (eC (.int 1)))) (aNil))) (gN 4)) (sSeq (sAsg (e2 fMod (eA fInt (aCons (e2 fIxA (eV 1) (eV 3)) (aNil))) (eC (.int 4))) (gN 5)) (sPutA (eV 4) (eV 5) (e2 fIxA (call 1 m__law_words (aCons (e2 fDiv (e2 fIxA (eV 1) (eV 3)) (eC (.int 4))) (aNil))) (eV 5))))) (sNx)) [x0, some (.ref dr), some (.ref L), some (.int (t : Nat)), some (.ref H.length), x5, x6, x7, x8] (H ++ [.lst [.str s1, .str m1, .str o1, .str k1]]) = .nx [x0, some (.ref dr), some (.ref L), some (.int (t : Nat)), some (.ref q), y5, x6, x7, x8] (H ++ T) ∧ (H ++ T)[q]? = some (.lst [.str s, .str m, .str o, .str k]) ∧ okW s m o k ∧ H.length ≤ q := by
    have j7 := i7 [.lst [.str s1, .str m1, .str o1, .str k1]]
    by_cases b1 : ((t : Nat) : Int) % 2 = 1
    · by_cases b2 : c7 < 48
      · have j1 := i1 [.lst [.str s1, .str m1, .str o1, .str k1]]
        obtain ⟨ws', d, rfl⟩ : ∃ ws' d, ws = ws' ++ [d] := by
          rcases List.eq_nil_or_concat ws with h | ⟨a, b, h⟩
          · subst h; simp at ht; subst ht; simp at b1
          · exact ⟨a, b, by rw [h]; simp⟩
        have wd : WLd (H ++ [.lst [.str s1, .str m1, .str o1, .str k1]]) d := WL.app (l.v d (by simp))
        have jl : fIxA (.ref L) (.int (-1)) (H ++ [.lst [.str s1, .str m1, .str o1, .str k1]]) = some (.ref d.pl, H ++ [.lst [.str s1, .str m1, .str o1, .str k1]]) := ix_last (xs := ws'.map fun d => .ref d.pl) (by have := app_at (t := [MO.lst [.str s1, .str m1, .str o1, .str k1]]) l.q; simpa using this)
        have jf := fList_ref wd.1
        obtain ⟨s2, m2, o2, k2, ew2, w2⟩ := wsP_ok (c / 4)
        have y4 : 0 ≤ c % 4 ∧ c % 4 < 4 := ⟨Int.emod_nonneg _ (by decide), Int.emod_lt_of_pos _ (by decide)⟩
        have ha : c % 4 = 0 ∨ c % 4 = 1 ∨ c % 4 = 2 ∨ c % 4 = 3 := by omega
        have wo := wd.2
        generalize hX : H ++ [MO.lst [.str s1, .str m1, .str o1, .str k1]] = X at *
        have i1X : ∀ T, fIxA (.ref dr) (.int (t : Nat)) (X ++ T) = some (.int c, X ++ T) := fun T => by rw [← hX, List.append_assoc]; exact i1 _
        have W2 := words_eq (c / 4) (X ++ [.lst [.str d.s, .str d.m, .str d.o, .str d.k]])
        rw [ew2] at W2
        have W2 : m__law_words [.int (c / 4)] (X ++ [.lst [.str d.s, .str d.m, .str d.o, .str d.k]]) = .ok (.ref (X.length + 1)) (X ++ [.lst [.str d.s, .str d.m, .str d.o, .str d.k], .lst [.str s2, .str m2, .str o2, .str k2]]) := by
          rw [W2]; simp
        have q2 : (X ++ [MO.lst [.str d.s, .str d.m, .str d.o, .str d.k], .lst [.str s2, .str m2, .str o2, .str k2]])[X.length + 1]? = some (.lst [.str s2, .str m2, .str o2, .str k2]) := by
          rw [List.getElem?_append_right (by omega)]; simp
        have q1 : (X ++ [MO.lst [.str d.s, .str d.m, .str d.o, .str d.k], .lst [.str s2, .str m2, .str o2, .str k2]])[X.length]? = some (.lst [.str d.s, .str d.m, .str d.o, .str d.k]) := by
          rw [List.getElem?_append_right (by omega)]; simp
        have fin : ∀ s m o k, okW s m o k → (sIf (bAnd (bB (e2 fEq (e2 fMod (eA fInt (aCons (eV 3) (aNil))) (eC (.int 2))) (eC (.int 1)))) (bB (e2 fLt (e2 fIxA (eV 1) (eC (.int 7))) (eC (.int 48))))) (sSeq (sAsg (eA fList (aCons (e2 fIxA (eV 2) (e1 fNeg (eC (.int 1)))) (aNil))) (gN 4)) (sSeq (sAsg (e2 fMod (eA fInt (aCons (e2 fIxA (eV 1) (eV 3)) (aNil))) (eC (.int 4))) (gN 5)) (sPutA (eV 4) (eV 5) (e2 fIxA (call 1 m__law_words (aCons (e2 fDiv (e2 fIxA (eV 1) (eV 3)) (eC (.int 4))) (aNil))) (eV 5))))) (sNx)) [x0, some (.ref dr), some (.ref L), some (.int (t : Nat)), some (.ref H.length), x5, x6, x7, x8] X = .nx [x0, some (.ref dr), some (.ref L), some (.int (t : Nat)), some (.ref X.length), some (.int (c % 4)), x6, x7, x8] (X ++ [.lst [.str s, .str m, .str o, .str k], .lst [.str s2, .str m2, .str o2, .str k2]]) →
            ∃ y5 q T s m o k, (sIf (bAnd (bB (e2 fEq (e2 fMod (eA fInt (aCons (eV 3) (aNil))) (eC (.int 2))) (eC (.int 1)))) (bB (e2 fLt (e2 fIxA (eV 1) (eC (.int 7))) (eC (.int 48))))) (sSeq (sAsg (eA fList (aCons (e2 fIxA (eV 2) (e1 fNeg (eC (.int 1)))) (aNil))) (gN 4)) (sSeq (sAsg (e2 fMod (eA fInt (aCons (e2 fIxA (eV 1) (eV 3)) (aNil))) (eC (.int 4))) (gN 5)) (sPutA (eV 4) (eV 5) (e2 fIxA (call 1 m__law_words (aCons (e2 fDiv (e2 fIxA (eV 1) (eV 3)) (eC (.int 4))) (aNil))) (eV 5))))) (sNx)) [x0, some (.ref dr), some (.ref L), some (.int (t : Nat)), some (.ref H.length), x5, x6, x7, x8] X = .nx [x0, some (.ref dr), some (.ref L), some (.int (t : Nat)), some (.ref q), y5, x6, x7, x8] (H ++ T) ∧ (H ++ T)[q]? = some (.lst [.str s, .str m, .str o, .str k]) ∧ okW s m o k ∧ H.length ≤ q := fun s m o k w e => by
          refine ⟨some (.int (c % 4)), X.length, [.lst [.str s1, .str m1, .str o1, .str k1]] ++ [.lst [.str s, .str m, .str o, .str k], .lst [.str s2, .str m2, .str o2, .str k2]], s, m, o, k, ?_, ?_, w, by rw [← hX]; simp⟩
          · rw [e, ← List.append_assoc, hX]
          · rw [← List.append_assoc, hX, List.getElem?_append_right (by omega)]; simp
        rcases ha with a | a | a | a
        · have g2 := ix_at (i := 0) (v := .str s2) q2 rfl
          have p2 := putA_lst (v := MV.str s2) (j := 0) q1
          refine fin s2 d.m d.o d.k (mixW0 wo w2) ?_
          have p2 : putA (.ref X.length) (.int 0) (.str s2) (X ++ [.lst [.str d.s, .str d.m, .str d.o, .str d.k], .lst [.str s2, .str m2, .str o2, .str k2]]) = some (X ++ [.lst [.str s2, .str d.m, .str d.o, .str d.k], .lst [.str s2, .str m2, .str o2, .str k2]]) := by
            rw [p2]; simp [ixN]
          have g2 : fIxA (.ref (X.length + 1)) (.int 0) (X ++ [.lst [.str d.s, .str d.m, .str d.o, .str d.k], .lst [.str s2, .str m2, .str o2, .str k2]]) = some (.str s2, X ++ [.lst [.str d.s, .str d.m, .str d.o, .str d.k], .lst [.str s2, .str m2, .str o2, .str k2]]) := g2
          simp -implicitDefEqProofs [eV, -fIxA_ev, b1, b2, j7, jl, jf, i1X, a, W2, g2, p2]
        · have g2 := ix_at (i := 1) (v := .str m2) q2 rfl
          have p2 := putA_lst (v := MV.str m2) (j := 1) q1
          refine fin d.s m2 d.o d.k (mixW1 wo w2) ?_
          have p2 : putA (.ref X.length) (.int 1) (.str m2) (X ++ [.lst [.str d.s, .str d.m, .str d.o, .str d.k], .lst [.str s2, .str m2, .str o2, .str k2]]) = some (X ++ [.lst [.str d.s, .str m2, .str d.o, .str d.k], .lst [.str s2, .str m2, .str o2, .str k2]]) := by
            rw [p2]; simp [ixN]
          have g2 : fIxA (.ref (X.length + 1)) (.int 1) (X ++ [.lst [.str d.s, .str d.m, .str d.o, .str d.k], .lst [.str s2, .str m2, .str o2, .str k2]]) = some (.str m2, X ++ [.lst [.str d.s, .str d.m, .str d.o, .str d.k], .lst [.str s2, .str m2, .str o2, .str k2]]) := g2
          simp -implicitDefEqProofs [eV, -fIxA_ev, b1, b2, j7, jl, jf, i1X, a, W2, g2, p2]
        · have g2 := ix_at (i := 2) (v := .str o2) q2 rfl
          have p2 := putA_lst (v := MV.str o2) (j := 2) q1
          refine fin d.s d.m o2 d.k (mixW2 wo w2) ?_
          have p2 : putA (.ref X.length) (.int 2) (.str o2) (X ++ [.lst [.str d.s, .str d.m, .str d.o, .str d.k], .lst [.str s2, .str m2, .str o2, .str k2]]) = some (X ++ [.lst [.str d.s, .str d.m, .str o2, .str d.k], .lst [.str s2, .str m2, .str o2, .str k2]]) := by
            rw [p2]; simp [ixN]
          have g2 : fIxA (.ref (X.length + 1)) (.int 2) (X ++ [.lst [.str d.s, .str d.m, .str d.o, .str d.k], .lst [.str s2, .str m2, .str o2, .str k2]]) = some (.str o2, X ++ [.lst [.str d.s, .str d.m, .str d.o, .str d.k], .lst [.str s2, .str m2, .str o2, .str k2]]) := g2
          simp -implicitDefEqProofs [eV, -fIxA_ev, b1, b2, j7, jl, jf, i1X, a, W2, g2, p2]
        · have g2 := ix_at (i := 3) (v := .str k2) q2 rfl
          have p2 := putA_lst (v := MV.str k2) (j := 3) q1
          refine fin d.s d.m d.o k2 (mixW3 wo w2) ?_
          have p2 : putA (.ref X.length) (.int 3) (.str k2) (X ++ [.lst [.str d.s, .str d.m, .str d.o, .str d.k], .lst [.str s2, .str m2, .str o2, .str k2]]) = some (X ++ [.lst [.str d.s, .str d.m, .str d.o, .str k2], .lst [.str s2, .str m2, .str o2, .str k2]]) := by
            rw [p2]; simp [ixN]
          have g2 : fIxA (.ref (X.length + 1)) (.int 3) (X ++ [.lst [.str d.s, .str d.m, .str d.o, .str d.k], .lst [.str s2, .str m2, .str o2, .str k2]]) = some (.str k2, X ++ [.lst [.str d.s, .str d.m, .str d.o, .str d.k], .lst [.str s2, .str m2, .str o2, .str k2]]) := g2
          simp -implicitDefEqProofs [eV, -fIxA_ev, b1, b2, j7, jl, jf, i1X, a, W2, g2, p2]
      · refine ⟨x5, H.length, [.lst [.str s1, .str m1, .str o1, .str k1]], s1, m1, o1, k1, ?_, at_app0, w1, Nat.le_refl _⟩
        simp -implicitDefEqProofs [eV, -fIxA_ev, b1, b2, j7]
    · refine ⟨x5, H.length, [.lst [.str s1, .str m1, .str o1, .str k1]], s1, m1, o1, k1, ?_, at_app0, w1, Nat.le_refl _⟩
      simp -implicitDefEqProofs [eV, -fIxA_ev, b1]
  obtain ⟨y5, q, T, s, m, o, k, a1, hq, wq, hle⟩ := a1
  have l2 := l.app (T := T)
  have hL : L < H.length := (List.getElem?_eq_some_iff.mp l.q).1
  have a2 : (sExp (eMt isL fAppend (eV 2) (aCons (eV 4) (aNil)))) [x0, some (.ref dr), some (.ref L), some (.int (t : Nat)), some (.ref q), y5, x6, x7, x8] (H ++ T) = .nx [x0, some (.ref dr), some (.ref L), some (.int (t : Nat)), some (.ref q), y5, x6, x7, x8] ((H ++ T).set L (.lst (ws.map (fun d => MV.ref d.pl) ++ [.ref q]))) := by
    have ap : fAppend (.ref L) [.ref q] (H ++ T) = some (.non, (H ++ T).set L (.lst (ws.map (fun d => MV.ref d.pl) ++ [.ref q]))) := fAppend_ref l2.q (by rw [List.length_map]; have : SZ = 16777216 := rfl; omega)
    have il := isL_ref l2.q
    generalize (H ++ T).set L (.lst (ws.map (fun d => MV.ref d.pl) ++ [.ref q])) = X2 at *
    generalize H ++ T = X1 at *
    simp -implicitDefEqProofs [eV, il, ap]
  refine ⟨some (.ref q), y5, _, ⟨s, m, o, k, q⟩, ?_, ?_, l2.snoc (d := ⟨s, m, o, k, q⟩) ⟨hq, wq⟩ (by show q ≠ L; omega)⟩
  · unfold L0__law_lists
    rw [seqN a0, seqN a1, a2]
  · rw [List.getElem?_set_ne (Ne.symm ne)]; exact app_at hd
end
end Lw
namespace Lw
open PySem L2 Mo BF
theorem LsAt.set {H : MH} {p N : Nat} {ws : List BkD} {o : MO} (l : LsAt H p ws) (h1 : p ≠ N) (h2 : ∀ d ∈ ws, d.pl ≠ N) : LsAt (H.set N o) p ws :=
  ⟨by rw [List.getElem?_set_ne (Ne.symm h1)]; exact l.q, fun d hd => ⟨by rw [List.getElem?_set_ne (Ne.symm (h2 d hd))]; exact (l.v d hd).1, (l.v d hd).2⟩⟩
theorem name5 (k : Int) (h0 : 0 ≤ k) (h1 : k < 5) : ∃ nm, isNm nm ∧ atI [MV.str "single", .str "calm", .str "steady", .str "norepeat", .str "forward"] k = some (.str nm) := by
  have : k = 0 ∨ k = 1 ∨ k = 2 ∨ k = 3 ∨ k = 4 := by omega
  rcases this with rfl | rfl | rfl | rfl | rfl
  · exact ⟨_, .inl rfl, rfl⟩
  · exact ⟨_, .inr (.inl rfl), rfl⟩
  · exact ⟨_, .inr (.inr (.inl rfl)), rfl⟩
  · exact ⟨_, .inr (.inr (.inr (.inl rfl))), rfl⟩
  · exact ⟨_, .inr (.inr (.inr (.inr rfl))), rfl⟩
section
variable {H : MH} {ws : List BkD} {N L t : Nat} {names : List Str} {x0 x1 x2 x3 x4 x5 x8 : Option MV} {p : Int}
theorem ln_turn (hp : 0 ≤ p ∧ p < 5) (hN : H[N]? = some (.lst (names.map .str))) (hn : ∀ nm ∈ names, isNm nm) (hl : names.length < 64) :
    ∃ (y8 : Option MV) (g : MH) (names' : List Str), L1__law_lists [x0, x1, x2, x3, x4, x5, some (.ref N), some (.int p), x8] H = .nx [x0, x1, x2, x3, x4, x5, some (.ref N), some (.int p), y8] ((H ++ g).set N (.lst (names'.map .str))) ∧ (∀ nm ∈ names', isNm nm) ∧ names'.length ≤ names.length + 1 := by
  obtain ⟨nm, hnm, en⟩ := name5 p hp.1 hp.2
  have q0 : (H ++ [MO.lst [.str "single", .str "calm", .str "steady", .str "norepeat", .str "forward"]])[H.length]? = some (.lst [.str "single", .str "calm", .str "steady", .str "norepeat", .str "forward"]) := at_app0
  have nx : fIxA (.ref H.length) (.int p) (H ++ [MO.lst [.str "single", .str "calm", .str "steady", .str "norepeat", .str "forward"]]) = some (.str nm, H ++ [.lst [.str "single", .str "calm", .str "steady", .str "norepeat", .str "forward"]]) := by
    rw [fIxA_ev, if_neg (by rw [isDM_lst q0]; decide), fIx_ref q0, en]
    rfl
  have z5 : 5 ≤ SZ := by decide
  have a0 : (sAsg (e2 fIxA (eA fLst (aCons (eC (.str "single")) (aCons (eC (.str "calm")) (aCons (eC (.str "steady")) (aCons (eC (.str "norepeat")) (aCons (eC (.str "forward")) (aNil))))))) (eV 7)) (gN 8)) [x0, x1, x2, x3, x4, x5, some (.ref N), some (.int p), x8] H = .nx [x0, x1, x2, x3, x4, x5, some (.ref N), some (.int p), some (.str nm)] (H ++ [MO.lst [.str "single", .str "calm", .str "steady", .str "norepeat", .str "forward"]]) := by
    simp -implicitDefEqProofs [eV, -fIxA_ev, z5, nx]
  have hN1 := app_at (t := [MO.lst [.str "single", .str "calm", .str "steady", .str "norepeat", .str "forward"]]) hN
  have NI := fNotIn_strs (x := nm) hN1
  have il := isL_ref hN1
  have ap : fAppend (.ref N) [.str nm] (H ++ [MO.lst [.str "single", .str "calm", .str "steady", .str "norepeat", .str "forward"]]) = some (.non, (H ++ [MO.lst [.str "single", .str "calm", .str "steady", .str "norepeat", .str "forward"]]).set N (.lst ((names ++ [nm]).map .str))) := by
    rw [fAppend_ref hN1 (by rw [List.length_map]; have : SZ = 16777216 := rfl; omega)]
    simp
  have same : (H ++ [MO.lst [.str "single", .str "calm", .str "steady", .str "norepeat", .str "forward"]]).set N (.lst (names.map .str)) = H ++ [MO.lst [.str "single", .str "calm", .str "steady", .str "norepeat", .str "forward"]] := by
    obtain ⟨hlt, he⟩ := List.getElem?_eq_some_iff.mp hN1
    rw [← he]
    exact List.set_getElem_self hlt
  by_cases c : nm ∈ names
  · refine ⟨some (.str nm), [.lst [.str "single", .str "calm", .str "steady", .str "norepeat", .str "forward"]], names, ?_, hn, by omega⟩
    rw [same]
    rw [decide_eq_true c] at NI
    unfold L1__law_lists
    rw [seqN a0]
    generalize H ++ [MO.lst [.str "single", .str "calm", .str "steady", .str "norepeat", .str "forward"]] = X at *
    simp -implicitDefEqProofs [eV, -fNotInA_ev, NI]
  · refine ⟨some (.str nm), [.lst [.str "single", .str "calm", .str "steady", .str "norepeat", .str "forward"]], names ++ [nm], ?_, ?_, by simp⟩
    · rw [decide_eq_false c] at NI
      unfold L1__law_lists
      rw [seqN a0]
      generalize (H ++ [MO.lst [.str "single", .str "calm", .str "steady", .str "norepeat", .str "forward"]]).set N (.lst ((names ++ [nm]).map .str)) = X2 at *
      generalize H ++ [MO.lst [.str "single", .str "calm", .str "steady", .str "norepeat", .str "forward"]] = X at *
      simp -implicitDefEqProofs [eV, -fNotInA_ev, NI, il, ap]
    · intro x hx
      rcases List.mem_append.mp hx with h | h
      · exact hn x h
      · rw [List.mem_singleton.mp h]; exact hnm
end
theorem lists_eq (ns : List Int) : ∃ (i : Nat) (H : MH) (L N : Nat) (ws : List BkD) (names : List Str), m__law_lists [.frl (ns.map MV.int)] [] = .ok (.ref i) H ∧ H[i]? = some (.lst [.ref L, .ref N]) ∧ LsAt H L ws ∧ H[N]? = some (.lst (names.map .str)) ∧ ws.length < 8 ∧ names.length < 64 ∧ ∀ nm ∈ names, isNm nm := by
  obtain ⟨c0, C0⟩ := cell_ex ns 0
  obtain ⟨c1, C1⟩ := cell_ex ns 1
  obtain ⟨c2, C2⟩ := cell_ex ns 2
  obtain ⟨c3, C3⟩ := cell_ex ns 3
  have C0' : ∀ h, m__law_cell [.frl (ns.map MV.int), .int 0] h = .ok (.int c0) h := C0
  have C1' : ∀ h, m__law_cell [.frl (ns.map MV.int), .int 1] h = .ok (.int c1) h := C1
  have C2' : ∀ h, m__law_cell [.frl (ns.map MV.int), .int 2] h = .ok (.int c2) h := C2
  have C3' : ∀ h, m__law_cell [.frl (ns.map MV.int), .int 3] h = .ok (.int c3) h := C3
  have R := fun h => row_eq c0 8 96 h (by decide) (by decide) (by decide)
  have xl : (rowP c0 8 96).length = 8 := rowGo_length _ _ _ _ _
  generalize rowP c0 8 96 = xs at *
  have R' : ∀ h : MH, m__law_row [.int c0, .int 8, .int 96] h = .ok (.ref h.length) (h ++ [.lst (xs.map .int)]) := R
  have m8 : 0 ≤ c1 % 8 ∧ c1 % 8 < 8 := ⟨Int.emod_nonneg _ (by decide), Int.emod_lt_of_pos _ (by decide)⟩
  have m5 : 0 ≤ c3 % 5 ∧ c3 % 5 < 5 := ⟨Int.emod_nonneg _ (by decide), Int.emod_lt_of_pos _ (by decide)⟩
  obtain ⟨n, hn⟩ : ∃ n : Nat, c1 % 8 = n := ⟨(c1 % 8).toNat, (Int.toNat_of_nonneg m8.1).symm⟩
  obtain ⟨n2, hn2⟩ : ∃ n : Nat, c3 % 5 = n := ⟨(c3 % 5).toNat, (Int.toNat_of_nonneg m5.1).symm⟩
  have hn8 : n < 8 := by omega
  have hn5 : n2 < 5 := by omega
  have Rb := fun h => row_eq c2 n2 5 h (by omega) (by decide) (by decide)
  have Rl : (rowP c2 n2 5).length = n2 := rowGo_length _ _ _ _ _
  have Rlt : ∀ x ∈ rowP c2 n2 5, 0 ≤ x ∧ x < 5 := rowGo_lt _ _ (by decide) _ _ _
  generalize rowP c2 n2 5 = ps at *
  generalize hV : MV.frl (ns.map MV.int) = v0 at *
  have a0 : (sAsg (call 3 m__law_row (aCons (call 2 m__law_cell (aCons (eV 0) (aCons (eC (.int 0)) (aNil)))) (aCons (eC (.int 8)) (aCons (eC (.int 96)) (aNil))))) (gN 1)) [some (v0), none, none, none, none, none, none, none, none] [] = .nx [some (v0), some (.ref 0), none, none, none, none, none, none, none] [.lst (xs.map .int)] := by
    simp -implicitDefEqProofs [eV, C0', R']
  have z0 : 0 ≤ SZ := by decide
  have a1 : (sAsg (eA fLst (aNil)) (gN 2)) [some (v0), some (.ref 0), none, none, none, none, none, none, none] [.lst (xs.map .int)] = .nx [some (v0), some (.ref 0), some (.ref 1), none, none, none, none, none, none] [.lst (xs.map .int), .lst []] := by
    simp -implicitDefEqProofs [z0]
  have lp : ∃ (y3 y4 y5 : Option MV) (H : MH) (ws : List BkD), forG (getR 0 n) (gN 3) L0__law_lists (n + 1) 0 [some (v0), some (.ref 0), some (.ref 1), none, none, none, none, none, none] [.lst (xs.map .int), .lst []] = .nx [some (v0), some (.ref 0), some (.ref 1), y3, y4, y5, none, none, none] H ∧ LsAt H 1 ws ∧ ws.length = n := by
    refine forR_inv (fun t s h => ∃ (y3 y4 y5 : Option MV) (ws : List BkD), s = [some (v0), some (.ref 0), some (.ref 1), y3, y4, y5, none, none, none] ∧ h[0]? = some (.lst (xs.map .int)) ∧ LsAt h 1 ws ∧ ws.length = t)
      (fun r => ∃ (y3 y4 y5 : Option MV) (H : MH) (ws : List BkD), r = .nx [some (v0), some (.ref 0), some (.ref 1), y3, y4, y5, none, none, none] H ∧ LsAt H 1 ws ∧ ws.length = n) ⟨none, none, none, [], rfl, rfl, ⟨rfl, fun d h => by cases h⟩, rfl⟩ ?_ ?_
    · rintro t s h ht ⟨y3, y4, y5, ws, rfl, h0, l, rfl⟩
      refine ⟨_, rfl, ?_⟩
      simp only [Int.zero_add]
      show Turn _ _ (L0__law_lists [some (v0), some (.ref 0), some (.ref 1), some (.int (ws.length : Nat)), y4, y5, none, none, none] h)
      obtain ⟨z4, z5, H', d, e, g1, g2⟩ := ll_turn (x0 := some v0) (x4 := y4) (x5 := y5) (x6 := none) (x7 := none) (x8 := none) h0 xl l rfl (by omega) (by decide)
      rw [e, turn_nx]
      exact ⟨_, _, _, ws ++ [d], rfl, g1, g2, by simp⟩
    · rintro s h ⟨y3, y4, y5, ws, rfl, _, l, hw⟩
      exact ⟨y3, y4, y5, h, ws, rfl, l, hw⟩
  obtain ⟨y3, y4, y5, H, ws, lp, l, hw⟩ := lp
  have hr : -(2 ^ 62 : Int) ≤ (n : Int) ∧ (n : Int) < 2 ^ 62 := by omega
  have a2 : (sForR rng1 (aCons (e2 fMod (eA fInt (aCons (call 2 m__law_cell (aCons (eV 0) (aCons (eC (.int 1)) (aNil)))) (aNil))) (eC (.int 8))) (aNil)) (gN 3) (L0__law_lists)) [some (v0), some (.ref 0), some (.ref 1), none, none, none, none, none, none] [.lst (xs.map .int), .lst []] = .nx [some (v0), some (.ref 0), some (.ref 1), y3, y4, y5, none, none, none] H := by
    rw [sForR_ev]
    have : (aCons (e2 fMod (eA fInt (aCons (call 2 m__law_cell (aCons (eV 0) (aCons (eC (.int 1)) (aNil)))) (aNil))) (eC (.int 8))) (aNil)) [some (v0), some (.ref 0), some (.ref 1), none, none, none, none, none, none] [.lst (xs.map .int), .lst []] = .ok [.int (n : Nat)] [.lst (xs.map .int), .lst []] := by
      simp -implicitDefEqProofs [eV, C1', hn]
    rw [this, KFR_1, if_pos hr, Int.toNat_natCast]
    exact lp
  have a3 : (sAsg (eA fLst (aNil)) (gN 6)) [some (v0), some (.ref 0), some (.ref 1), y3, y4, y5, none, none, none] H = .nx [some (v0), some (.ref 0), some (.ref 1), y3, y4, y5, some (.ref H.length), none, none] (H ++ [MO.lst []]) := by
    simp -implicitDefEqProofs [z0]
  obtain ⟨N, eN⟩ : ∃ N, N = H.length := ⟨_, rfl⟩
  have ltN : 1 < N ∧ ∀ d ∈ ws, d.pl < N := ⟨by rw [eN]; exact (List.getElem?_eq_some_iff.mp l.q).1, fun d hd => by rw [eN]; exact (List.getElem?_eq_some_iff.mp (l.v d hd).1).1⟩
  have hN : (H ++ [MO.lst []])[N]? = some (.lst (([] : List Str).map .str)) := by rw [eN]; exact at_app0
  have l1 := l.app (T := [.lst []])
  have rr : N < (H ++ [MO.lst []]).length := by rw [eN]; simp
  rw [← eN] at a3
  generalize H ++ [MO.lst []] = H1 at *
  have l2 := l1.app (T := [.lst (ps.map .int)])
  have hN2 := app_at (t := [MO.lst (ps.map .int)]) hN
  have hR2 : (H1 ++ [MO.lst (ps.map .int)])[H1.length]? = some (.lst (ps.map .int)) := at_app0
  generalize hq : H1.length = rp at *
  have lp2 : ∃ (y7 y8 : Option MV) (H' : MH) (names : List Str), forG (getSeq (.ref rp)) (gN 7) L1__law_lists ((ps.map MV.int).length + 1) 0 [some (v0), some (.ref 0), some (.ref 1), y3, y4, y5, some (.ref N), none, none] (H1 ++ [MO.lst (ps.map .int)]) = .nx [some (v0), some (.ref 0), some (.ref 1), y3, y4, y5, some (.ref N), y7, y8] H' ∧
      LsAt H' 1 ws ∧ H'[N]? = some (.lst (names.map .str)) ∧ (∀ nm ∈ names, isNm nm) ∧ names.length < 64 := by
    refine forS_inv (v := .ref rp) (xs := ps.map .int) (fun t s h => ∃ (y7 y8 : Option MV) (names : List Str), s = [some (v0), some (.ref 0), some (.ref 1), y3, y4, y5, some (.ref N), y7, y8] ∧ h[rp]? = some (.lst (ps.map .int)) ∧ LsAt h 1 ws ∧ h[N]? = some (.lst (names.map .str)) ∧ (∀ nm ∈ names, isNm nm) ∧ names.length ≤ t)
      (fun r => ∃ (y7 y8 : Option MV) (H' : MH) (names : List Str), r = .nx [some (v0), some (.ref 0), some (.ref 1), y3, y4, y5, some (.ref N), y7, y8] H' ∧ LsAt H' 1 ws ∧ H'[N]? = some (.lst (names.map .str)) ∧ (∀ nm ∈ names, isNm nm) ∧ names.length < 64)
      ⟨none, none, [], rfl, hR2, l2, hN2, fun _ h => (by cases h), Nat.zero_le _⟩ ?_ ?_ ?_
    · rintro t s h ⟨_, _, _, _, hr, _⟩
      exact seqOf_ref hr
    · rintro t s h ht ⟨y7, y8, names, rfl, hr, l3, hn3, ok3, ln3⟩
      have ht' : t < ps.length := by simpa using ht
      have e : (ps.map MV.int)[t] = .int ps[t] := by simp
      rw [e]
      refine ⟨_, rfl, ?_⟩
      show Turn _ _ (L1__law_lists [some (v0), some (.ref 0), some (.ref 1), y3, y4, y5, some (.ref N), some (.int ps[t]), y8] h)
      obtain ⟨z8, g, names', E, ok4, ln4⟩ := ln_turn (x0 := some v0) (x1 := some (.ref 0)) (x2 := some (.ref 1)) (x3 := y3) (x4 := y4) (x5 := y5) (x8 := y8) (Rlt _ (List.getElem_mem ht')) hn3 ok3 (by omega)
      rw [E, turn_nx]
      refine ⟨_, _, names', rfl, ?_, ?_, ?_, ok4, by omega⟩
      · rw [List.getElem?_set_ne (by omega)]; exact app_at hr
      · exact l3.app.set (by omega) fun d hd => by have := ltN.2 d hd; omega
      · exact List.getElem?_set_self (List.getElem?_eq_some_iff.mp (app_at (t := g) hn3)).1
    · rintro s h ⟨y7, y8, names, rfl, _, l3, hn3, ok3, ln3⟩
      exact ⟨y7, y8, h, names, rfl, l3, hn3, ok3, by rw [List.length_map] at ln3; omega⟩
  obtain ⟨y7, y8, H', names, lp2, l3, hn3, ok3, ln3⟩ := lp2
  have a4 : (sFor (call 3 m__law_row (aCons (call 2 m__law_cell (aCons (eV 0) (aCons (eC (.int 2)) (aNil)))) (aCons (e2 fMod (eA fInt (aCons (call 2 m__law_cell (aCons (eV 0) (aCons (eC (.int 3)) (aNil)))) (aNil))) (eC (.int 5))) (aCons (eC (.int 5)) (aNil))))) (gN 7) (L1__law_lists)) [some (v0), some (.ref 0), some (.ref 1), y3, y4, y5, some (.ref N), none, none] H1 = .nx [some (v0), some (.ref 0), some (.ref 1), y3, y4, y5, some (.ref N), y7, y8] H' := by
    rw [sFor_ev]
    have Rb := Rb H1
    rw [hq] at Rb
    have : (call 3 m__law_row (aCons (call 2 m__law_cell (aCons (eV 0) (aCons (eC (.int 2)) (aNil)))) (aCons (e2 fMod (eA fInt (aCons (call 2 m__law_cell (aCons (eV 0) (aCons (eC (.int 3)) (aNil)))) (aNil))) (eC (.int 5))) (aCons (eC (.int 5)) (aNil))))) [some (v0), some (.ref 0), some (.ref 1), y3, y4, y5, some (.ref N), none, none] H1 = .ok (.ref rp) (H1 ++ [MO.lst (ps.map .int)]) := by
      simp -implicitDefEqProofs [eV, C2', C3', hn2, Rb]
    rw [this, KFo_ref hR2]
    exact lp2
  have z2 : 2 ≤ SZ := by decide
  have a5 : (sRet (eA fLst (aCons (eV 2) (aCons (eV 6) (aNil))))) [some (v0), some (.ref 0), some (.ref 1), y3, y4, y5, some (.ref N), y7, y8] H' = .rt (.ref H'.length) (H' ++ [.lst [.ref 1, .ref N]]) := by
    simp -implicitDefEqProofs [eV, z2]
  have fin : mDef 9 b__law_lists [v0] [] = .ok (.ref H'.length) (H' ++ [.lst [.ref 1, .ref N]]) := by
    have ex : (mDef 9 b__law_lists) [v0] [] = KD (b__law_lists [some (v0), none, none, none, none, none, none, none, none] []) := by
      simp -implicitDefEqProofs [mDef_ev]
    rw [ex]
    unfold b__law_lists
    rw [seqN a0, seqN a1, seqN a2, seqN a3, seqN a4, a5]
    rfl
  have hi : (H' ++ [MO.lst [.ref 1, .ref N]])[H'.length]? = some (.lst [.ref 1, .ref N]) := at_app0
  refine ⟨H'.length, H' ++ [.lst [.ref 1, .ref N]], 1, N, ws, names, ?_, hi, l3.app, app_at hn3, by omega, ln3, ok3⟩
  have g := gc_keep (f := mDef 9 b__law_lists) (xs := [v0]) (h := []) (g := H' ++ [.lst [.ref 1, .ref N]]) (k := H'.length) (o := .lst [.ref 1, .ref N]) (by simpa using fin) hi rfl
  simp at g
  exact g
end Lw
namespace Lw
open PySem L2 Mo BF
def mv (d : BkD) (p : Nat) : BkD := ⟨d.s, d.m, d.o, d.k, p⟩
def wat (ws : List BkD) (k : Nat) : BkD := (ws[k]?).getD ⟨"", "", "", "", 0⟩
def SwL (ws ds : List BkD) : Prop := ds.length = ws.length ∧ ∀ (k : Nat) (d : BkD), ds[k]? = some d → ∃ w, ws[k]? = some w ∧ d = mv w d.pl
theorem mv_words {d w : BkD} (h : d = mv w d.pl) : d.s = w.s ∧ d.m = w.m ∧ d.o = w.o ∧ d.k = w.k := by rw [h]; exact ⟨rfl, rfl, rfl, rfl⟩
theorem wkB_mv {d w e v : BkD} (h : d = mv w d.pl) (h2 : e = mv v e.pl) : wkB e d = wkB v w := by rw [h, h2]; rfl
theorem fbP_mv {d w : BkD} {names : List Str} (h : d = mv w d.pl) : fbP d names = fbP w names := by rw [h]; rfl
theorem filter_ix {p : BkD → Bool} : ∀ ws : List BkD, ((List.range ws.length).filter fun k => match ws[k]? with | some e => p e | none => false).map (wat ws) = ws.filter p
  | [] => rfl
  | a :: as => by
    have ih := filter_ix (p := p) as
    rw [List.length_cons, List.range_succ_eq_map, List.filter_cons, List.filter_map]
    have e0 : ((fun k => match (a :: as)[k]? with | some e => p e | none => false) ∘ Nat.succ) = fun k => match as[k]? with | some e => p e | none => false := by
      funext k; simp
    have e1 : (wat (a :: as) ∘ Nat.succ) = wat as := by funext k; simp [wat]
    rw [e0]
    by_cases c : p a = true
    · have : (match (a :: as)[0]? with | some e => p e | none => false) = true := c
      rw [if_pos this, List.map_cons, List.map_map, e1, ih, List.filter_cons, if_pos c]
      rfl
    · have : ¬ (match (a :: as)[0]? with | some e => p e | none => false) = true := c
      rw [if_neg this, List.map_map, e1, ih, List.filter_cons, if_neg c]
def wkL (ws : List BkD) (d : BkD) : List BkD := ws.filter fun e => wkB e d
theorem wkL_eq {ws : List BkD} {d : BkD} : (wkI ws d).map (wat ws) = wkL ws d := filter_ix (p := fun e => wkB e d) ws
section
variable {ws ds : List BkD} {d w : BkD} {names : List Str} {k : Nat}
theorem SwL.wkI (s : SwL ws ds) (h : d = mv w d.pl) : wkI ds d = wkI ws w := by
  unfold Lw.wkI
  rw [s.1]
  refine List.filter_congr fun k hk => ?_
  have hk := List.mem_range.mp hk
  have h1 : ds[k]? = some (ds[k]'(by rw [s.1]; exact hk)) := List.getElem?_eq_getElem _
  obtain ⟨v, h2, h3⟩ := s.2 k _ h1
  rw [h1, h2]
  exact wkB_mv h h3
theorem SwL.brkB (s : SwL ws ds) (hk : k < ws.length) : brkB ds names k = brkB ws names k := by
  have h1 : ds[k]? = some (ds[k]'(by rw [s.1]; exact hk)) := List.getElem?_eq_getElem _
  obtain ⟨v, h2, h3⟩ := s.2 k _ h1
  unfold Lw.brkB
  rw [h1, h2]
  show (fbP _ names).isNone = (fbP v names).isNone
  rw [fbP_mv h3]
theorem SwL.keptB (s : SwL ws ds) (hk : k < ws.length) : keptB ds names k = keptB ws names k := by
  have h1 : ds[k]? = some (ds[k]'(by rw [s.1]; exact hk)) := List.getElem?_eq_getElem _
  obtain ⟨v, h2, h3⟩ := s.2 k _ h1
  unfold Lw.keptB
  rw [h1, h2]
  show ((fbP _ names).isNone && decide _) = ((fbP v names).isNone && decide _)
  rw [fbP_mv h3, s.wkI h3]
  have : (Lw.wkI ws v).filter (Lw.brkB ds names) = (Lw.wkI ws v).filter (Lw.brkB ws names) := List.filter_congr fun j hj => s.brkB (wkI_lt hj)
  rw [this]
theorem SwL.kepts (s : SwL ws ds) : kepts ds names ds.length = kepts ws names ws.length := by
  unfold Lw.kepts
  rw [s.1]
  exact List.filter_congr fun j hj => s.keptB (List.mem_range.mp hj)
def keptW (ws : List BkD) (names : List Str) (d : BkD) : Bool := (fbP d names).isNone && decide ((wkL ws d).filter (fun e => (fbP e names).isNone) = [])
theorem keptW_eq (hk : ws[k]? = some d) : keptB ws names k = keptW ws names d := by
  unfold keptB keptW
  rw [hk]
  show ((fbP d names).isNone && decide _) = _
  congr 1
  rw [← wkL_eq, List.filter_map]
  have : (wkI ws d).filter ((fun e => (fbP e names).isNone) ∘ wat ws) = (wkI ws d).filter (brkB ws names) := by
    refine List.filter_congr fun j hj => ?_
    have hj := wkI_lt hj
    have h1 : ws[j]? = some ws[j] := List.getElem?_eq_getElem hj
    unfold brkB
    show (fbP (wat ws j) names).isNone = _
    unfold wat
    rw [h1]
    rfl
  rw [this]
  simp only [List.map_eq_nil_iff]
theorem kepts_lt {t j : Nat} (h : j ∈ kepts ws names t) : j < t := List.mem_range.mp (List.mem_filter.mp h).1
theorem wat_at (hk : k < ws.length) : ws[k]? = some (wat ws k) := by unfold wat; rw [List.getElem?_eq_getElem hk]; rfl
end
section
variable {H : MH} {ws : List BkD} {d e : BkD} {p i j : Nat}
theorem mRc_wd (hi : WLd H e) (hj : H[j]? = some (.lst [.str d.s, .str d.m, .str d.o, .str d.k])) : mRc H (.ref e.pl) (.ref j) = some (eqB e d) := by
  have hi := hi.1
  simp only [mRc, scM, flM, mEqS, asT, lstAt, hi, hj]
  simp [eqB, eqP]
theorem eqB_dec : decide (([e.s, e.m, e.o, e.k] : List Str) = [d.s, d.m, d.o, d.k]) = eqB e d := by
  have q : ∀ a b : Str, (a == b) = decide (a = b) := fun a b => by by_cases h : a = b <;> simp [h]
  unfold eqB eqP
  simp only [q, List.cons.injEq, and_true, Bool.decide_and]
theorem inL_wd (j : Nat) (hj : H[j]? = some (.lst [.str d.s, .str d.m, .str d.o, .str d.k])) : ∀ ws : List BkD, (∀ e ∈ ws, WLd H e) → inL (fun y => mEq 7 H y (.ref j)) (ws.map fun e => .ref e.pl) = some (ws.any fun e => eqB e d)
  | [], _ => by simp
  | e :: ws, h => by
    have h1 : H[e.pl]? = some (.lst (([e.s, e.m, e.o, e.k] : List Str).map .str)) := (h e List.mem_cons_self).1
    have hj' : H[j]? = some (.lst (([d.s, d.m, d.o, d.k] : List Str).map .str)) := hj
    rw [List.map_cons, inL_cons, inL_wd j hj ws fun x hx => h x (List.mem_cons_of_mem _ hx), mEq_strs h1 hj', KI_some, eqB_dec]
    rfl
theorem notIn_wd (l : LsAt H p ws) (hj : H[j]? = some (.lst [.str d.s, .str d.m, .str d.o, .str d.k])) : fNotInA (.ref j) (.ref p) H = some (.bl (!(ws.any fun e => eqB e d)), H) := by
  unfold fNotInA
  rw [if_neg (by rw [isDM_lst l.q]; decide), fNotIn_ref l.q, inL_wd j hj ws l.v]
  rfl
theorem flt_eq {s : Lo} {g : MG} {c : MB} {m : ME} {q : BkD → Bool} (l : LsAt H p ws) (hl : ws.length < 64)
    (hs : ∀ d ∈ ws, ∃ s1, g (.ref d.pl) s = some s1 ∧ ∀ acc, c s1 (H ++ [.lst acc]) = .ok (q d) (H ++ [.lst acc]) ∧ m s1 (H ++ [.lst acc]) = .ok (.ref d.pl) (H ++ [.lst acc])) :
    lcV g c m s (.ref p) H = .ok (.ref H.length) (H ++ [.lst ((ws.filter q).map fun d => .ref d.pl)]) := by
  have zz : SZ = 16777216 := rfl
  let rd : Nat → BkD := fun i => match H[i]? with
    | some (.lst [.str s, .str m, .str o, .str k]) => ⟨s, m, o, k, i⟩
    | _ => ⟨"", "", "", "", i⟩
  have hrd : ∀ d ∈ ws, rd d.pl = d := fun d hd => by
    show (match H[d.pl]? with | some (.lst [.str s, .str m, .str o, .str k]) => (⟨s, m, o, k, d.pl⟩ : BkD) | _ => ⟨"", "", "", "", d.pl⟩) = d
    rw [(l.v d hd).1]
  have G := lcS_run (h := H) (s := s) (g := g) (c := c) (m := m) (xs := ws.map fun d => .ref d.pl) (f := id) (p := fun v => match v with | .ref i => q (rd i) | _ => false)
    (by rw [List.length_map]; omega) l.q (fun x hx => by
      obtain ⟨d, hd, rfl⟩ := List.mem_map.mp hx
      obtain ⟨s1, h1, h2⟩ := hs d hd
      refine ⟨s1, h1, fun acc => ⟨?_, fun _ => (h2 acc).2⟩⟩
      show _ = Rz.ok (q (rd d.pl)) _
      rw [hrd d hd]
      exact (h2 acc).1)
  rw [G, List.map_id, List.filter_map]
  congr 5
  refine List.filter_congr fun d hd => ?_
  show q (rd d.pl) = q d
  rw [hrd d hd]
theorem LsAt.flt {q : BkD → Bool} (l : LsAt H p ws) : LsAt (H ++ [.lst ((ws.filter q).map fun d => .ref d.pl)]) H.length (ws.filter q) :=
  ⟨at_app0, fun d h => WL.app (l.v d (List.mem_filter.mp h).1)⟩
def jn (d : BkD) : Str := Txt.join " " [d.s, d.m, d.o, d.k]
theorem okW_len {s m o k : Str} (w : okW s m o k) : s.length + m.length + o.length + k.length ≤ 30 := by
  have e : ∀ x : Str, x.length ≤ 7 → x.length ≤ 7 := fun _ h => h
  have a1 : s.length ≤ 7 := by rcases w.1 with rfl | rfl <;> decide
  have a2 : m.length ≤ 7 := by rcases w.2.1 with rfl | rfl <;> decide
  have a3 : o.length ≤ 7 := by rcases w.2.2.1 with rfl | rfl <;> decide
  have a4 : k.length ≤ 7 := by rcases w.2.2.2 with rfl | rfl | rfl <;> decide
  omega
theorem fJoin_wd (w : WL H j d.s d.m d.o d.k) : fJoin (.str " ") [.ref j] H = some (.str (jn d), H) := by
  have := okW_len w.2
  have e : strsM [.str d.s, .str d.m, .str d.o, .str d.k] = some [d.s, d.m, d.o, d.k] := rfl
  have b : (([d.s, d.m, d.o, d.k] : List Str).map (·.length)).sum + ([d.s, d.m, d.o, d.k] : List Str).length * (Str.ofString " ").length ≤ 16777216 := by
    have : (Str.ofString " ").length = 1 := by decide
    rw [this]
    simp
    omega
  unfold fJoin
  simp only [seqOf, w.1, e]
  rw [if_pos b]
  rfl
end
end Lw
namespace Lw
open PySem L2 Mo BF
def Su (B h : MH) : Prop := ∀ (i : Nat) (o : MO), B[i]? = some o → h[i]? = some o
theorem Su.refl {B : MH} : Su B B := fun _ _ h => h
theorem Su.app {B h T : MH} (s : Su B h) : Su B (h ++ T) := fun i o e => app_at (s i o e)
theorem Su.set {B h : MH} {i : Nat} {o : MO} (s : Su B h) (hi : B.length ≤ i) : Su B (h.set i o) := fun j p e => by
  have := (List.getElem?_eq_some_iff.mp e).1
  rw [List.getElem?_set_ne (by omega)]
  exact s j p e
theorem LsAt.su {B h : MH} {p : Nat} {ws : List BkD} (l : LsAt B p ws) (s : Su B h) : LsAt h p ws := ⟨s _ _ l.q, fun d hd => ⟨s _ _ (l.v d hd).1, (l.v d hd).2⟩⟩
section
variable {H : MH} {ws kl : List BkD} {d : BkD} {N L lf : Nat} {names : List Str} {x0 x1 x4 x5 x6 x9 x10 x11 x12 : Option MV}
theorem wk_z2 (l : LsAt H L ws) (wo : okW d.s d.m d.o d.k) (hl : ws.length < 64) (p : Nat) (hp : H[p]? = some (.lst [.str d.s, .str d.m, .str d.o, .str d.k])) :
    lcV (gN 14) ZT2_law Z2_law [x0, x1, some (.ref L), some (.ref N), x4, x5, x6, some (.ref lf), some (.ref p), x9, x10, x11, x12, none, none, none] (.ref L) H = .ok (.ref H.length) (H ++ [MO.lst ((wkL ws d).map fun d => .ref d.pl)]) := by
  refine flt_eq l hl fun e he => ⟨[x0, x1, some (.ref L), some (.ref N), x4, x5, x6, some (.ref lf), some (.ref p), x9, x10, x11, x12, none, some (.ref e.pl), none], rfl, fun acc => ?_⟩
  have we : WLd (H ++ [MO.lst acc]) e := WL.app (l.v e he)
  have hp1 := app_at (t := [MO.lst acc]) hp
  have C1 := lam_eq we.2 wo we.1 hp1
  have C1 : m__law_at_most [.ref e.pl, .ref p] (H ++ [MO.lst acc]) = .ok (.bl (leB e d)) (H ++ [MO.lst acc]) := C1
  have C2 := mRc_wd we hp1
  generalize H ++ [MO.lst acc] = X at *
  constructor
  · unfold wkB
    cases h1 : leB e d <;> cases h2 : eqB e d <;> rw [h1] at C1 <;> rw [h2] at C2 <;> simp -implicitDefEqProofs [ZT2_law, eV, C1, C2]
  · simp -implicitDefEqProofs [Z2_law, eV]
theorem lf_turn (hn : ∀ nm ∈ names, isNm nm) (l : LsAt H L ws) (hd : d ∈ ws) (hl : ws.length < 64) (qn : H[N]? = some (.lst (names.map .str))) (kk : LsAt H lf kl) (hkl : kl.length < 64) :
    ∃ y9 y10 g, L0_law [x0, x1, some (.ref L), some (.ref N), x4, x5, x6, some (.ref lf), some (.ref d.pl), x9, x10, x11, x12, none, none, none] H = .nx [x0, x1, some (.ref L), some (.ref N), x4, x5, x6, some (.ref lf), some (.ref d.pl), y9, y10, x11, x12, none, none, none] (if keptW ws names d = true then (H ++ g).set lf (.lst (kl.map (fun d => MV.ref d.pl) ++ [.ref d.pl])) else H ++ g) := by
  have zz : SZ = 16777216 := rfl
  have z0 : 0 ≤ SZ := by decide
  have wd := l.v d hd
  have W := wk_z2 (x0 := x0) (x1 := x1) (x4 := x4) (x5 := x5) (x6 := x6) (x9 := x9) (x10 := x10) (x11 := x11) (x12 := x12) (N := N) (lf := lf) l wd.2 hl d.pl wd.1
  have a0 : (sAsg (eLc (eV 2) (gN 14) (ZT2_law) Z2_law [14]) (gN 9)) [x0, x1, some (.ref L), some (.ref N), x4, x5, x6, some (.ref lf), some (.ref d.pl), x9, x10, x11, x12, none, none, none] H = .nx [x0, x1, some (.ref L), some (.ref N), x4, x5, x6, some (.ref lf), some (.ref d.pl), some (.ref H.length), x10, x11, x12, none, none, none] (H ++ [MO.lst ((wkL ws d).map fun d => .ref d.pl)]) := by
    simp -implicitDefEqProofs [eV, eLc_ev, KCo_ok, wipeM, W]
  clear W
  have l1 : LsAt (H ++ [MO.lst ((wkL ws d).map fun d => .ref d.pl)]) H.length (wkL ws d) := l.flt
  have wd1 := WL.app (t := [.lst ((wkL ws d).map fun d => .ref d.pl)]) wd
  have qn1 := app_at (t := [MO.lst ((wkL ws d).map fun d => .ref d.pl)]) qn
  have kk1 := kk.app (T := [.lst ((wkL ws d).map fun d => .ref d.pl)])
  have hl1 : (wkL ws d).length < 64 := Nat.lt_of_le_of_lt (List.length_filter_le _ _) hl
  obtain ⟨T1, hT1⟩ : ∃ T, H ++ [MO.lst ((wkL ws d).map fun d => .ref d.pl)] = H ++ T := ⟨_, rfl⟩
  generalize hwp : H.length = wp at *
  generalize H ++ [MO.lst ((wkL ws d).map fun d => .ref d.pl)] = H1 at *
  have F : lcV (gN 14) ZT4_law Z4_law [x0, x1, some (.ref L), some (.ref N), x4, x5, x6, some (.ref lf), some (.ref d.pl), some (.ref wp), x10, x11, x12, none, none, none] (.ref wp) H1 = .ok (.ref H1.length) (H1 ++ [MO.lst (((wkL ws d).filter fun e => (fbP e names).isNone).map fun d => .ref d.pl)]) := by
    refine flt_eq l1 hl1 fun e he => ⟨[x0, x1, some (.ref L), some (.ref N), x4, x5, x6, some (.ref lf), some (.ref d.pl), some (.ref wp), x10, x11, x12, none, some (.ref e.pl), none], rfl, fun acc => ?_⟩
    have LB := law_broken_eq (d := e) hn (WL.app (t := [.lst acc]) (l1.v e he)) (app_at (t := [.lst acc]) qn1)
    generalize H1 ++ [MO.lst acc] = X at *
    constructor
    · cases h : fbP e names <;> rw [h] at LB <;> simp -implicitDefEqProofs [ZT4_law, eV, LB]
    · simp -implicitDefEqProofs [Z4_law, eV]
  have a1 : (sAsg (eLc (eV 9) (gN 14) (ZT4_law) Z4_law [14]) (gN 10)) [x0, x1, some (.ref L), some (.ref N), x4, x5, x6, some (.ref lf), some (.ref d.pl), some (.ref wp), x10, x11, x12, none, none, none] H1 = .nx [x0, x1, some (.ref L), some (.ref N), x4, x5, x6, some (.ref lf), some (.ref d.pl), some (.ref wp), some (.ref H1.length), x11, x12, none, none, none] (H1 ++ [MO.lst (((wkL ws d).filter fun e => (fbP e names).isNone).map fun d => .ref d.pl)]) := by
    simp -implicitDefEqProofs [eV, eLc_ev, KCo_ok, wipeM, F]
  clear F
  have l2 : LsAt (H1 ++ [MO.lst (((wkL ws d).filter fun e => (fbP e names).isNone).map fun d => .ref d.pl)]) H1.length ((wkL ws d).filter fun e => (fbP e names).isNone) := l1.flt
  have wd2 := WL.app (t := [.lst (((wkL ws d).filter fun e => (fbP e names).isNone).map fun d => .ref d.pl)]) wd1
  have qn2 := app_at (t := [MO.lst (((wkL ws d).filter fun e => (fbP e names).isNone).map fun d => .ref d.pl)]) qn1
  have kk2 := kk1.app (T := [.lst (((wkL ws d).filter fun e => (fbP e names).isNone).map fun d => .ref d.pl)])
  obtain ⟨T2, hT2⟩ : ∃ T, H1 ++ [MO.lst (((wkL ws d).filter fun e => (fbP e names).isNone).map fun d => .ref d.pl)] = H ++ T := ⟨_, by rw [hT1, List.append_assoc]⟩
  generalize hkp : H1.length = kp at *
  generalize H1 ++ [MO.lst (((wkL ws d).filter fun e => (fbP e names).isNone).map fun d => .ref d.pl)] = H2 at *
  have LB := law_broken_eq (d := d) hn wd2 qn2
  by_cases c0 : fbP d names = none
  · rw [c0] at LB
    have LB : m__law_broken [.ref d.pl, .ref N] H2 = .ok .non H2 := LB
    have q3 : (H2 ++ [MO.lst []])[H2.length]? = some (.lst []) := at_app0
    have kp3 := app_at (t := [MO.lst []]) l2.q
    have kk3 := kk2.app (T := [.lst []])
    have MM : mRc (H2 ++ [MO.lst []]) (.ref kp) (.ref H2.length) = some (decide (((wkL ws d).filter fun e => (fbP e names).isNone) = [])) := by
      rw [mRc_ll kp3 q3]
      cases (wkL ws d).filter fun e => (fbP e names).isNone with
      | nil => rfl
      | cons a as => simp
    have kw : keptW ws names d = decide (((wkL ws d).filter fun e => (fbP e names).isNone) = []) := by unfold keptW; rw [c0]; rfl
    rw [← kw] at MM
    obtain ⟨T3, hT3⟩ : ∃ T, H2 ++ [MO.lst []] = H ++ T := ⟨_, by rw [hT2, List.append_assoc]⟩
    refine ⟨some (.ref wp), some (.ref kp), T3, ?_⟩
    rw [← hT3]
    cases kv : keptW ws names d with
    | true =>
      rw [kv] at MM
      rw [if_pos rfl]
      have ap : fAppend (.ref lf) [.ref d.pl] (H2 ++ [MO.lst []]) = some (.non, (H2 ++ [MO.lst []]).set lf (.lst (kl.map (fun d => MV.ref d.pl) ++ [.ref d.pl]))) := fAppend_ref kk3.q (by rw [List.length_map]; omega)
      have il := isL_ref kk3.q
      unfold L0_law
      rw [seqN a0, seqN a1]
      generalize (H2 ++ [MO.lst []]).set lf (.lst (kl.map (fun d => MV.ref d.pl) ++ [.ref d.pl])) = X3 at *
      generalize hX : H2 ++ [MO.lst []] = X at *
      simp -implicitDefEqProofs [eV, LB, z0, hX, MM, il, ap]
    | false =>
      rw [kv] at MM
      rw [if_neg (by decide)]
      unfold L0_law
      rw [seqN a0, seqN a1]
      generalize hX : H2 ++ [MO.lst []] = X at *
      simp -implicitDefEqProofs [eV, LB, z0, hX, MM]
  · have kw : keptW ws names d = false := by
      unfold keptW
      cases h : fbP d names with
      | none => exact absurd h c0
      | some _ => rfl
    obtain ⟨nm, hnm⟩ := Option.ne_none_iff_exists'.mp c0
    rw [hnm] at LB
    have LB : m__law_broken [.ref d.pl, .ref N] H2 = .ok (.str nm) H2 := LB
    refine ⟨some (.ref wp), some (.ref kp), T2, ?_⟩
    rw [← hT2, kw, if_neg (by decide)]
    unfold L0_law
    rw [seqN a0, seqN a1]
    simp -implicitDefEqProofs [eV, LB]
end
section
variable {B : MH} {ws : List BkD} {N L : Nat} {names : List Str} {x0 x1 x4 x5 x6 : Option MV}
theorem lf_loop (hn : ∀ nm ∈ names, isNm nm) (l : LsAt B L ws) (hl : ws.length < 64) (qn : B[N]? = some (.lst (names.map .str))) :
    ∃ y8 y9 y10 H, forG (getSeq (.ref L)) (gN 8) L0_law ((ws.map fun d => MV.ref d.pl).length + 1) 0 [x0, x1, some (.ref L), some (.ref N), x4, x5, x6, some (.ref B.length), none, none, none, none, none, none, none, none] (B ++ [MO.lst []]) = .nx [x0, x1, some (.ref L), some (.ref N), x4, x5, x6, some (.ref B.length), y8, y9, y10, none, none, none, none, none] H ∧ Su B H ∧ LsAt H B.length ((kepts ws names ws.length).map (wat ws)) := by
  refine forS_inv (v := .ref L) (xs := ws.map fun d => MV.ref d.pl) (fun t s h => ∃ y8 y9 y10, s = [x0, x1, some (.ref L), some (.ref N), x4, x5, x6, some (.ref B.length), y8, y9, y10, none, none, none, none, none] ∧ Su B h ∧ LsAt h B.length ((kepts ws names t).map (wat ws)))
    (fun r => ∃ y8 y9 y10 H, r = .nx [x0, x1, some (.ref L), some (.ref N), x4, x5, x6, some (.ref B.length), y8, y9, y10, none, none, none, none, none] H ∧ Su B H ∧ LsAt H B.length ((kepts ws names ws.length).map (wat ws))) ⟨none, none, none, rfl, Su.refl.app, ⟨(by have e : (B ++ [MO.lst []])[B.length]? = some (.lst []) := at_app0; exact e), fun d h => by cases h⟩⟩ ?_ ?_ ?_
  · rintro t s h ⟨_, _, _, _, su, _⟩
    exact seqOf_ref (su _ _ l.q)
  · rintro t s h ht ⟨y8, y9, y10, rfl, su, k⟩
    have ht' : t < ws.length := by simpa using ht
    have e : (ws.map fun d => MV.ref d.pl)[t] = .ref ws[t].pl := by simp
    rw [e]
    refine ⟨_, rfl, ?_⟩
    have hm := List.getElem_mem ht'
    have hk : ws[t]? = some ws[t] := List.getElem?_eq_getElem ht'
    have hw : wat ws t = ws[t] := by unfold wat; rw [hk]; rfl
    obtain ⟨z9, z10, g, E⟩ := lf_turn (x0 := x0) (x1 := x1) (x4 := x4) (x5 := x5) (x6 := x6) (x9 := y9) (x10 := y10) (x11 := none) (x12 := none) (N := N) hn (l.su su) hm hl (su _ _ qn) k (by rw [List.length_map]; have := kepts_le (ds := ws) (names := names) (t := t); omega)
    show Turn _ _ (L0_law [x0, x1, some (.ref L), some (.ref N), x4, x5, x6, some (.ref B.length), some (.ref ws[t].pl), y9, y10, none, none, none, none, none] h)
    rw [E, turn_nx]
    refine ⟨_, _, _, rfl, ?_, ?_⟩
    · split
      · exact su.app.set (Nat.le_refl _)
      · exact su.app
    · rw [kepts_succ, keptW_eq hk]
      split
      · rw [List.map_append, List.map_singleton, hw]
        exact k.app.snoc ((l.su su).app.v _ hm) (by have := (List.getElem?_eq_some_iff.mp (l.v _ hm).1).1; omega)
      · exact k.app
  · rintro s h ⟨y8, y9, y10, rfl, su, k⟩
    rw [List.length_map] at k
    exact ⟨_, _, _, h, rfl, su, k⟩
end
end Lw
namespace Lw
open PySem L2 Mo BF
def RowsQ (H : MH) (ws : List BkD) (names : List Str) (d : BkD) (rows : List MV) : Prop := rows.length = (wkL ws d).length ∧
  ∀ (i : Nat) (e : BkD), (wkL ws d)[i]? = some e → ∃ b nm r, rows[i]? = some (.tup [.ref b.pl, .str nm, .ref r]) ∧ b = mv e b.pl ∧ BookAt H b ∧ fbP b names = some nm ∧ H[r]? = some (.lst ((Pr b nm).map .str))
theorem BookAt.su {B h : MH} {d : BkD} (b : BookAt B d) (s : Su B h) : BookAt h d := ⟨let ⟨r, q⟩ := b.1; ⟨r, s _ _ q⟩, b.2⟩
theorem RowsQ.su {B h : MH} {ws : List BkD} {names : List Str} {d : BkD} {rows : List MV} (q : RowsQ B ws names d rows) (s : Su B h) : RowsQ h ws names d rows :=
  ⟨q.1, fun i e he => let ⟨b, nm, r, h1, h2, h3, h4, h5⟩ := q.2 i e he; ⟨b, nm, r, h1, h2, h3.su s, h4, s _ _ h5⟩⟩
theorem RowsOk.rowsQ {B : MH} {fo rw : Nat} {ws ds : List BkD} {d w : BkD} {names : List Str} (s : SwL ws ds) (h : d = mv w d.pl) (bs : ∀ b ∈ ds, BookP B b) (r : RowsOk B fo names ds d rw) : ∃ rows, B[rw]? = some (.lst rows) ∧ RowsQ B ws names d rows := by
  obtain ⟨rows, h1, h2, h3⟩ := r
  have e1 : wkL ws d = (wkI ds d).map (wat ws) := by
    rw [s.wkI h, wkL_eq]
    unfold wkL
    refine List.filter_congr fun e _ => ?_
    rw [h]; rfl
  refine ⟨rows, h1, by rw [h2, e1, List.length_map], fun i e he => ?_⟩
  rw [e1, List.getElem?_map] at he
  cases hj : (wkI ds d)[i]? with
  | none => rw [hj] at he; cases he
  | some j =>
    rw [hj] at he
    have he : e = wat ws j := (Option.some.inj he).symm
    have hlt := wkI_lt (List.mem_of_getElem? hj)
    have hb : ds[j]? = some ds[j] := List.getElem?_eq_getElem hlt
    obtain ⟨v, g1, g2⟩ := s.2 j _ hb
    obtain ⟨y, a1, nm, r, a2, rfl, _, a4⟩ := h3 i j _ hj hb
    have : wat ws j = v := by unfold wat; rw [g1]; rfl
    exact ⟨ds[j], nm, r, a1, by rw [he, this]; exact g2, (bs _ (List.getElem_mem hlt)).at, a2, a4⟩
theorem eqB_mv {b e : BkD} (h : b = mv e b.pl) : eqB e b = true := by rw [h]; simp [eqB, eqP, mv]
theorem jn_mv {b e : BkD} (h : b = mv e b.pl) : jn b = jn e := by rw [h]; rfl
theorem su_app {H T : MH} : Su H (H ++ T) := fun _ _ e => app_at e
section
variable {H : MH} {ws : List BkD} {d : BkD} {N L lf wk rw p : Nat} {names : List Str} {rows : List MV} {x0 x1 x4 x5 x6 x8 x9 x10 x12 : Option MV}
theorem ys_jn {Ls : List BkD} {ys : List MV} {n : Nat} (h1 : ys.length = n) (h2 : n = Ls.length) (h : ∀ (k : Nat) (y : MV), ys[k]? = some y → ∀ e : BkD, Ls[k]? = some e → y = MV.str (jn e)) : ys = (Ls.map jn).map .str := by
  refine List.ext_getElem? fun k => ?_
  rw [List.map_map, List.getElem?_map]
  by_cases c : k < Ls.length
  · have c2 : k < ys.length := by omega
    have e1 := List.getElem?_eq_getElem c
    have e2 := List.getElem?_eq_getElem c2
    rw [e1, e2, h k _ e2 _ e1]
    rfl
  · rw [List.getElem?_eq_none (by omega), List.getElem?_eq_none (by omega)]
    rfl
theorem pr_a5 (hr : H[rw]? = some (.lst rows)) (q : RowsQ H ws names d rows) (hl : (wkL ws d).length < 64) :
    ∃ T z, (sAsg (eA fSortS (aCons (eLc (e2 fIxA (eV 11) (eC (.int 1))) (gN 15) (bYes) Z8_law [15]) (aNil))) (gN 12)) [x0, x1, some (.ref L), some (.ref N), x4, x5, x6, some (.ref lf), some (.ref p), some (.ref wk), x10, some (.tup [.ref d.pl, .ref rw]), x12, none, none, none] H = .nx [x0, x1, some (.ref L), some (.ref N), x4, x5, x6, some (.ref lf), some (.ref p), some (.ref wk), x10, some (.tup [.ref d.pl, .ref rw]), some (.ref z), none, none, none] (H ++ T) ∧ (H ++ T)[z]? = some (.lst ((srt ((wkL ws d).map jn)).map .str)) := by
  have zz : SZ = 16777216 := rfl
  obtain ⟨ys, T, e1, e2, _, e4⟩ := lcS_rel (h := H) (s := [x0, x1, some (.ref L), some (.ref N), x4, x5, x6, some (.ref lf), some (.ref p), some (.ref wk), x10, some (.tup [.ref d.pl, .ref rw]), x12, none, none, none]) (g := gN 15) (m := Z8_law) (xs := rows) (P := fun _ => True) (R := fun k y T => ∀ e : BkD, (wkL ws d)[k]? = some e → y = MV.str (jn e)) (by rw [q.1]; omega) hr (fun _ _ _ _ h => h)
    (fun k hk => by
      have hk' : k < (wkL ws d).length := by rw [← q.1]; exact hk
      have he := List.getElem?_eq_getElem hk'
      obtain ⟨b, nm, r, g1, g2, g3, g4, g5⟩ := q.2 k _ he
      have e0 : rows[k] = .tup [.ref b.pl, .str nm, .ref r] := by
        rw [List.getElem?_eq_getElem hk] at g1; exact Option.some.inj g1
      rw [e0]
      refine ⟨[x0, x1, some (.ref L), some (.ref N), x4, x5, x6, some (.ref lf), some (.ref p), some (.ref wk), x10, some (.tup [.ref d.pl, .ref rw]), x12, none, none, some (.tup [.ref b.pl, .str nm, .ref r])], rfl, fun acc T _ => ⟨.str (jn b), [.lst [.str b.s, .str b.m, .str b.o, .str b.k]], ?_, trivial, fun e hee => ?_⟩⟩
      · have i0 : ∀ X, fIxA (.tup [.ref b.pl, .str nm, .ref r]) (.int 0) X = some (.ref b.pl, X) := fun _ => rfl
        have BA : BookAt (H ++ MO.lst acc :: T) b := g3.app
        have WO := words_of_eq BA
        have J := fJoin_wd (words_WL BA)
        rw [show H ++ MO.lst acc :: (T ++ [.lst [.str b.s, .str b.m, .str b.o, .str b.k]]) = H ++ MO.lst acc :: T ++ [.lst [.str b.s, .str b.m, .str b.o, .str b.k]] from by simp]
        generalize H ++ MO.lst acc :: T = X at *
        generalize X ++ [MO.lst [.str b.s, .str b.m, .str b.o, .str b.k]] = X1 at *
        simp -implicitDefEqProofs [Z8_law, eV, -fIxA_ev, i0, WO, J]
      · rw [he] at hee; cases hee
        rw [jn_mv g2])
  have ey := ys_jn e2 q.1 e4
  subst ey
  have i1 : ∀ X, fIxA (.tup [.ref d.pl, .ref rw]) (.int 1) X = some (.ref rw, X) := fun _ => rfl
  have q2 : (H ++ MO.lst (((wkL ws d).map jn).map .str) :: T)[H.length]? = some (.lst (((wkL ws d).map jn).map .str)) := by
    rw [List.getElem?_append_right (Nat.le_refl _), Nat.sub_self]; rfl
  have S := fSortS_ev q2 (by rw [List.length_map]; exact hl)
  refine ⟨MO.lst (((wkL ws d).map jn).map .str) :: T ++ [.lst ((srt ((wkL ws d).map jn)).map .str)], (H ++ MO.lst (((wkL ws d).map jn).map .str) :: T).length, ?_, ?_⟩
  · rw [← List.append_assoc]
    generalize H ++ MO.lst (((wkL ws d).map jn).map .str) :: T = X at *
    simp -implicitDefEqProofs [eV, -fIxA_ev, i1, eLc_ev, KCo_ok, wipeM, e1, S]
  · rw [← List.append_assoc]; exact at_app0
theorem pr_a6 {z : Nat} (l : LsAt H wk (wkL ws d)) (hl : (wkL ws d).length < 64) (hz : H[z]? = some (.lst ((srt ((wkL ws d).map jn)).map .str))) :
    ∃ T, (sIf (bB (e2 fNe (eV 12) (eA fSortS (aCons (eLc (eV 9) (gN 14) (bYes) Z9_law [14]) (aNil))))) (sRet (eC (.bl false))) (sNx)) [x0, x1, some (.ref L), some (.ref N), x4, x5, x6, some (.ref lf), some (.ref p), some (.ref wk), x10, some (.tup [.ref d.pl, .ref rw]), some (.ref z), none, none, none] H = .nx [x0, x1, some (.ref L), some (.ref N), x4, x5, x6, some (.ref lf), some (.ref p), some (.ref wk), x10, some (.tup [.ref d.pl, .ref rw]), some (.ref z), none, none, none] (H ++ T) := by
  have zz : SZ = 16777216 := rfl
  obtain ⟨ys, T, e1, e2, _, e4⟩ := lcS_rel (h := H) (s := [x0, x1, some (.ref L), some (.ref N), x4, x5, x6, some (.ref lf), some (.ref p), some (.ref wk), x10, some (.tup [.ref d.pl, .ref rw]), some (.ref z), none, none, none]) (g := gN 14) (m := Z9_law) (xs := (wkL ws d).map fun d => .ref d.pl) (P := fun _ => True) (R := fun k y T => ∀ e : BkD, (wkL ws d)[k]? = some e → y = MV.str (jn e)) (by rw [List.length_map]; omega) l.q (fun _ _ _ _ h => h)
    (fun k hk => by
      have hk' : k < (wkL ws d).length := by simpa using hk
      have he := List.getElem?_eq_getElem hk'
      have hm := List.getElem_mem hk'
      rw [List.getElem_map]
      generalize (wkL ws d)[k] = e at *
      refine ⟨[x0, x1, some (.ref L), some (.ref N), x4, x5, x6, some (.ref lf), some (.ref p), some (.ref wk), x10, some (.tup [.ref d.pl, .ref rw]), some (.ref z), none, some (.ref e.pl), none], rfl, fun acc T _ => ⟨.str (jn e), [], ?_, trivial, fun e' hee => ?_⟩⟩
      · have J := fJoin_wd (WL.app (t := .lst acc :: T) (l.v e hm))
        rw [List.append_nil]
        generalize H ++ MO.lst acc :: T = X at *
        simp -implicitDefEqProofs [Z9_law, eV, J]
      · rw [he] at hee; cases hee
        rfl)
  have ey := ys_jn e2 (by rw [List.length_map]) e4
  subst ey
  have q2 : (H ++ MO.lst (((wkL ws d).map jn).map .str) :: T)[H.length]? = some (.lst (((wkL ws d).map jn).map .str)) := by
    rw [List.getElem?_append_right (Nat.le_refl _), Nat.sub_self]; rfl
  have S := fSortS_ev q2 (by rw [List.length_map]; exact hl)
  have hz2 : (H ++ MO.lst (((wkL ws d).map jn).map .str) :: T ++ [.lst ((srt ((wkL ws d).map jn)).map .str)])[z]? = some (.lst ((srt ((wkL ws d).map jn)).map .str)) := app_at (app_at hz)
  have MM := mRc_strs hz2 (at_app0 (h := H ++ MO.lst (((wkL ws d).map jn).map .str) :: T))
  rw [decide_eq_true rfl] at MM
  refine ⟨MO.lst (((wkL ws d).map jn).map .str) :: T ++ [.lst ((srt ((wkL ws d).map jn)).map .str)], ?_⟩
  rw [← List.append_assoc]
  generalize H ++ MO.lst (((wkL ws d).map jn).map .str) :: T = X at *
  generalize hY : X ++ [MO.lst ((srt ((wkL ws d).map jn)).map .str)] = Y at *
  simp -implicitDefEqProofs [eV, eLc_ev, KCo_ok, wipeM, e1, S, MM]
theorem pr_a7 (hn : ∀ nm ∈ names, isNm nm) (hr : H[rw]? = some (.lst rows)) (q : RowsQ H ws names d rows) (hl : (wkL ws d).length < 64) (l : LsAt H wk (wkL ws d)) (qn : H[N]? = some (.lst (names.map .str))) :
    ∃ T, (sIf (bB (e2 fNe (eLc (e2 fIxA (eV 11) (eC (.int 1))) (gN 15) (ZT10_law) Z10_law [15]) (eA fLst (aNil)))) (sRet (eC (.bl false))) (sNx)) [x0, x1, some (.ref L), some (.ref N), x4, x5, x6, some (.ref lf), some (.ref p), some (.ref wk), x10, some (.tup [.ref d.pl, .ref rw]), x12, none, none, none] H = .nx [x0, x1, some (.ref L), some (.ref N), x4, x5, x6, some (.ref lf), some (.ref p), some (.ref wk), x10, some (.tup [.ref d.pl, .ref rw]), x12, none, none, none] (H ++ T) := by
  have zz : SZ = 16777216 := rfl
  have G := lcS_run (h := H) (s := [x0, x1, some (.ref L), some (.ref N), x4, x5, x6, some (.ref lf), some (.ref p), some (.ref wk), x10, some (.tup [.ref d.pl, .ref rw]), x12, none, none, none]) (g := gN 15) (c := ZT10_law) (m := Z10_law) (xs := rows) (f := id) (p := fun _ => false) (by rw [q.1]; omega) hr (fun x hx => by
    obtain ⟨k, hk, rfl⟩ := List.mem_iff_getElem.mp hx
    have hk' : k < (wkL ws d).length := by rw [← q.1]; exact hk
    have he := List.getElem?_eq_getElem hk'
    have hm := List.getElem_mem hk'
    generalize (wkL ws d)[k] = e at *
    obtain ⟨b, nm, r, g1, g2, g3, g4, g5⟩ := q.2 k _ he
    have e0 : rows[k] = .tup [.ref b.pl, .str nm, .ref r] := by
      rw [List.getElem?_eq_getElem hk] at g1; exact Option.some.inj g1
    rw [e0]
    refine ⟨[x0, x1, some (.ref L), some (.ref N), x4, x5, x6, some (.ref lf), some (.ref p), some (.ref wk), x10, some (.tup [.ref d.pl, .ref rw]), x12, none, none, some (.tup [.ref b.pl, .str nm, .ref r])], rfl, fun acc => ⟨?_, fun z => by cases z⟩⟩
    have BA : BookAt (H ++ [MO.lst acc]) b := g3.app
    have NI := notIn_wd ((l.app (T := [.lst acc])).app (T := [.lst [.str b.s, .str b.m, .str b.o, .str b.k]])) (words_WL BA).1
    have an : ((wkL ws d).any fun e => eqB e b) = true := List.any_eq_true.mpr ⟨e, hm, eqB_mv g2⟩
    rw [an] at NI
    have RR := row_right_eq hn BA (app_at g5) Pr_len g4 (app_at qn) NI
    generalize H ++ [MO.lst acc] = X at *
    simp -implicitDefEqProofs [ZT10_law, eV, RR])
  rw [List.filter_eq_nil_iff.mpr (fun _ _ => by decide)] at G
  have G : lcV (gN 15) ZT10_law Z10_law [x0, x1, some (.ref L), some (.ref N), x4, x5, x6, some (.ref lf), some (.ref p), some (.ref wk), x10, some (.tup [.ref d.pl, .ref rw]), x12, none, none, none] (.ref rw) H = .ok (.ref H.length) (H ++ [MO.lst []]) := G
  have i1 : ∀ X, fIxA (.tup [.ref d.pl, .ref rw]) (.int 1) X = some (.ref rw, X) := fun _ => rfl
  have q1 : (H ++ [MO.lst []] ++ [.lst []])[H.length]? = some (.lst []) := app_at at_app0
  have q2 : (H ++ [MO.lst []] ++ [.lst []])[(H ++ [MO.lst []]).length]? = some (.lst []) := at_app0
  have MM : mRc (H ++ [MO.lst []] ++ [.lst []]) (.ref H.length) (.ref (H ++ [MO.lst []]).length) = some true := by rw [mRc_ll q1 q2]; rfl
  have z0 : 0 ≤ SZ := by decide
  refine ⟨[.lst []] ++ [.lst []], ?_⟩
  rw [← List.append_assoc]
  generalize hX : H ++ [MO.lst []] = X at *
  generalize hY : X ++ [MO.lst []] = Y at *
  simp -implicitDefEqProofs [eV, -fIxA_ev, i1, eLc_ev, KCo_ok, wipeM, G, z0, hY, MM]
end
end Lw
namespace Lw
open PySem L2 Mo BF
theorem strOk_w {s m o k : Str} (w : okW s m o k) : ([s, m, o, k] : List Str).all PyData.strOk = true := by
  have a1 : PyData.strOk s = true := by rcases w.1 with rfl | rfl <;> decide +kernel
  have a2 : PyData.strOk m = true := by rcases w.2.1 with rfl | rfl <;> decide +kernel
  have a3 : PyData.strOk o = true := by rcases w.2.2.1 with rfl | rfl <;> decide +kernel
  have a4 : PyData.strOk k = true := by rcases w.2.2.2 with rfl | rfl | rfl <;> decide +kernel
  simp [a1, a2, a3, a4]
theorem strsAt_wd {H : MH} {p : Nat} {s m o k : Str} (w : WL H p s m o k) : strsAt H (.ref p) = some [s, m, o, k] := by
  have e : strsM [.str s, .str m, .str o, .str k] = some [s, m, o, k] := rfl
  simp only [strsAt, w.1, e]
  rw [if_pos (strOk_w w.2)]
theorem strsAll_wd {H : MH} : ∀ ws : List BkD, (∀ e ∈ ws, WLd H e) → strsAll H (ws.map fun e => .ref e.pl) = some (ws.map fun e => [e.s, e.m, e.o, e.k])
  | [], _ => rfl
  | e :: ws, h => by
    have h1 := strsAt_wd (h e List.mem_cons_self)
    have h2 := strsAll_wd ws fun x hx => h x (List.mem_cons_of_mem _ hx)
    simp only [List.map_cons, strsAll, h1, h2]
section
variable {B H : MH} {ws rest : List BkD} {d lw : BkD} {N L lf rw : Nat} {names : List Str} {rows : List MV} {x0 x1 x4 x5 x6 x8 x9 x10 x12 : Option MV}
theorem pr_turn (hn : ∀ nm ∈ names, isNm nm) (su : Su B H) (l : LsAt B L ws) (hl : ws.length < 64) (qn : B[N]? = some (.lst (names.map .str))) (hb : BookAt B d) (hr : B[rw]? = some (.lst rows)) (q : RowsQ B ws names d rows)
    (hlf : B.length ≤ lf) (k : LsAt H lf (lw :: rest)) (kB : ∀ e ∈ rest, WLd B e) (hm : d = mv lw d.pl) :
    ∃ y8 y9 y12 H', L1_law [x0, x1, some (.ref L), some (.ref N), x4, x5, x6, some (.ref lf), x8, x9, x10, some (.tup [.ref d.pl, .ref rw]), x12, none, none, none] H = .nx [x0, x1, some (.ref L), some (.ref N), x4, x5, x6, some (.ref lf), y8, y9, x10, some (.tup [.ref d.pl, .ref rw]), y12, none, none, none] H' ∧ Su B H' ∧ LsAt H' lf rest := by
  have hl1 : (wkL ws d).length < 64 := Nat.lt_of_le_of_lt (List.length_filter_le _ _) hl
  have hrH := su _ _ hr
  have i0 : ∀ X, fIxA (.tup [.ref d.pl, .ref rw]) (.int 0) X = some (.ref d.pl, X) := fun _ => rfl
  have i1 : ∀ X, fIxA (.tup [.ref d.pl, .ref rw]) (.int 1) X = some (.ref rw, X) := fun _ => rfl
  have a0 : (sIf (bOr (bNot (bT (eA (fIsi ownT) (aCons (eV 11) (aCons (eC (.ty "tuple")) (aNil)))))) (bOr (bB (e2 fNe (eA fLen (aCons (eV 11) (aNil))) (eC (.int 2)))) (bNot (bT (eA (fIsi ownT) (aCons (e2 fIxA (eV 11) (eC (.int 1))) (aCons (eC (.ty "list")) (aNil)))))))) (sRet (eC (.bl false))) (sNx)) [x0, x1, some (.ref L), some (.ref N), x4, x5, x6, some (.ref lf), x8, x9, x10, some (.tup [.ref d.pl, .ref rw]), x12, none, none, none] H = .nx [x0, x1, some (.ref L), some (.ref N), x4, x5, x6, some (.ref lf), x8, x9, x10, some (.tup [.ref d.pl, .ref rw]), x12, none, none, none] H := by
    simp -implicitDefEqProofs [eV, -fIxA_ev, i1, fIsi, tyM, isiM, ownOf, tabT, hrH, show tabB "tuple" "tuple" = some true from by decide +kernel, show tabB "list" "list" = some true from by decide +kernel]
  have BA := hb.su su
  have WO := words_of_eq BA
  have a1 : (sAsg (call 1 m__law_words_of (aCons (e2 fIxA (eV 11) (eC (.int 0))) (aNil))) (gN 8)) [x0, x1, some (.ref L), some (.ref N), x4, x5, x6, some (.ref lf), x8, x9, x10, some (.tup [.ref d.pl, .ref rw]), x12, none, none, none] H = .nx [x0, x1, some (.ref L), some (.ref N), x4, x5, x6, some (.ref lf), some (.ref H.length), x9, x10, some (.tup [.ref d.pl, .ref rw]), x12, none, none, none] (H ++ [MO.lst [.str d.s, .str d.m, .str d.o, .str d.k]]) := by
    simp -implicitDefEqProofs [eV, -fIxA_ev, i0, WO]
  have w1 := words_WL BA
  have k1 := k.app (T := [.lst [.str d.s, .str d.m, .str d.o, .str d.k]])
  have NI := notIn_wd k1 w1.1
  have an : ((lw :: rest).any fun e => eqB e d) = true := List.any_eq_true.mpr ⟨lw, List.mem_cons_self, eqB_mv hm⟩
  rw [an] at NI
  have su1 : Su B (H ++ [MO.lst [.str d.s, .str d.m, .str d.o, .str d.k]]) := su.app
  have lp : lf < H.length := (List.getElem?_eq_some_iff.mp k.q).1
  generalize hp : H.length = p at *
  generalize H ++ [MO.lst [.str d.s, .str d.m, .str d.o, .str d.k]] = H1 at *
  have a2 : (sIf (bB (e2 fNotInA (eV 8) (eV 7))) (sRet (eC (.bl false))) (sNx)) [x0, x1, some (.ref L), some (.ref N), x4, x5, x6, some (.ref lf), some (.ref p), x9, x10, some (.tup [.ref d.pl, .ref rw]), x12, none, none, none] H1 = .nx [x0, x1, some (.ref L), some (.ref N), x4, x5, x6, some (.ref lf), some (.ref p), x9, x10, some (.tup [.ref d.pl, .ref rw]), x12, none, none, none] H1 := by
    simp -implicitDefEqProofs [eV, -fNotInA_ev, NI]
  have RM : fRemS (.ref lf) [.ref p] H1 = some (.non, H1.set lf (.lst (rest.map fun e => .ref e.pl))) := by
    have := fRemS_ref (j := 0) k1.q (strsAll_wd _ k1.v) (strsAt_wd w1) (by
      obtain ⟨e1, e2, e3, e4⟩ := mv_words hm
      rw [List.map_cons, List.findIdx?_cons, ← e1, ← e2, ← e3, ← e4]
      simp)
    exact this
  have il := isL_ref k1.q
  have a3 : (sExp (eMt isL fRemS (eV 7) (aCons (eV 8) (aNil)))) [x0, x1, some (.ref L), some (.ref N), x4, x5, x6, some (.ref lf), some (.ref p), x9, x10, some (.tup [.ref d.pl, .ref rw]), x12, none, none, none] H1 = .nx [x0, x1, some (.ref L), some (.ref N), x4, x5, x6, some (.ref lf), some (.ref p), x9, x10, some (.tup [.ref d.pl, .ref rw]), x12, none, none, none] (H1.set lf (.lst (rest.map fun e => .ref e.pl))) := by
    generalize H1.set lf (.lst (rest.map fun e => .ref e.pl)) = X at *
    simp -implicitDefEqProofs [eV, il, RM]
  have su2 : Su B (H1.set lf (.lst (rest.map fun e => .ref e.pl))) := su1.set hlf
  have k2 : LsAt (H1.set lf (.lst (rest.map fun e => .ref e.pl))) lf rest := ⟨List.getElem?_set_self (List.getElem?_eq_some_iff.mp k1.q).1, fun e he => ⟨su2 _ _ (kB e he).1, (kB e he).2⟩⟩
  have p2 : (H1.set lf (.lst (rest.map fun e => .ref e.pl)))[p]? = some (.lst [.str d.s, .str d.m, .str d.o, .str d.k]) := by
    rw [List.getElem?_set_ne (by omega)]; exact w1.1
  generalize H1.set lf (.lst (rest.map fun e => .ref e.pl)) = H2 at *
  have l2 := l.su su2
  have W : lcV (gN 14) ZT6_law Z6_law [x0, x1, some (.ref L), some (.ref N), x4, x5, x6, some (.ref lf), some (.ref p), x9, x10, some (.tup [.ref d.pl, .ref rw]), x12, none, none, none] (.ref L) H2 = .ok (.ref H2.length) (H2 ++ [MO.lst ((wkL ws d).map fun d => .ref d.pl)]) := wk_z2 l2 w1.2 hl p p2
  have a4 : (sAsg (eLc (eV 2) (gN 14) (ZT6_law) Z6_law [14]) (gN 9)) [x0, x1, some (.ref L), some (.ref N), x4, x5, x6, some (.ref lf), some (.ref p), x9, x10, some (.tup [.ref d.pl, .ref rw]), x12, none, none, none] H2 = .nx [x0, x1, some (.ref L), some (.ref N), x4, x5, x6, some (.ref lf), some (.ref p), some (.ref H2.length), x10, some (.tup [.ref d.pl, .ref rw]), x12, none, none, none] (H2 ++ [MO.lst ((wkL ws d).map fun d => .ref d.pl)]) := by
    simp -implicitDefEqProofs [eV, eLc_ev, KCo_ok, wipeM, W]
  have l3 : LsAt (H2 ++ [MO.lst ((wkL ws d).map fun d => .ref d.pl)]) H2.length (wkL ws d) := l2.flt
  have su3 : Su B (H2 ++ [MO.lst ((wkL ws d).map fun d => .ref d.pl)]) := su2.app
  have k3 := k2.app (T := [.lst ((wkL ws d).map fun d => .ref d.pl)])
  generalize H2.length = wk at *
  generalize H2 ++ [MO.lst ((wkL ws d).map fun d => .ref d.pl)] = H3 at *
  obtain ⟨T5, z, a5, hz⟩ := pr_a5 (x0 := x0) (x1 := x1) (x4 := x4) (x5 := x5) (x6 := x6) (x10 := x10) (x12 := x12) (N := N) (L := L) (lf := lf) (wk := wk) (p := p) (su3 _ _ hr) (q.su su3) hl1
  have su5 : Su B (H3 ++ T5) := su3.app
  have k5 := k3.app (T := T5)
  have l5 := l3.app (T := T5)
  generalize H3 ++ T5 = H5 at *
  obtain ⟨T6, a6⟩ := pr_a6 (x0 := x0) (x1 := x1) (x4 := x4) (x5 := x5) (x6 := x6) (x10 := x10) (N := N) (L := L) (lf := lf) (rw := rw) (p := p) l5 hl1 hz
  have su6 : Su B (H5 ++ T6) := su5.app
  have k6 := k5.app (T := T6)
  have l6 := l5.app (T := T6)
  generalize H5 ++ T6 = H6 at *
  obtain ⟨T7, a7⟩ := pr_a7 (x0 := x0) (x1 := x1) (x4 := x4) (x5 := x5) (x6 := x6) (x10 := x10) (x12 := some (.ref z)) (N := N) (L := L) (lf := lf) (wk := wk) (p := p) hn (su6 _ _ hr) (q.su su6) hl1 l6 (su6 _ _ qn)
  refine ⟨some (.ref p), some (.ref wk), some (.ref z), H6 ++ T7, ?_, su6.app, k6.app⟩
  unfold L1_law
  rw [seqN a0, seqN a1, seqN a2, seqN a3, seqN a4, seqN a5, seqN a6, a7]
end
section
variable {B H : MH} {ws ds : List BkD} {N L lf told fo : Nat} {names : List Str} {zs : List MV} {x0 x1 x4 x5 x8 x9 x10 x12 : Option MV}
theorem pr_loop (hn : ∀ nm ∈ names, isNm nm) (su : Su B H) (l : LsAt B L ws) (hl : ws.length < 64) (qn : B[N]? = some (.lst (names.map .str))) (sw : SwL ws ds) (bs : ∀ b ∈ ds, BookP B b) (hlf : B.length ≤ lf)
    (k : LsAt H lf ((kepts ws names ws.length).map (wat ws))) (ht : B[told]? = some (.lst zs)) (zl : zs.length = (kepts ds names ds.length).length)
    (zv : ∀ (i k : Nat) (d : BkD), (kepts ds names ds.length)[i]? = some k → ds[k]? = some d → ∃ rw, zs[i]? = some (.tup [.ref d.pl, .ref rw]) ∧ RowsOk B fo names ds d rw) :
    ∃ y8 y9 y11 y12 H', forG (getSeq (.ref told)) (gN 11) L1_law (zs.length + 1) 0 [x0, x1, some (.ref L), some (.ref N), x4, x5, some (.ref told), some (.ref lf), x8, x9, x10, none, none, none, none, none] H = .nx [x0, x1, some (.ref L), some (.ref N), x4, x5, some (.ref told), some (.ref lf), y8, y9, x10, y11, y12, none, none, none] H' ∧ LsAt H' lf [] := by
  rw [sw.kepts] at zl zv
  have Kl : ∀ j ∈ kepts ws names ws.length, j < ws.length := fun j hj => kepts_lt hj
  generalize kepts ws names ws.length = K at *
  refine forS_inv (v := .ref told) (xs := zs) (fun t s h => ∃ y8 y9 y11 y12, s = [x0, x1, some (.ref L), some (.ref N), x4, x5, some (.ref told), some (.ref lf), y8, y9, x10, y11, y12, none, none, none] ∧ Su B h ∧ LsAt h lf ((K.drop t).map (wat ws)))
    (fun r => ∃ y8 y9 y11 y12 H', r = .nx [x0, x1, some (.ref L), some (.ref N), x4, x5, some (.ref told), some (.ref lf), y8, y9, x10, y11, y12, none, none, none] H' ∧ LsAt H' lf []) ⟨x8, x9, none, none, rfl, su, k⟩ ?_ ?_ ?_
  · rintro t s h ⟨_, _, _, _, _, su, _⟩
    exact seqOf_ref (su _ _ ht)
  · rintro t s h hi ⟨y8, y9, y11, y12, rfl, su, k⟩
    have hi' : t < K.length := by omega
    have hK : K[t]? = some K[t] := List.getElem?_eq_getElem hi'
    have hw := Kl _ (List.getElem_mem hi')
    have hd : ds[K[t]]? = some (ds[K[t]]'(by rw [sw.1]; exact hw)) := List.getElem?_eq_getElem _
    obtain ⟨v, g1, g2⟩ := sw.2 _ _ hd
    obtain ⟨rw, z1, z2⟩ := zv t _ _ hK hd
    have hmd : ds[K[t]]'(by rw [sw.1]; exact hw) ∈ ds := List.getElem_mem _
    have wv : wat ws K[t] = v := by unfold wat; rw [g1]; rfl
    obtain ⟨rows, r1, r2⟩ := z2.rowsQ sw g2 bs
    have ez : zs[t] = .tup [.ref (ds[K[t]]'(by rw [sw.1]; exact hw)).pl, .ref rw] := by
      rw [List.getElem?_eq_getElem hi] at z1; exact Option.some.inj z1
    rw [ez]
    rw [List.drop_eq_getElem_cons hi', List.map_cons, wv] at k
    generalize ds[K[t]]'(by rw [sw.1]; exact hw) = d at *
    have kB : ∀ e ∈ (K.drop (t + 1)).map (wat ws), WLd B e := fun e he => by
      obtain ⟨j, hj, rfl⟩ := List.mem_map.mp he
      have hj := Kl j (List.mem_of_mem_drop hj)
      exact l.v _ (List.mem_of_getElem? (wat_at hj))
    obtain ⟨z8, z9, z12, H', E, su', k'⟩ := pr_turn (x0 := x0) (x1 := x1) (x4 := x4) (x5 := x5) (x6 := some (.ref told)) (x8 := y8) (x9 := y9) (x10 := x10) (x12 := y12) hn su l hl qn (bs d hmd).at r1 r2 hlf k kB g2
    refine ⟨_, rfl, ?_⟩
    show Turn _ _ (L1_law [x0, x1, some (.ref L), some (.ref N), x4, x5, some (.ref told), some (.ref lf), y8, y9, x10, some (.tup [.ref d.pl, .ref rw]), y12, none, none, none] h)
    rw [E, turn_nx]
    exact ⟨_, _, _, _, rfl, su', k'⟩
  · rintro s h ⟨y8, y9, y11, y12, rfl, su, k⟩
    rw [List.drop_eq_nil_of_le (by omega)] at k
    exact ⟨_, _, _, _, h, rfl, k⟩
end
end Lw
namespace Lw
open PySem L2 Mo BF
section
variable {H : MH} {ws ds : List BkD} {L bl : Nat} {s s1 : Lo}
theorem bks_eq (l : LsAt H L ws) (hl : ws.length < 64) {x0 x1 x3 : Option MV} :
    ∃ ds T, lcV (gN 8) bYes Z0_law [x0, x1, some (.ref L), x3, none, none, none, none, none, none, none, none, none, none, none, none] (.ref L) H = .ok (.ref H.length) (H ++ MO.lst (ds.map fun d => .ref d.pl) :: T) ∧
      SwL ws ds ∧ ∀ d ∈ ds, BookP (H ++ MO.lst (ds.map fun d => .ref d.pl) :: T) d := by
  have zz : SZ = 16777216 := rfl
  obtain ⟨ys, T, e1, e2, _, e4⟩ := lcS_rel (h := H) (s := [x0, x1, some (.ref L), x3, none, none, none, none, none, none, none, none, none, none, none, none]) (g := gN 8) (m := Z0_law) (xs := ws.map fun d => .ref d.pl) (P := fun _ => True)
    (R := fun k y T => ∀ e : BkD, ws[k]? = some e → ∃ p, y = MV.ref p ∧ ∀ acc, BookP (H ++ MO.lst acc :: T) (mv e p)) (by rw [List.length_map]; omega) l.q
    (fun k y T T' h e he => let ⟨p, h1, h2⟩ := h e he; ⟨p, h1, fun acc => by have := (h2 acc).app (t := T'); rwa [List.append_assoc] at this⟩)
    (fun k hk => by
      have hk' : k < ws.length := by simpa using hk
      have he := List.getElem?_eq_getElem hk'
      have hm := List.getElem_mem hk'
      rw [List.getElem_map]
      generalize ws[k] = e at *
      refine ⟨[x0, x1, some (.ref L), x3, none, none, none, none, some (.ref e.pl), none, none, none, none, none, none, none], rfl, fun acc T _ => ?_⟩
      have we : WLd (H ++ MO.lst acc :: T) e := WL.app (l.v e hm)
      have B := bk_eq we
      refine ⟨.ref (H ++ MO.lst acc :: T).length, [.ins "Book" (bfs e.s e.m e.o e.k ((H ++ MO.lst acc :: T).length + 1)), .lst [.tup [.str "stop", .str e.s], .tup [.str "move", .str e.m], .tup [.str "out", .str e.o], .tup [.str "marks", .str e.k]]], ?_, trivial, fun e' hee => ?_⟩
      · rw [show H ++ MO.lst acc :: (T ++ [MO.ins "Book" (bfs e.s e.m e.o e.k ((H ++ MO.lst acc :: T).length + 1)), .lst [.tup [.str "stop", .str e.s], .tup [.str "move", .str e.m], .tup [.str "out", .str e.o], .tup [.str "marks", .str e.k]]]) = H ++ MO.lst acc :: T ++ [MO.ins "Book" (bfs e.s e.m e.o e.k ((H ++ MO.lst acc :: T).length + 1)), .lst [.tup [.str "stop", .str e.s], .tup [.str "move", .str e.m], .tup [.str "out", .str e.o], .tup [.str "marks", .str e.k]]] from by simp]
        generalize H ++ MO.lst acc :: T = X at *
        simp -implicitDefEqProofs [Z0_law, eV, B]
      · rw [he] at hee; cases hee
        refine ⟨_, rfl, fun acc' => ?_⟩
        have el : (H ++ MO.lst acc :: T).length = (H ++ MO.lst acc' :: T).length := by simp
        rw [el]
        rw [show H ++ MO.lst acc' :: (T ++ [MO.ins "Book" (bfs e.s e.m e.o e.k ((H ++ MO.lst acc' :: T).length + 1)), .lst [.tup [.str "stop", .str e.s], .tup [.str "move", .str e.m], .tup [.str "out", .str e.o], .tup [.str "marks", .str e.k]]]) = H ++ MO.lst acc' :: T ++ [MO.ins "Book" (bfs e.s e.m e.o e.k ((H ++ MO.lst acc' :: T).length + 1)), .lst [.tup [.str "stop", .str e.s], .tup [.str "move", .str e.m], .tup [.str "out", .str e.o], .tup [.str "marks", .str e.k]]] from by simp]
        generalize H ++ MO.lst acc' :: T = X at *
        refine ⟨⟨X.length + 1, ?_, ?_⟩, we.2⟩
        · exact at_app0
        · rw [List.getElem?_append_right (by omega)]; simp; exact ⟨rfl, rfl, rfl, rfl⟩)
  rw [List.length_map] at e2
  let pl : Nat → Nat := fun k => match ys[k]? with | some (.ref p) => p | _ => 0
  have ok : ∀ k (hk : k < ws.length), ys[k]? = some (.ref (pl k)) ∧ ∀ acc, BookP (H ++ MO.lst acc :: T) (mv (wat ws k) (pl k)) := fun k hk => by
    have ey := List.getElem?_eq_getElem (show k < ys.length by omega)
    obtain ⟨p, h1, h2⟩ := e4 k _ ey _ (wat_at hk)
    have : pl k = p := by show (match ys[k]? with | some (.ref p) => p | _ => 0) = p; rw [ey, h1]
    rw [this, ey, h1]
    exact ⟨rfl, h2⟩
  have eys : ys = (((List.range ws.length).map fun k => mv (wat ws k) (pl k)).map fun d => MV.ref d.pl) := by
    refine List.ext_getElem? fun k => ?_
    rw [List.map_map, List.getElem?_map]
    by_cases c : k < ws.length
    · rw [(ok k c).1, List.getElem?_range c]; rfl
    · rw [List.getElem?_eq_none (by omega), List.getElem?_eq_none (by rw [List.length_range]; omega)]; rfl
  refine ⟨(List.range ws.length).map fun k => mv (wat ws k) (pl k), T, by rw [← eys]; exact e1, ⟨by simp, fun k d hd => ?_⟩, fun d hd => ?_⟩
  · rw [List.getElem?_map] at hd
    by_cases c : k < ws.length
    · rw [List.getElem?_range c] at hd
      cases hd
      exact ⟨_, wat_at c, rfl⟩
    · rw [List.getElem?_eq_none (by rw [List.length_range]; omega)] at hd
      cases hd
  · obtain ⟨k, hk, rfl⟩ := List.mem_map.mp hd
    exact (ok k (List.mem_range.mp hk)).2 _
theorem eqs_at {h : MH} {n : Nat} : ∀ (xs ys : List MV), xs.length = ys.length → (∀ (k : Nat) (x y : MV), xs[k]? = some x → ys[k]? = some y → mEq n h x y = some true) → eqs (mEq n h) xs ys = some true
  | [], [], _, _ => rfl
  | x :: xs, y :: ys, l, e => by
    rw [eqs_cons, e 0 x y rfl rfl, eqs_at xs ys (by simpa using l) fun k a b h1 h2 => e (k + 1) a b h1 h2]
    rfl
  | [], _ :: _, l, _ => by simp at l
  | _ :: _, [], l, _ => by simp at l
theorem wds_eq (l : LsAt H L ws) (hl : ws.length < 64) (sw : SwL ws ds) (bs : ∀ d ∈ ds, BookP H d) (qb : H[bl]? = some (.lst (ds.map fun d => .ref d.pl))) {x0 x1 x2 x3 x4 x5 x6 : Option MV} :
    ∃ ys T, lcV (gN 13) bYes Z1_law [x0, x1, x2, x3, x4, x5, x6, none, none, none, none, none, none, none, none, none] (.ref bl) H = .ok (.ref H.length) (H ++ MO.lst ys :: T) ∧ mRc (H ++ MO.lst ys :: T) (.ref H.length) (.ref L) = some true := by
  have zz : SZ = 16777216 := rfl
  have dl := sw.1
  obtain ⟨ys, T, e1, e2, _, e4⟩ := lcS_rel (h := H) (s := [x0, x1, x2, x3, x4, x5, x6, none, none, none, none, none, none, none, none, none]) (g := gN 13) (m := Z1_law) (xs := ds.map fun d => .ref d.pl) (P := fun _ => True)
    (R := fun k y T => ∀ e : BkD, ws[k]? = some e → ∃ p, y = MV.ref p ∧ ∀ acc, (H ++ MO.lst acc :: T)[p]? = some (.lst [.str e.s, .str e.m, .str e.o, .str e.k])) (by rw [List.length_map]; omega) qb
    (fun k y T T' h e he => let ⟨p, h1, h2⟩ := h e he; ⟨p, h1, fun acc => by have := app_at (t := T') (h2 acc); rwa [List.append_assoc] at this⟩)
    (fun k hk => by
      have hk' : k < ds.length := by simpa using hk
      have he := List.getElem?_eq_getElem hk'
      have hm := List.getElem_mem hk'
      rw [List.getElem_map]
      generalize ds[k] = b at *
      refine ⟨[x0, x1, x2, x3, x4, x5, x6, none, none, none, none, none, none, some (.ref b.pl), none, none], rfl, fun acc T _ => ?_⟩
      have WO := words_of_eq ((bs b hm).at.app (t := .lst acc :: T))
      refine ⟨.ref (H ++ MO.lst acc :: T).length, [.lst [.str b.s, .str b.m, .str b.o, .str b.k]], ?_, trivial, fun e' hee => ?_⟩
      · rw [show H ++ MO.lst acc :: (T ++ [.lst [.str b.s, .str b.m, .str b.o, .str b.k]]) = H ++ MO.lst acc :: T ++ [.lst [.str b.s, .str b.m, .str b.o, .str b.k]] from by simp]
        generalize H ++ MO.lst acc :: T = X at *
        simp -implicitDefEqProofs [Z1_law, eV, WO]
      · obtain ⟨v, g1, g2⟩ := sw.2 k b he
        rw [g1] at hee; cases hee
        obtain ⟨m1, m2, m3, m4⟩ := mv_words g2
        refine ⟨_, rfl, fun acc' => ?_⟩
        have el : (H ++ MO.lst acc :: T).length = (H ++ MO.lst acc' :: T).length := by simp
        rw [el, show H ++ MO.lst acc' :: (T ++ [.lst [.str b.s, .str b.m, .str b.o, .str b.k]]) = H ++ MO.lst acc' :: T ++ [.lst [.str b.s, .str b.m, .str b.o, .str b.k]] from by simp, at_app0, m1, m2, m3, m4]; rfl)
  rw [List.length_map] at e2
  refine ⟨ys, T, e1, ?_⟩
  have q1 : (H ++ MO.lst ys :: T)[H.length]? = some (.lst ys) := by rw [List.getElem?_append_right (Nat.le_refl _), Nat.sub_self]; rfl
  have q2 := app_at (t := MO.lst ys :: T) l.q
  rw [mRc_ll q1 q2, if_pos (by rw [List.length_map]; omega)]
  refine eqs_at _ _ (by rw [List.length_map]; omega) fun k x y h1 h2 => ?_
  rw [List.getElem?_map] at h2
  cases hw : ws[k]? with
  | none => rw [hw] at h2; cases h2
  | some e =>
    rw [hw] at h2
    have h2 : y = .ref e.pl := (Option.some.inj h2).symm
    obtain ⟨p, r1, r2⟩ := e4 k x h1 e hw
    rw [h2, r1]
    have w1 : (H ++ MO.lst ys :: T)[p]? = some (.lst (([e.s, e.m, e.o, e.k] : List Str).map .str)) := r2 ys
    have w2 : (H ++ MO.lst ys :: T)[e.pl]? = some (.lst (([e.s, e.m, e.o, e.k] : List Str).map .str)) := app_at (l.v e (List.mem_of_getElem? hw)).1
    rw [mEq_strs w1 w2, decide_eq_true rfl]
end
theorem pure_law (ns : List Int) (_ : ns.length ≤ 63) : ∃ h1, m_law [.frl (ns.map MV.int)] [] = .ok (.bl true) h1 := by
  obtain ⟨i, H0, L, N, ws, names, E0, hi, l0, qn0, wl, nl, hn⟩ := lists_eq ns
  have z0 : 0 ≤ SZ := by decide
  have wl : ws.length < 64 := by omega
  generalize hV : MV.frl (ns.map MV.int) = v0 at *
  obtain ⟨i0, i1⟩ := ix2 hi
  have a0 : (sAsg (call 1 m__law_lists (aCons (eV 0) (aNil))) (gN 1)) [some (v0), none, none, none, none, none, none, none, none, none, none, none, none, none, none, none] [] = .nx [some (v0), some (.ref i), none, none, none, none, none, none, none, none, none, none, none, none, none, none] H0 := by
    simp -implicitDefEqProofs [eV, E0]
  have a1 : (sAsg (e2 fIxA (eV 1) (eC (.int 0))) (gN 2)) [some (v0), some (.ref i), none, none, none, none, none, none, none, none, none, none, none, none, none, none] H0 = .nx [some (v0), some (.ref i), some (.ref L), none, none, none, none, none, none, none, none, none, none, none, none, none] H0 := by
    simp -implicitDefEqProofs [eV, -fIxA_ev, i0]
  have a2 : (sAsg (e2 fIxA (eV 1) (eC (.int 1))) (gN 3)) [some (v0), some (.ref i), some (.ref L), none, none, none, none, none, none, none, none, none, none, none, none, none] H0 = .nx [some (v0), some (.ref i), some (.ref L), some (.ref N), none, none, none, none, none, none, none, none, none, none, none, none] H0 := by
    simp -implicitDefEqProofs [eV, -fIxA_ev, i1]
  obtain ⟨ds, T, e3, sw, bs⟩ := bks_eq (x0 := some v0) (x1 := some (.ref i)) (x3 := some (.ref N)) l0 wl
  have a3 : (sAsg (eLc (eV 2) (gN 8) (bYes) Z0_law [8]) (gN 4)) [some (v0), some (.ref i), some (.ref L), some (.ref N), none, none, none, none, none, none, none, none, none, none, none, none] H0 = .nx [some (v0), some (.ref i), some (.ref L), some (.ref N), some (.ref H0.length), none, none, none, none, none, none, none, none, none, none, none] (H0 ++ MO.lst (ds.map fun d => .ref d.pl) :: T) := by
    simp -implicitDefEqProofs [eV, eLc_ev, KCo_ok, wipeM, e3]
  have qb1 : (H0 ++ MO.lst (ds.map fun d => .ref d.pl) :: T)[H0.length]? = some (.lst (ds.map fun d => .ref d.pl)) := by rw [List.getElem?_append_right (Nat.le_refl _), Nat.sub_self]; rfl
  have l1 := l0.app (T := .lst (ds.map fun d => .ref d.pl) :: T)
  have qn1 := app_at (t := MO.lst (ds.map fun d => .ref d.pl) :: T) qn0
  clear e3
  generalize H0.length = bl at *
  generalize H0 ++ MO.lst (ds.map fun d => .ref d.pl) :: T = H1 at *
  have fl := fList_ref qn1
  have a4 : (sAsg (eA fList (aCons (eV 3) (aNil))) (gN 5)) [some (v0), some (.ref i), some (.ref L), some (.ref N), some (.ref bl), none, none, none, none, none, none, none, none, none, none, none] H1 = .nx [some (v0), some (.ref i), some (.ref L), some (.ref N), some (.ref bl), some (.ref H1.length), none, none, none, none, none, none, none, none, none, none] (H1 ++ [MO.lst (names.map .str)]) := by
    simp -implicitDefEqProofs [eV, fl]
  have qa2 : (H1 ++ [MO.lst (names.map .str)])[H1.length]? = some (.lst (names.map .str)) := at_app0
  have qb2 := app_at (t := [MO.lst (names.map .str)]) qb1
  have qn2 := app_at (t := [MO.lst (names.map .str)]) qn1
  have l2 := l1.app (T := [.lst (names.map .str)])
  have bs2 : ∀ d ∈ ds, BookP (H1 ++ [MO.lst (names.map .str)]) d := fun d hd => (bs d hd).app
  clear fl
  generalize H1.length = al at *
  generalize H1 ++ [MO.lst (names.map .str)] = H2 at *
  obtain ⟨told, fo, zs, g, E5, ht, zl, zv⟩ := weakest_eq hn bs2 qb2 qa2 (by rw [sw.1]; exact wl)
  have a5 : (sAsg (call 2 m_weakest (aCons (eV 4) (aCons (eV 5) (aNil)))) (gN 6)) [some (v0), some (.ref i), some (.ref L), some (.ref N), some (.ref bl), some (.ref al), none, none, none, none, none, none, none, none, none, none] H2 = .nx [some (v0), some (.ref i), some (.ref L), some (.ref N), some (.ref bl), some (.ref al), some (.ref told), none, none, none, none, none, none, none, none, none] (H2 ++ g) := by
    simp -implicitDefEqProofs [eV, E5]
  have qa3 := app_at (t := g) qa2
  have qb3 := app_at (t := g) qb2
  have qn3 := app_at (t := g) qn2
  have l3 := l2.app (T := g)
  have bs3 : ∀ d ∈ ds, BookP (H2 ++ g) d := fun d hd => (bs2 d hd).app
  clear E5
  generalize H2 ++ g = H3 at *
  obtain ⟨ys, T3, e6, m6⟩ := wds_eq (x0 := some v0) (x1 := some (.ref i)) (x2 := some (.ref L)) (x3 := some (.ref N)) (x4 := some (.ref bl)) (x5 := some (.ref al)) (x6 := some (.ref told)) l3 wl sw bs3 qb3
  have n6 := mRc_strs qa3 qn3
  rw [decide_eq_true rfl] at n6
  have a6 : (sIf (bOr (bNot (bT (eA (fIsi ownT) (aCons (eV 6) (aCons (eC (.ty "list")) (aNil)))))) (bOr (bB (e2 fNe (eV 5) (eV 3))) (bB (e2 fNe (eLc (eV 4) (gN 13) (bYes) Z1_law [13]) (eV 2))))) (sRet (eC (.bl false))) (sNx)) [some (v0), some (.ref i), some (.ref L), some (.ref N), some (.ref bl), some (.ref al), some (.ref told), none, none, none, none, none, none, none, none, none] H3 = .nx [some (v0), some (.ref i), some (.ref L), some (.ref N), some (.ref bl), some (.ref al), some (.ref told), none, none, none, none, none, none, none, none, none] (H3 ++ MO.lst ys :: T3) := by
    generalize H3 ++ MO.lst ys :: T3 = X at *
    simp -implicitDefEqProofs [eV, eLc_ev, KCo_ok, wipeM, e6, m6, n6, fIsi, tyM, isiM, ownOf, tabT, ht, show tabB "list" "list" = some true from by decide +kernel]
  have su3 : Su H3 (H3 ++ MO.lst ys :: T3) := su_app
  have l4 := l3.su su3
  have qn4 := su3 _ _ qn3
  have bs4 : ∀ d ∈ ds, BookP (H3 ++ MO.lst ys :: T3) d := fun d hd => (bs3 d hd).app
  have ht4 := su3 _ _ ht
  have zv4 : ∀ (i k : Nat) (d : BkD), (kepts ds names ds.length)[i]? = some k → ds[k]? = some d → ∃ rw, zs[i]? = some (.tup [.ref d.pl, .ref rw]) ∧ RowsOk (H3 ++ MO.lst ys :: T3) fo names ds d rw := fun i k d h1 h2 => let ⟨rw, g1, g2⟩ := zv i k d h1 h2; ⟨rw, g1, g2.app⟩
  clear e6 m6 zv
  generalize H3 ++ MO.lst ys :: T3 = H4 at *
  have a7 : (sAsg (eA fLst (aNil)) (gN 7)) [some (v0), some (.ref i), some (.ref L), some (.ref N), some (.ref bl), some (.ref al), some (.ref told), none, none, none, none, none, none, none, none, none] H4 = .nx [some (v0), some (.ref i), some (.ref L), some (.ref N), some (.ref bl), some (.ref al), some (.ref told), some (.ref H4.length), none, none, none, none, none, none, none, none] (H4 ++ [MO.lst []]) := by
    simp -implicitDefEqProofs [z0]
  obtain ⟨y8, y9, y10, H5, e8, su5, k5⟩ := lf_loop (x0 := some v0) (x1 := some (.ref i)) (x4 := some (.ref bl)) (x5 := some (.ref al)) (x6 := some (.ref told)) hn l4 wl qn4
  have a8 : (sFor (eV 2) (gN 8) (L0_law)) [some (v0), some (.ref i), some (.ref L), some (.ref N), some (.ref bl), some (.ref al), some (.ref told), some (.ref H4.length), none, none, none, none, none, none, none, none] (H4 ++ [MO.lst []]) = .nx [some (v0), some (.ref i), some (.ref L), some (.ref N), some (.ref bl), some (.ref al), some (.ref told), some (.ref H4.length), y8, y9, y10, none, none, none, none, none] H5 := by
    rw [sFor_ev]
    have : (eV 2) [some (v0), some (.ref i), some (.ref L), some (.ref N), some (.ref bl), some (.ref al), some (.ref told), some (.ref H4.length), none, none, none, none, none, none, none, none] (H4 ++ [MO.lst []]) = .ok (.ref L) (H4 ++ [MO.lst []]) := eV_at rfl
    rw [this, KFo_ref (app_at l4.q)]
    exact e8
  obtain ⟨z8, z9, z11, z12, H6, e9, k6⟩ := pr_loop (x0 := some v0) (x1 := some (.ref i)) (x4 := some (.ref bl)) (x5 := some (.ref al)) (x8 := y8) (x9 := y9) (x10 := y10) hn su5 l4 wl qn4 sw bs4 (Nat.le_refl _) k5 ht4 zl zv4
  have a9 : (sFor (eV 6) (gN 11) (L1_law)) [some (v0), some (.ref i), some (.ref L), some (.ref N), some (.ref bl), some (.ref al), some (.ref told), some (.ref H4.length), y8, y9, y10, none, none, none, none, none] H5 = .nx [some (v0), some (.ref i), some (.ref L), some (.ref N), some (.ref bl), some (.ref al), some (.ref told), some (.ref H4.length), z8, z9, y10, z11, z12, none, none, none] H6 := by
    rw [sFor_ev]
    have : (eV 6) [some (v0), some (.ref i), some (.ref L), some (.ref N), some (.ref bl), some (.ref al), some (.ref told), some (.ref H4.length), y8, y9, y10, none, none, none, none, none] H5 = .ok (.ref told) H5 := eV_at rfl
    rw [this, KFo_ref (su5 _ _ ht4)]
    exact e9
  have q7 : (H6 ++ [MO.lst []])[H4.length]? = some (.lst []) := app_at k6.q
  have q8 : (H6 ++ [MO.lst []])[H6.length]? = some (.lst []) := at_app0
  have MM : mRc (H6 ++ [MO.lst []]) (.ref H4.length) (.ref H6.length) = some true := by rw [mRc_ll q7 q8]; rfl
  have a10 : (sRet (e2 fEq (eV 7) (eA fLst (aNil)))) [some (v0), some (.ref i), some (.ref L), some (.ref N), some (.ref bl), some (.ref al), some (.ref told), some (.ref H4.length), z8, z9, y10, z11, z12, none, none, none] H6 = .rt (.bl true) (H6 ++ [MO.lst []]) := by
    generalize hX : H6 ++ [MO.lst []] = X at *
    simp -implicitDefEqProofs [eV, z0, hX, MM]
  have ex : m_law [v0] [] = KD (b_law [some (v0), none, none, none, none, none, none, none, none, none, none, none, none, none, none, none] []) := by
    unfold m_law
    simp -implicitDefEqProofs [mDef_ev]
  refine ⟨H6 ++ [.lst []], ?_⟩
  rw [ex]
  unfold b_law
  rw [seqN a0, seqN a1, seqN a2, seqN a3, seqN a4, seqN a5, seqN a6, seqN a7, seqN a8, seqN a9, a10]
  rfl
end Lw
namespace Lw
open PySem L2 Mo
theorem sc__law_mixed : FnScope ["_law_number", "_law_k", "_law_early"] ["_law_number", "_law_k"] (defScope s__law_mixed) := ⟨rfl, rfl, rfl, by decide +kernel, rfl, by decide +kernel, by decide +kernel⟩
theorem sc__law_row : FnScope ["_law_cell_here", "_law_count", "_law_base", "_law_found", "_law_rest", "_law_k"] ["_law_cell_here", "_law_count", "_law_base"] (defScope s__law_row) := ⟨rfl, rfl, rfl, by decide +kernel, rfl, by decide +kernel, by decide +kernel⟩
theorem sc__law_cell : FnScope ["_law_script", "_law_k"] ["_law_script", "_law_k"] (defScope s__law_cell) := ⟨rfl, rfl, rfl, by decide +kernel, rfl, by decide +kernel, by decide +kernel⟩
theorem sc__law_words : FnScope ["_law_number", "_law_found"] ["_law_number"] (defScope s__law_words) := ⟨rfl, rfl, rfl, by decide +kernel, rfl, by decide +kernel, by decide +kernel⟩
theorem sc__law_lists : FnScope ["_law_script", "_law_draws", "_law_listed", "_law_k", "_law_fresh", "_law_at", "_law_names", "_law_pick", "_law_name"] ["_law_script"] (defScope s__law_lists) := ⟨rfl, rfl, rfl, by decide +kernel, rfl, by decide +kernel, by decide +kernel⟩
theorem sc_Promise___init__ : FnScope ["self", "name"] ["self", "name"] (defScope s_Promise___init__) := ⟨rfl, rfl, rfl, by decide +kernel, rfl, by decide +kernel, by decide +kernel⟩
theorem sc_Verdict___init__ : FnScope ["self", "kept", "table", "run"] ["self", "kept", "table", "run"] (defScope s_Verdict___init__) := ⟨rfl, rfl, rfl, by decide +kernel, rfl, by decide +kernel, by decide +kernel⟩
theorem sc_after_enter : FnScope ["place", "head", "own"] ["place", "head", "own"] (defScope s_after_enter) := ⟨rfl, rfl, rfl, by decide +kernel, rfl, by decide +kernel, by decide +kernel⟩
theorem sc_in_book : FnScope ["place"] ["place"] (defScope s_in_book) := ⟨rfl, rfl, rfl, by decide +kernel, rfl, by decide +kernel, by decide +kernel⟩
theorem sc_after_leave : FnScope ["place", "head", "own"] ["place", "head", "own"] (defScope s_after_leave) := ⟨rfl, rfl, rfl, by decide +kernel, rfl, by decide +kernel, by decide +kernel⟩
theorem sc_after_out : FnScope ["place", "head", "own", "plus"] ["place", "head", "own"] (defScope s_after_out) := ⟨rfl, rfl, rfl, by decide +kernel, rfl, by decide +kernel, by decide +kernel⟩
theorem sc_after_hear : FnScope ["place", "head", "own"] ["place", "head", "own"] (defScope s_after_hear) := ⟨rfl, rfl, rfl, by decide +kernel, rfl, by decide +kernel, by decide +kernel⟩
theorem sc_after_over : FnScope ["place", "head", "own"] ["place", "head", "own"] (defScope s_after_over) := ⟨rfl, rfl, rfl, by decide +kernel, rfl, by decide +kernel, by decide +kernel⟩
theorem sc_after_read : FnScope ["place", "head", "own"] ["place", "head", "own"] (defScope s_after_read) := ⟨rfl, rfl, rfl, by decide +kernel, rfl, by decide +kernel, by decide +kernel⟩
theorem sc_after_call : FnScope ["place", "head", "own"] ["place", "head", "own"] (defScope s_after_call) := ⟨rfl, rfl, rfl, by decide +kernel, rfl, by decide +kernel, by decide +kernel⟩
theorem sc_after : FnScope ["step", "place", "head", "own", "change"] ["step", "place", "head", "own"] (defScope s_after) := ⟨rfl, rfl, rfl, by decide +kernel, rfl, by decide +kernel, by decide +kernel⟩
theorem sc_place_dealt : FnScope ["place", "is_target"] ["place", "is_target"] (defScope s_place_dealt) := ⟨rfl, rfl, rfl, by decide +kernel, rfl, by decide +kernel, by decide +kernel⟩
theorem sc_has_answered : FnScope ["place", "own"] ["place", "own"] (defScope s_has_answered) := ⟨rfl, rfl, rfl, by decide +kernel, rfl, by decide +kernel, by decide +kernel⟩
theorem sc_is_awaited : FnScope ["place"] ["place"] (defScope s_is_awaited) := ⟨rfl, rfl, rfl, by decide +kernel, rfl, by decide +kernel, by decide +kernel⟩
theorem sc_may_be_dealt : FnScope ["head", "place", "other"] ["head", "place", "other"] (defScope s_may_be_dealt) := ⟨rfl, rfl, rfl, by decide +kernel, rfl, by decide +kernel, by decide +kernel⟩
theorem sc_after_deal : FnScope ["crew", "pair", "target", "first", "second"] ["crew", "pair", "target"] (defScope s_after_deal) := ⟨rfl, rfl, rfl, by decide +kernel, rfl, by decide +kernel, by decide +kernel⟩
theorem sc_steps : FnScope ["crew", "pair", "first", "second", "found", "word", "place", "target", "dealt"] ["crew", "pair"] (defScope s_steps) := ⟨rfl, rfl, rfl, by decide +kernel, rfl, by decide +kernel, by decide +kernel⟩
theorem sc_owns : FnScope ["place"] ["place"] (defScope s_owns) := ⟨rfl, rfl, rfl, by decide +kernel, rfl, by decide +kernel, by decide +kernel⟩
theorem sc_mark_moves : FnScope ["crew", "standing", "first", "second", "note", "places", "moves", "who", "other", "taken"] ["crew", "standing"] (defScope s_mark_moves) := ⟨rfl, rfl, rfl, by decide +kernel, rfl, by decide +kernel, by decide +kernel⟩
theorem sc_steady_move : FnScope ["standing", "label", "pair"] ["standing", "label", "pair"] (defScope s_steady_move) := ⟨rfl, rfl, rfl, by decide +kernel, rfl, by decide +kernel, by decide +kernel⟩
theorem sc_at_work : FnScope ["place"] ["place"] (defScope s_at_work) := ⟨rfl, rfl, rfl, by decide +kernel, rfl, by decide +kernel, by decide +kernel⟩
theorem sc_stops : FnScope ["word", "before", "now"] ["word", "before", "now"] (defScope s_stops) := ⟨rfl, rfl, rfl, by decide +kernel, rfl, by decide +kernel, by decide +kernel⟩
theorem sc_is_saved : FnScope ["head", "place", "other"] ["head", "place", "other"] (defScope s_is_saved) := ⟨rfl, rfl, rfl, by decide +kernel, rfl, by decide +kernel, by decide +kernel⟩
theorem sc_norepeat_move : FnScope ["crew", "standing", "label", "pair", "note", "word", "k", "before", "other"] ["crew", "standing", "label", "pair"] (defScope s_norepeat_move) := ⟨rfl, rfl, rfl, by decide +kernel, rfl, by decide +kernel, by decide +kernel⟩
theorem sc_forward_move : FnScope ["crew", "standing", "label", "pair", "note", "word", "who", "places", "now"] ["crew", "standing", "label", "pair"] (defScope s_forward_move) := ⟨rfl, rfl, rfl, by decide +kernel, rfl, by decide +kernel, by decide +kernel⟩
theorem sc_single_move : FnScope ["standing", "pair"] ["standing", "pair"] (defScope s_single_move) := ⟨rfl, rfl, rfl, by decide +kernel, rfl, by decide +kernel, by decide +kernel⟩
theorem sc_Promise___call__ : FnScope ["self", "crew", "standing", "moves", "label", "pair"] ["self", "crew", "standing"] (defScope s_Promise___call__) := ⟨rfl, rfl, rfl, by decide +kernel, rfl, by decide +kernel, by decide +kernel⟩
theorem sc_labels_to : FnScope ["origins", "standing", "labels", "origin"] ["origins", "standing"] (defScope s_labels_to) := ⟨rfl, rfl, rfl, by decide +kernel, rfl, by decide +kernel, by decide +kernel⟩
theorem sc_judge : FnScope ["crew", "name", "promise", "start", "origins", "table", "layer", "later", "standing", "label", "follower"] ["crew", "name"] (defScope s_judge) := ⟨rfl, rfl, rfl, by decide +kernel, rfl, by decide +kernel, by decide +kernel⟩
theorem sc_Crew___init__ : FnScope ["self", "head", "first", "second"] ["self", "head", "first", "second"] (defScope s_Crew___init__) := ⟨rfl, rfl, rfl, by decide +kernel, rfl, by decide +kernel, by decide +kernel⟩
theorem sc_Crew_plain : FnScope ["cls", "book"] ["cls", "book"] (defScope s_Crew_plain) := ⟨rfl, rfl, rfl, by decide +kernel, rfl, by decide +kernel, by decide +kernel⟩
theorem sc_first_broken : FnScope ["book", "names", "name", "verdict"] ["book", "names"] (defScope s_first_broken) := ⟨rfl, rfl, rfl, by decide +kernel, rfl, by decide +kernel, by decide +kernel⟩
theorem sc_at_most : FnScope ["options", "low", "high"] ["options", "low", "high"] (defScope s_at_most) := ⟨rfl, rfl, rfl, by decide +kernel, rfl, by decide +kernel, by decide +kernel⟩
theorem sc_Book___le__ : FnScope ["self", "other"] ["self", "other"] (defScope s_Book___le__) := ⟨rfl, rfl, rfl, by decide +kernel, rfl, by decide +kernel, by decide +kernel⟩
theorem sc_Book___eq__ : FnScope ["self", "other"] ["self", "other"] (defScope s_Book___eq__) := ⟨rfl, rfl, rfl, by decide +kernel, rfl, by decide +kernel, by decide +kernel⟩
theorem sc_weakest : FnScope ["books", "names", "broken", "found", "at", "book", "weaker", "rows", "k", "other"] ["books", "names"] (defScope s_weakest) := ⟨rfl, rfl, rfl, by decide +kernel, rfl, by decide +kernel, by decide +kernel⟩
theorem sc_Book___init__ : FnScope ["self", "stop", "move", "out", "marks", "option", "options"] ["self", "stop", "move", "out", "marks"] (defScope s_Book___init__) := ⟨rfl, rfl, rfl, by decide +kernel, rfl, by decide +kernel, by decide +kernel⟩
theorem sc__law_book : FnScope ["_law_words_here"] ["_law_words_here"] (defScope s__law_book) := ⟨rfl, rfl, rfl, by decide +kernel, rfl, by decide +kernel, by decide +kernel⟩
theorem sc__law_words_of : FnScope ["_law_book_here"] ["_law_book_here"] (defScope s__law_words_of) := ⟨rfl, rfl, rfl, by decide +kernel, rfl, by decide +kernel, by decide +kernel⟩
theorem sc__law_form : FnScope ["_law_name", "_law_head", "_law_first", "_law_second", "_law_both_all", "_law_calm"] ["_law_name", "_law_head", "_law_first", "_law_second"] (defScope s__law_form) := ⟨rfl, rfl, rfl, by decide +kernel, rfl, by decide +kernel, by decide +kernel⟩
theorem sc__law_broken : FnScope ["_law_words_here", "_law_names", "_law_name"] ["_law_words_here", "_law_names"] (defScope s__law_broken) := ⟨rfl, rfl, rfl, by decide +kernel, rfl, by decide +kernel, by decide +kernel⟩
theorem sc__law_at_most : FnScope ["_law_low", "_law_high", "_law_ranks", "_law_k"] ["_law_low", "_law_high"] (defScope s__law_at_most) := ⟨rfl, rfl, rfl, by decide +kernel, rfl, by decide +kernel, by decide +kernel⟩
theorem sc__law_breaks : FnScope ["_law_name", "_law_crew", "_law_run", "_law_promise", "_law_standing", "_law_k", "_law_found", "_law_leg"] ["_law_name", "_law_crew", "_law_run"] (defScope s__law_breaks) := ⟨rfl, rfl, rfl, by decide +kernel, rfl, by decide +kernel, by decide +kernel⟩
theorem sc__law_row_right : FnScope ["_law_row_here", "_law_names", "_law_weaker", "_law_words_here", "_law_crew"] ["_law_row_here", "_law_names", "_law_weaker"] (defScope s__law_row_right) := ⟨rfl, rfl, rfl, by decide +kernel, rfl, by decide +kernel, by decide +kernel⟩
theorem sc_law : FnScope ["_law_script", "_law_lists_here", "_law_listed", "_law_names", "_law_books", "_law_asked", "_law_told", "_law_left", "_law_words_here", "_law_weaker", "_law_kept", "_law_pair", "_law_found", "_law_book_here", "_law_other", "_law_row_here"] ["_law_script"] (defScope s_law) := ⟨rfl, rfl, rfl, by decide +kernel, rfl, by decide +kernel, by decide +kernel⟩
def exP (K : PySem.W.Frag) : Prop := He5.fnA K (dA_Crew_plain.at_ K) = dA_Crew_plain.val ∧ fnC K (He.fAd K ("BadBook", some "__init__")) "BadBook.__init__" (defArgs s_BadBook___init__) (defBody s_BadBook___init__) (defScope s_BadBook___init__) ∧ fnC K (He.fAd K ("UnknownName", some "__init__")) "UnknownName.__init__" (defArgs s_UnknownName___init__) (defBody s_UnknownName___init__) (defScope s_UnknownName___init__)
structure Ad where
  d__law_mixed : FuncData
  d__law_row : FuncData
  d__law_cell : FuncData
  d__law_words : FuncData
  d__law_lists : FuncData
  d_Promise___init__ : FuncData
  d_Verdict___init__ : FuncData
  d_after_enter : FuncData
  d_in_book : FuncData
  d_after_leave : FuncData
  d_after_out : FuncData
  d_after_hear : FuncData
  d_after_over : FuncData
  d_after_read : FuncData
  d_after_call : FuncData
  d_after : FuncData
  d_place_dealt : FuncData
  d_has_answered : FuncData
  d_is_awaited : FuncData
  d_may_be_dealt : FuncData
  d_after_deal : FuncData
  d_steps : FuncData
  d_owns : FuncData
  d_mark_moves : FuncData
  d_steady_move : FuncData
  d_at_work : FuncData
  d_stops : FuncData
  d_is_saved : FuncData
  d_norepeat_move : FuncData
  d_forward_move : FuncData
  d_single_move : FuncData
  d_Promise___call__ : FuncData
  d_labels_to : FuncData
  d_judge : FuncData
  d_Crew___init__ : FuncData
  d_Crew_plain : FuncData
  d_first_broken : FuncData
  d_at_most : FuncData
  d_Book___le__ : FuncData
  d_Book___eq__ : FuncData
  d_weakest : FuncData
  d_Book___init__ : FuncData
  d__law_book : FuncData
  d__law_words_of : FuncData
  d__law_form : FuncData
  d__law_broken : FuncData
  d__law_at_most : FuncData
  d__law_breaks : FuncData
  d__law_row_right : FuncData
  d_law : FuncData
structure Txt (P : Program) (w : World) (K : PySem.W.Frag) (mg : Str → Option Value) (A : Ad) : Prop where
  d__law_mixed : FunD K "_law_mixed" "_law_mixed" (defArgs s__law_mixed) (defBody s__law_mixed) (defScope s__law_mixed) [] [] (He.fAd K ("_law_mixed", none)) A.d__law_mixed
  B__law_mixed : Binds K A.d__law_mixed ["_law_number", "_law_k"] []
  d__law_row : FunD K "_law_row" "_law_row" (defArgs s__law_row) (defBody s__law_row) (defScope s__law_row) [] [] (He.fAd K ("_law_row", none)) A.d__law_row
  B__law_row : Binds K A.d__law_row ["_law_cell_here", "_law_count", "_law_base"] []
  d__law_cell : FunD K "_law_cell" "_law_cell" (defArgs s__law_cell) (defBody s__law_cell) (defScope s__law_cell) [] [] (He.fAd K ("_law_cell", none)) A.d__law_cell
  B__law_cell : Binds K A.d__law_cell ["_law_script", "_law_k"] []
  d__law_words : FunD K "_law_words" "_law_words" (defArgs s__law_words) (defBody s__law_words) (defScope s__law_words) [] [] (He.fAd K ("_law_words", none)) A.d__law_words
  B__law_words : Binds K A.d__law_words ["_law_number"] []
  d__law_lists : FunD K "_law_lists" "_law_lists" (defArgs s__law_lists) (defBody s__law_lists) (defScope s__law_lists) [] [] (He.fAd K ("_law_lists", none)) A.d__law_lists
  B__law_lists : Binds K A.d__law_lists ["_law_script"] []
  d_Promise___init__ : FunD K "__init__" "Promise.__init__" (defArgs s_Promise___init__) (defBody s_Promise___init__) (defScope s_Promise___init__) [] [] (He.fAd K ("Promise", some "__init__")) A.d_Promise___init__
  B_Promise___init__ : Binds K A.d_Promise___init__ ["self", "name"] []
  d_Verdict___init__ : FunD K "__init__" "Verdict.__init__" (defArgs s_Verdict___init__) (defBody s_Verdict___init__) (defScope s_Verdict___init__) [] [] (He.fAd K ("Verdict", some "__init__")) A.d_Verdict___init__
  B_Verdict___init__ : Binds K A.d_Verdict___init__ ["self", "kept", "table", "run"] []
  d_after_enter : FunD K "after_enter" "after_enter" (defArgs s_after_enter) (defBody s_after_enter) (defScope s_after_enter) [] [] (He.fAd K ("after_enter", none)) A.d_after_enter
  B_after_enter : Binds K A.d_after_enter ["place", "head", "own"] []
  d_in_book : FunD K "in_book" "in_book" (defArgs s_in_book) (defBody s_in_book) (defScope s_in_book) [] [] (He.fAd K ("in_book", none)) A.d_in_book
  B_in_book : Binds K A.d_in_book ["place"] []
  d_after_leave : FunD K "after_leave" "after_leave" (defArgs s_after_leave) (defBody s_after_leave) (defScope s_after_leave) [] [] (He.fAd K ("after_leave", none)) A.d_after_leave
  B_after_leave : Binds K A.d_after_leave ["place", "head", "own"] []
  d_after_out : FunD K "after_out" "after_out" (defArgs s_after_out) (defBody s_after_out) (defScope s_after_out) [] [] (He.fAd K ("after_out", none)) A.d_after_out
  B_after_out : Binds K A.d_after_out ["place", "head", "own"] []
  d_after_hear : FunD K "after_hear" "after_hear" (defArgs s_after_hear) (defBody s_after_hear) (defScope s_after_hear) [] [] (He.fAd K ("after_hear", none)) A.d_after_hear
  B_after_hear : Binds K A.d_after_hear ["place", "head", "own"] []
  d_after_over : FunD K "after_over" "after_over" (defArgs s_after_over) (defBody s_after_over) (defScope s_after_over) [] [] (He.fAd K ("after_over", none)) A.d_after_over
  B_after_over : Binds K A.d_after_over ["place", "head", "own"] []
  d_after_read : FunD K "after_read" "after_read" (defArgs s_after_read) (defBody s_after_read) (defScope s_after_read) [] [] (He.fAd K ("after_read", none)) A.d_after_read
  B_after_read : Binds K A.d_after_read ["place", "head", "own"] []
  d_after_call : FunD K "after_call" "after_call" (defArgs s_after_call) (defBody s_after_call) (defScope s_after_call) [] [] (He.fAd K ("after_call", none)) A.d_after_call
  B_after_call : Binds K A.d_after_call ["place", "head", "own"] []
  d_after : FunD K "after" "after" (defArgs s_after) (defBody s_after) (defScope s_after) [] [] (He.fAd K ("after", none)) A.d_after
  B_after : Binds K A.d_after ["step", "place", "head", "own"] []
  d_place_dealt : FunD K "place_dealt" "place_dealt" (defArgs s_place_dealt) (defBody s_place_dealt) (defScope s_place_dealt) [] [] (He.fAd K ("place_dealt", none)) A.d_place_dealt
  B_place_dealt : Binds K A.d_place_dealt ["place", "is_target"] []
  d_has_answered : FunD K "has_answered" "has_answered" (defArgs s_has_answered) (defBody s_has_answered) (defScope s_has_answered) [] [] (He.fAd K ("has_answered", none)) A.d_has_answered
  B_has_answered : Binds K A.d_has_answered ["place", "own"] []
  d_is_awaited : FunD K "is_awaited" "is_awaited" (defArgs s_is_awaited) (defBody s_is_awaited) (defScope s_is_awaited) [] [] (He.fAd K ("is_awaited", none)) A.d_is_awaited
  B_is_awaited : Binds K A.d_is_awaited ["place"] []
  d_may_be_dealt : FunD K "may_be_dealt" "may_be_dealt" (defArgs s_may_be_dealt) (defBody s_may_be_dealt) (defScope s_may_be_dealt) [] [] (He.fAd K ("may_be_dealt", none)) A.d_may_be_dealt
  B_may_be_dealt : Binds K A.d_may_be_dealt ["head", "place", "other"] []
  d_after_deal : FunD K "after_deal" "after_deal" (defArgs s_after_deal) (defBody s_after_deal) (defScope s_after_deal) [] [] (He.fAd K ("after_deal", none)) A.d_after_deal
  B_after_deal : Binds K A.d_after_deal ["crew", "pair", "target"] []
  d_steps : FunD K "steps" "steps" (defArgs s_steps) (defBody s_steps) (defScope s_steps) [] [] (He.fAd K ("steps", none)) A.d_steps
  B_steps : Binds K A.d_steps ["crew", "pair"] []
  d_owns : FunD K "owns" "owns" (defArgs s_owns) (defBody s_owns) (defScope s_owns) [] [] (He.fAd K ("owns", none)) A.d_owns
  B_owns : Binds K A.d_owns ["place"] []
  d_mark_moves : FunD K "mark_moves" "mark_moves" (defArgs s_mark_moves) (defBody s_mark_moves) (defScope s_mark_moves) [] [] (He.fAd K ("mark_moves", none)) A.d_mark_moves
  B_mark_moves : Binds K A.d_mark_moves ["crew", "standing"] []
  d_steady_move : FunD K "steady_move" "steady_move" (defArgs s_steady_move) (defBody s_steady_move) (defScope s_steady_move) [] [] (He.fAd K ("steady_move", none)) A.d_steady_move
  B_steady_move : Binds K A.d_steady_move ["standing", "label", "pair"] []
  d_at_work : FunD K "at_work" "at_work" (defArgs s_at_work) (defBody s_at_work) (defScope s_at_work) [] [] (He.fAd K ("at_work", none)) A.d_at_work
  B_at_work : Binds K A.d_at_work ["place"] []
  d_stops : FunD K "stops" "stops" (defArgs s_stops) (defBody s_stops) (defScope s_stops) [] [] (He.fAd K ("stops", none)) A.d_stops
  B_stops : Binds K A.d_stops ["word", "before", "now"] []
  d_is_saved : FunD K "is_saved" "is_saved" (defArgs s_is_saved) (defBody s_is_saved) (defScope s_is_saved) [] [] (He.fAd K ("is_saved", none)) A.d_is_saved
  B_is_saved : Binds K A.d_is_saved ["head", "place", "other"] []
  d_norepeat_move : FunD K "norepeat_move" "norepeat_move" (defArgs s_norepeat_move) (defBody s_norepeat_move) (defScope s_norepeat_move) [] [] (He.fAd K ("norepeat_move", none)) A.d_norepeat_move
  B_norepeat_move : Binds K A.d_norepeat_move ["crew", "standing", "label", "pair"] []
  d_forward_move : FunD K "forward_move" "forward_move" (defArgs s_forward_move) (defBody s_forward_move) (defScope s_forward_move) [] [] (He.fAd K ("forward_move", none)) A.d_forward_move
  B_forward_move : Binds K A.d_forward_move ["crew", "standing", "label", "pair"] []
  d_single_move : FunD K "single_move" "single_move" (defArgs s_single_move) (defBody s_single_move) (defScope s_single_move) [] [] (He.fAd K ("single_move", none)) A.d_single_move
  B_single_move : Binds K A.d_single_move ["standing", "pair"] []
  d_Promise___call__ : FunD K "__call__" "Promise.__call__" (defArgs s_Promise___call__) (defBody s_Promise___call__) (defScope s_Promise___call__) [] [] (He.fAd K ("Promise", some "__call__")) A.d_Promise___call__
  B_Promise___call__ : Binds K A.d_Promise___call__ ["self", "crew", "standing"] []
  d_labels_to : FunD K "labels_to" "labels_to" (defArgs s_labels_to) (defBody s_labels_to) (defScope s_labels_to) [] [] (He.fAd K ("labels_to", none)) A.d_labels_to
  B_labels_to : Binds K A.d_labels_to ["origins", "standing"] []
  d_judge : FunD K "judge" "judge" (defArgs s_judge) (defBody s_judge) (defScope s_judge) [] [] (He.fAd K ("judge", none)) A.d_judge
  B_judge : Binds K A.d_judge ["crew", "name"] []
  d_Crew___init__ : FunD K "__init__" "Crew.__init__" (defArgs s_Crew___init__) (defBody s_Crew___init__) (defScope s_Crew___init__) [] [] (He.fAd K ("Crew", some "__init__")) A.d_Crew___init__
  B_Crew___init__ : Binds K A.d_Crew___init__ ["self", "head", "first", "second"] []
  d_Crew_plain : FunD K "plain" "Crew.plain" (defArgs s_Crew_plain) (defBody s_Crew_plain) (defScope s_Crew_plain) [] [] (He5.wf K (He.ga K "Crew") "classmethod" "plain") A.d_Crew_plain
  B_Crew_plain : Binds K A.d_Crew_plain ["cls", "book"] []
  d_first_broken : FunD K "first_broken" "first_broken" (defArgs s_first_broken) (defBody s_first_broken) (defScope s_first_broken) [] [] (He.fAd K ("first_broken", none)) A.d_first_broken
  B_first_broken : Binds K A.d_first_broken ["book", "names"] []
  d_at_most : FunD K "at_most" "at_most" (defArgs s_at_most) (defBody s_at_most) (defScope s_at_most) [] [] (He.fAd K ("at_most", none)) A.d_at_most
  B_at_most : Binds K A.d_at_most ["options", "low", "high"] []
  d_Book___le__ : FunD K "__le__" "Book.__le__" (defArgs s_Book___le__) (defBody s_Book___le__) (defScope s_Book___le__) [] [] (He.fAd K ("Book", some "__le__")) A.d_Book___le__
  B_Book___le__ : Binds K A.d_Book___le__ ["self", "other"] []
  d_Book___eq__ : FunD K "__eq__" "Book.__eq__" (defArgs s_Book___eq__) (defBody s_Book___eq__) (defScope s_Book___eq__) [] [] (He.fAd K ("Book", some "__eq__")) A.d_Book___eq__
  B_Book___eq__ : Binds K A.d_Book___eq__ ["self", "other"] []
  d_weakest : FunD K "weakest" "weakest" (defArgs s_weakest) (defBody s_weakest) (defScope s_weakest) [] [] (He.fAd K ("weakest", none)) A.d_weakest
  B_weakest : Binds K A.d_weakest ["books", "names"] []
  d_Book___init__ : FunD K "__init__" "Book.__init__" (defArgs s_Book___init__) (defBody s_Book___init__) (defScope s_Book___init__) [] [("stop", (.str "asked")), ("move", (.str "once")), ("out", (.str "once")), ("marks", (.str "any"))] (He.fAd K ("Book", some "__init__")) A.d_Book___init__
  d__law_book : FunD K "_law_book" "_law_book" (defArgs s__law_book) (defBody s__law_book) (defScope s__law_book) [] [] (He.fAd K ("_law_book", none)) A.d__law_book
  B__law_book : Binds K A.d__law_book ["_law_words_here"] []
  d__law_words_of : FunD K "_law_words_of" "_law_words_of" (defArgs s__law_words_of) (defBody s__law_words_of) (defScope s__law_words_of) [] [] (He.fAd K ("_law_words_of", none)) A.d__law_words_of
  B__law_words_of : Binds K A.d__law_words_of ["_law_book_here"] []
  d__law_form : FunD K "_law_form" "_law_form" (defArgs s__law_form) (defBody s__law_form) (defScope s__law_form) [] [] (He.fAd K ("_law_form", none)) A.d__law_form
  B__law_form : Binds K A.d__law_form ["_law_name", "_law_head", "_law_first", "_law_second"] []
  d__law_broken : FunD K "_law_broken" "_law_broken" (defArgs s__law_broken) (defBody s__law_broken) (defScope s__law_broken) [] [] (He.fAd K ("_law_broken", none)) A.d__law_broken
  B__law_broken : Binds K A.d__law_broken ["_law_words_here", "_law_names"] []
  d__law_at_most : FunD K "_law_at_most" "_law_at_most" (defArgs s__law_at_most) (defBody s__law_at_most) (defScope s__law_at_most) [] [] (He.fAd K ("_law_at_most", none)) A.d__law_at_most
  B__law_at_most : Binds K A.d__law_at_most ["_law_low", "_law_high"] []
  d__law_breaks : FunD K "_law_breaks" "_law_breaks" (defArgs s__law_breaks) (defBody s__law_breaks) (defScope s__law_breaks) [] [] (He.fAd K ("_law_breaks", none)) A.d__law_breaks
  B__law_breaks : Binds K A.d__law_breaks ["_law_name", "_law_crew", "_law_run"] []
  d__law_row_right : FunD K "_law_row_right" "_law_row_right" (defArgs s__law_row_right) (defBody s__law_row_right) (defScope s__law_row_right) [] [] (He.fAd K ("_law_row_right", none)) A.d__law_row_right
  B__law_row_right : Binds K A.d__law_row_right ["_law_row_here", "_law_names", "_law_weaker"] []
  d_law : FunD K "law" "law" (defArgs s_law) (defBody s_law) (defScope s_law) [] [] (He.fAd K ("law", none)) A.d_law
  B_law : Binds K A.d_law ["_law_script"] []
  g_AT_WORK : mg "AT_WORK" = some (.ref (He.ga K "AT_WORK"))
  g_BadBook : mg "BadBook" = some (.ref (He.ga K "BadBook"))
  g_Book : mg "Book" = some (.ref (He.ga K "Book"))
  g_CHANGES : mg "CHANGES" = some (.ref (He.ga K "CHANGES"))
  g_Crew : mg "Crew" = some (.ref (He.ga K "Crew"))
  g_IN_BOOK : mg "IN_BOOK" = some (.ref (He.ga K "IN_BOOK"))
  g_MARKS : mg "MARKS" = some (.ref (He.ga K "MARKS"))
  g_MOVES : mg "MOVES" = some (.ref (He.ga K "MOVES"))
  g_OUTS : mg "OUTS" = some (.ref (He.ga K "OUTS"))
  g_OWNERS : mg "OWNERS" = some (.ref (He.ga K "OWNERS"))
  g_PROMISES : mg "PROMISES" = some (.ref (He.ga K "PROMISES"))
  g_Promise : mg "Promise" = some (.ref (He.ga K "Promise"))
  g_STEP_WORDS : mg "STEP_WORDS" = some (.ref (He.ga K "STEP_WORDS"))
  g_STOPS : mg "STOPS" = some (.ref (He.ga K "STOPS"))
  g_UnknownName : mg "UnknownName" = some (.ref (He.ga K "UnknownName"))
  g_Verdict : mg "Verdict" = some (.ref (He.ga K "Verdict"))
  g__law_at_most : mg "_law_at_most" = some (.ref (He.ga K "_law_at_most"))
  g__law_book : mg "_law_book" = some (.ref (He.ga K "_law_book"))
  g__law_breaks : mg "_law_breaks" = some (.ref (He.ga K "_law_breaks"))
  g__law_broken : mg "_law_broken" = some (.ref (He.ga K "_law_broken"))
  g__law_cell : mg "_law_cell" = some (.ref (He.ga K "_law_cell"))
  g__law_form : mg "_law_form" = some (.ref (He.ga K "_law_form"))
  g__law_lists : mg "_law_lists" = some (.ref (He.ga K "_law_lists"))
  g__law_mixed : mg "_law_mixed" = some (.ref (He.ga K "_law_mixed"))
  g__law_row : mg "_law_row" = some (.ref (He.ga K "_law_row"))
  g__law_row_right : mg "_law_row_right" = some (.ref (He.ga K "_law_row_right"))
  g__law_words : mg "_law_words" = some (.ref (He.ga K "_law_words"))
  g__law_words_of : mg "_law_words_of" = some (.ref (He.ga K "_law_words_of"))
  g_after : mg "after" = some (.ref (He.ga K "after"))
  g_after_call : mg "after_call" = some (.ref (He.ga K "after_call"))
  g_after_deal : mg "after_deal" = some (.ref (He.ga K "after_deal"))
  g_after_enter : mg "after_enter" = some (.ref (He.ga K "after_enter"))
  g_after_hear : mg "after_hear" = some (.ref (He.ga K "after_hear"))
  g_after_leave : mg "after_leave" = some (.ref (He.ga K "after_leave"))
  g_after_out : mg "after_out" = some (.ref (He.ga K "after_out"))
  g_after_over : mg "after_over" = some (.ref (He.ga K "after_over"))
  g_after_read : mg "after_read" = some (.ref (He.ga K "after_read"))
  g_at_most : mg "at_most" = some (.ref (He.ga K "at_most"))
  g_at_work : mg "at_work" = some (.ref (He.ga K "at_work"))
  g_first_broken : mg "first_broken" = some (.ref (He.ga K "first_broken"))
  g_forward_move : mg "forward_move" = some (.ref (He.ga K "forward_move"))
  g_has_answered : mg "has_answered" = some (.ref (He.ga K "has_answered"))
  g_in_book : mg "in_book" = some (.ref (He.ga K "in_book"))
  g_is_awaited : mg "is_awaited" = some (.ref (He.ga K "is_awaited"))
  g_is_saved : mg "is_saved" = some (.ref (He.ga K "is_saved"))
  g_judge : mg "judge" = some (.ref (He.ga K "judge"))
  g_labels_to : mg "labels_to" = some (.ref (He.ga K "labels_to"))
  g_law : mg "law" = some (.ref (He.ga K "law"))
  g_mark_moves : mg "mark_moves" = some (.ref (He.ga K "mark_moves"))
  g_may_be_dealt : mg "may_be_dealt" = some (.ref (He.ga K "may_be_dealt"))
  g_norepeat_move : mg "norepeat_move" = some (.ref (He.ga K "norepeat_move"))
  g_owns : mg "owns" = some (.ref (He.ga K "owns"))
  g_place_dealt : mg "place_dealt" = some (.ref (He.ga K "place_dealt"))
  g_single_move : mg "single_move" = some (.ref (He.ga K "single_move"))
  g_steady_move : mg "steady_move" = some (.ref (He.ga K "steady_move"))
  g_steps : mg "steps" = some (.ref (He.ga K "steps"))
  g_stops : mg "stops" = some (.ref (He.ga K "stops"))
  g_weakest : mg "weakest" = some (.ref (He.ga K "weakest"))
  b_abs : mg "abs" = none
  b_enumerate : mg "enumerate" = none
  b_int : mg "int" = none
  b_isinstance : mg "isinstance" = none
  b_len : mg "len" = none
  b_list : mg "list" = none
  b_range : mg "range" = none
  b_sorted : mg "sorted" = none
  b_super : mg "super" = none
  b_tuple : mg "tuple" = none
  c_Book : Cls K (He.ga K "Book")
  c_Crew : Cls K (He.ga K "Crew")
  c_Promise : Cls K (He.ga K "Promise")
  c_Verdict : Cls K (He.ga K "Verdict")
  na_Book_marks : NoAttr K (He.ga K "Book") "marks"
  na_Book_move : NoAttr K (He.ga K "Book") "move"
  na_Book_out : NoAttr K (He.ga K "Book") "out"
  na_Book_pairs : NoAttr K (He.ga K "Book") "pairs"
  na_Book_stop : NoAttr K (He.ga K "Book") "stop"
  na_Crew_first : NoAttr K (He.ga K "Crew") "first"
  na_Crew_head : NoAttr K (He.ga K "Crew") "head"
  na_Crew_second : NoAttr K (He.ga K "Crew") "second"
  na_Promise_name : NoAttr K (He.ga K "Promise") "name"
  na_Verdict_kept : NoAttr K (He.ga K "Verdict") "kept"
  na_Verdict_run : NoAttr K (He.ga K "Verdict") "run"
  na_Verdict_table : NoAttr K (He.ga K "Verdict") "table"
  me_Book___eq__ : Meth K (He.ga K "Book") "__eq__" (He.fAd K ("Book", some "__eq__"))
  me_Book___le__ : Meth K (He.ga K "Book") "__le__" (He.fAd K ("Book", some "__le__"))
  me_Promise___call__ : Meth K (He.ga K "Promise") "__call__" (He.fAd K ("Promise", some "__call__"))
  mk_Book : Mk K (He.ga K "Book") (He.fAd K ("Book", some "__init__"))
  mk_Crew : Mk K (He.ga K "Crew") (He.fAd K ("Crew", some "__init__"))
  mk_Promise : Mk K (He.ga K "Promise") (He.fAd K ("Promise", some "__init__"))
  mk_Verdict : Mk K (He.ga K "Verdict") (He.fAd K ("Verdict", some "__init__"))
  q_AT_WORK : KtT K (He.ga K "AT_WORK") [.str "works", .str "late", .str "ghost", .str "ghost+"]
  q_IN_BOOK : KtT K (He.ga K "IN_BOOK") [.str "idle", .str "dealt", .str "works", .str "late", .str "rests"]
  q_MARKS : KtT K (He.ga K "MARKS") [.str "any", .str "owner", .str "given"]
  q_MOVES : KtT K (He.ga K "MOVES") [.str "once", .str "back"]
  q_OUTS : KtT K (He.ga K "OUTS") [.str "once", .str "wait"]
  q_OWNERS : KtT K (He.ga K "OWNERS") [.str "dealt", .str "works", .str "rests"]
  q_PROMISES : KtT K (He.ga K "PROMISES") [.str "single", .str "calm", .str "steady", .str "norepeat", .str "forward"]
  q_STEP_WORDS : KtT K (He.ga K "STEP_WORDS") [.str "enter", .str "leave", .str "out", .str "hear", .str "over", .str "read", .str "call"]
  q_STOPS : KtT K (He.ga K "STOPS") [.str "asked", .str "all"]
  t_CHANGES : TabOk K (gOf K) w (He.ga K "CHANGES") t_CHANGES
  isi : IsiOk K (gOf K) ownT
  cr_Crew : ClX.CRead K (He.ga K "Crew") (.type "type")
  cm_Crew_plain : ∃ p, ClX.CMet K (He.ga K "Crew") (.type "type") "plain" p (He5.wf K (He.ga K "Crew") "classmethod" "plain")
  ox_BadBook : OexC K (He.ga K "BadBook")
  ei_BadBook : ExcI K FILE (He.ga K "BadBook") (He.fAd K ("BadBook", some "__init__")) "BadBook.__init__" (defArgs s_BadBook___init__) (defBody s_BadBook___init__) (defScope s_BadBook___init__)
  nf_BadBook_option : PySem.W.findIn K (.ref (He.ga K "BadBook")) "option" = some none
  ox_UnknownName : OexC K (He.ga K "UnknownName")
  ei_UnknownName : ExcI K FILE (He.ga K "UnknownName") (He.fAd K ("UnknownName", some "__init__")) "UnknownName.__init__" (defArgs s_UnknownName___init__) (defBody s_UnknownName___init__) (defScope s_UnknownName___init__)
  nf_UnknownName_name : PySem.W.findIn K (.ref (He.ga K "UnknownName")) "name" = some none
theorem tab_CHANGES {w : World} {K : PySem.W.Frag} (h : ∃ es n, KDict K w (He.ga K "CHANGES") es n) (e : He.valsB K (He.ga K "CHANGES") [("enter", .glo "after_enter"), ("leave", .glo "after_leave"), ("out", .glo "after_out"), ("hear", .glo "after_hear"), ("over", .glo "after_over"), ("read", .glo "after_read"), ("call", .glo "after_call")] = true) : TabOk K (gOf K) w (He.ga K "CHANGES") t_CHANGES := tab_of h (kvs := [("enter", "after_enter"), ("leave", "after_leave"), ("out", "after_out"), ("hear", "after_hear"), ("over", "after_over"), ("read", "after_read"), ("call", "after_call")]) e
section
variable {P : Program} {w : World} {K : PySem.W.Frag} {mg : Str → Option Value} {base : Heap} {A : Ad}
theorem tc_AT_WORK {X : Cx} {W : WX} {pos : Pos} (T : Txt X.prog X.w X.K X.mg A) (hg : Gl X "AT_WORK") : PE X (.Name "AT_WORK" pos) (RE X.K (gOf X.K) W (eC k_AT_WORK)) :=
  m_const (pe_glob (v := .ref (He.ga X.K "AT_WORK")) hg T.g_AT_WORK rfl) fun ρ H => by simp only [k_AT_WORK, VR]; exact ⟨_, _, rfl, T.q_AT_WORK, by simp [VRs, VR]⟩
theorem tc_IN_BOOK {X : Cx} {W : WX} {pos : Pos} (T : Txt X.prog X.w X.K X.mg A) (hg : Gl X "IN_BOOK") : PE X (.Name "IN_BOOK" pos) (RE X.K (gOf X.K) W (eC k_IN_BOOK)) :=
  m_const (pe_glob (v := .ref (He.ga X.K "IN_BOOK")) hg T.g_IN_BOOK rfl) fun ρ H => by simp only [k_IN_BOOK, VR]; exact ⟨_, _, rfl, T.q_IN_BOOK, by simp [VRs, VR]⟩
theorem tc_MARKS {X : Cx} {W : WX} {pos : Pos} (T : Txt X.prog X.w X.K X.mg A) (hg : Gl X "MARKS") : PE X (.Name "MARKS" pos) (RE X.K (gOf X.K) W (eC k_MARKS)) :=
  m_const (pe_glob (v := .ref (He.ga X.K "MARKS")) hg T.g_MARKS rfl) fun ρ H => by simp only [k_MARKS, VR]; exact ⟨_, _, rfl, T.q_MARKS, by simp [VRs, VR]⟩
theorem tc_MOVES {X : Cx} {W : WX} {pos : Pos} (T : Txt X.prog X.w X.K X.mg A) (hg : Gl X "MOVES") : PE X (.Name "MOVES" pos) (RE X.K (gOf X.K) W (eC k_MOVES)) :=
  m_const (pe_glob (v := .ref (He.ga X.K "MOVES")) hg T.g_MOVES rfl) fun ρ H => by simp only [k_MOVES, VR]; exact ⟨_, _, rfl, T.q_MOVES, by simp [VRs, VR]⟩
theorem tc_OUTS {X : Cx} {W : WX} {pos : Pos} (T : Txt X.prog X.w X.K X.mg A) (hg : Gl X "OUTS") : PE X (.Name "OUTS" pos) (RE X.K (gOf X.K) W (eC k_OUTS)) :=
  m_const (pe_glob (v := .ref (He.ga X.K "OUTS")) hg T.g_OUTS rfl) fun ρ H => by simp only [k_OUTS, VR]; exact ⟨_, _, rfl, T.q_OUTS, by simp [VRs, VR]⟩
theorem tc_OWNERS {X : Cx} {W : WX} {pos : Pos} (T : Txt X.prog X.w X.K X.mg A) (hg : Gl X "OWNERS") : PE X (.Name "OWNERS" pos) (RE X.K (gOf X.K) W (eC k_OWNERS)) :=
  m_const (pe_glob (v := .ref (He.ga X.K "OWNERS")) hg T.g_OWNERS rfl) fun ρ H => by simp only [k_OWNERS, VR]; exact ⟨_, _, rfl, T.q_OWNERS, by simp [VRs, VR]⟩
theorem tc_PROMISES {X : Cx} {W : WX} {pos : Pos} (T : Txt X.prog X.w X.K X.mg A) (hg : Gl X "PROMISES") : PE X (.Name "PROMISES" pos) (RE X.K (gOf X.K) W (eC k_PROMISES)) :=
  m_const (pe_glob (v := .ref (He.ga X.K "PROMISES")) hg T.g_PROMISES rfl) fun ρ H => by simp only [k_PROMISES, VR]; exact ⟨_, _, rfl, T.q_PROMISES, by simp [VRs, VR]⟩
theorem tc_STEP_WORDS {X : Cx} {W : WX} {pos : Pos} (T : Txt X.prog X.w X.K X.mg A) (hg : Gl X "STEP_WORDS") : PE X (.Name "STEP_WORDS" pos) (RE X.K (gOf X.K) W (eC k_STEP_WORDS)) :=
  m_const (pe_glob (v := .ref (He.ga X.K "STEP_WORDS")) hg T.g_STEP_WORDS rfl) fun ρ H => by simp only [k_STEP_WORDS, VR]; exact ⟨_, _, rfl, T.q_STEP_WORDS, by simp [VRs, VR]⟩
theorem tc_STOPS {X : Cx} {W : WX} {pos : Pos} (T : Txt X.prog X.w X.K X.mg A) (hg : Gl X "STOPS") : PE X (.Name "STOPS" pos) (RE X.K (gOf X.K) W (eC k_STOPS)) :=
  m_const (pe_glob (v := .ref (He.ga X.K "STOPS")) hg T.g_STOPS rfl) fun ρ H => by simp only [k_STOPS, VR]; exact ⟨_, _, rfl, T.q_STOPS, by simp [VRs, VR]⟩
theorem fo_first (T : Txt P w K mg A) : FldOk K (gOf K) "first" ["Crew"] := fun c hc C hG => by
  simp only [List.mem_cons, List.not_mem_nil, or_false] at hc
  rcases hc with rfl <;> (simp only [gOf, Option.some.injEq, V.ref.injEq] at hG; subst hG)
  · exact ⟨T.c_Crew, T.na_Crew_first⟩
theorem fo_head (T : Txt P w K mg A) : FldOk K (gOf K) "head" ["Crew"] := fun c hc C hG => by
  simp only [List.mem_cons, List.not_mem_nil, or_false] at hc
  rcases hc with rfl <;> (simp only [gOf, Option.some.injEq, V.ref.injEq] at hG; subst hG)
  · exact ⟨T.c_Crew, T.na_Crew_head⟩
theorem fo_kept (T : Txt P w K mg A) : FldOk K (gOf K) "kept" ["Verdict"] := fun c hc C hG => by
  simp only [List.mem_cons, List.not_mem_nil, or_false] at hc
  rcases hc with rfl <;> (simp only [gOf, Option.some.injEq, V.ref.injEq] at hG; subst hG)
  · exact ⟨T.c_Verdict, T.na_Verdict_kept⟩
theorem fo_marks (T : Txt P w K mg A) : FldOk K (gOf K) "marks" ["Book"] := fun c hc C hG => by
  simp only [List.mem_cons, List.not_mem_nil, or_false] at hc
  rcases hc with rfl <;> (simp only [gOf, Option.some.injEq, V.ref.injEq] at hG; subst hG)
  · exact ⟨T.c_Book, T.na_Book_marks⟩
theorem fo_move (T : Txt P w K mg A) : FldOk K (gOf K) "move" ["Book"] := fun c hc C hG => by
  simp only [List.mem_cons, List.not_mem_nil, or_false] at hc
  rcases hc with rfl <;> (simp only [gOf, Option.some.injEq, V.ref.injEq] at hG; subst hG)
  · exact ⟨T.c_Book, T.na_Book_move⟩
theorem fo_name (T : Txt P w K mg A) : FldOk K (gOf K) "name" ["Promise"] := fun c hc C hG => by
  simp only [List.mem_cons, List.not_mem_nil, or_false] at hc
  rcases hc with rfl <;> (simp only [gOf, Option.some.injEq, V.ref.injEq] at hG; subst hG)
  · exact ⟨T.c_Promise, T.na_Promise_name⟩
theorem fo_out (T : Txt P w K mg A) : FldOk K (gOf K) "out" ["Book"] := fun c hc C hG => by
  simp only [List.mem_cons, List.not_mem_nil, or_false] at hc
  rcases hc with rfl <;> (simp only [gOf, Option.some.injEq, V.ref.injEq] at hG; subst hG)
  · exact ⟨T.c_Book, T.na_Book_out⟩
theorem fo_pairs (T : Txt P w K mg A) : FldOk K (gOf K) "pairs" ["Book"] := fun c hc C hG => by
  simp only [List.mem_cons, List.not_mem_nil, or_false] at hc
  rcases hc with rfl <;> (simp only [gOf, Option.some.injEq, V.ref.injEq] at hG; subst hG)
  · exact ⟨T.c_Book, T.na_Book_pairs⟩
theorem fo_run (T : Txt P w K mg A) : FldOk K (gOf K) "run" ["Verdict"] := fun c hc C hG => by
  simp only [List.mem_cons, List.not_mem_nil, or_false] at hc
  rcases hc with rfl <;> (simp only [gOf, Option.some.injEq, V.ref.injEq] at hG; subst hG)
  · exact ⟨T.c_Verdict, T.na_Verdict_run⟩
theorem fo_second (T : Txt P w K mg A) : FldOk K (gOf K) "second" ["Crew"] := fun c hc C hG => by
  simp only [List.mem_cons, List.not_mem_nil, or_false] at hc
  rcases hc with rfl <;> (simp only [gOf, Option.some.injEq, V.ref.injEq] at hG; subst hG)
  · exact ⟨T.c_Crew, T.na_Crew_second⟩
theorem fo_stop (T : Txt P w K mg A) : FldOk K (gOf K) "stop" ["Book"] := fun c hc C hG => by
  simp only [List.mem_cons, List.not_mem_nil, or_false] at hc
  rcases hc with rfl <;> (simp only [gOf, Option.some.injEq, V.ref.injEq] at hG; subst hG)
  · exact ⟨T.c_Book, T.na_Book_stop⟩
theorem fo_table (T : Txt P w K mg A) : FldOk K (gOf K) "table" ["Verdict"] := fun c hc C hG => by
  simp only [List.mem_cons, List.not_mem_nil, or_false] at hc
  rcases hc with rfl <;> (simp only [gOf, Option.some.injEq, V.ref.injEq] at hG; subst hG)
  · exact ⟨T.c_Verdict, T.na_Verdict_table⟩
theorem kb_Book___init___1_stop_move_out_marks (T : Txt P w K mg A) : ∃ mv : List Value, KBn K A.d_Book___init__ ["self", "stop", "move", "out", "marks"] 1 ["stop", "move", "out", "marks"] (fun us ws => pickL [(0, 0), (2, 0), (2, 1), (2, 2), (2, 3)] us mv ws) (fun us ws => pickL [(0, 0), (2, 0), (2, 1), (2, 2), (2, 3)] us [] ws) :=
  FunD.kbinds0 T.d_Book___init__ 1 ["stop", "move", "out", "marks"] [] (pickL [(0, 0), (2, 0), (2, 1), (2, 2), (2, 3)]) (by simp) (by simp) (fun a b c => Vals.pick a b c _) fun D doc pm an cdv ct us mv ws h1 h2 h3 => match us, mv, ws, h1, h2, h3 with
    | [_], [], [_, _, _, _], _, _, _ => rfl
theorem rm_BadBook (hP : PFa P FILE) (T : Txt P w K mg A) : RaiM P w K mg base (gOf K) "BadBook" ["option"] (He.ga K "BadBook") :=
  rai1 hP T.ei_BadBook T.ox_BadBook rfl T.b_super T.nf_BadBook_option (fun env => ⟨_, rfl⟩) ⟨rfl, rfl, rfl, by decide +kernel, rfl, by decide +kernel, by decide +kernel, by decide +kernel⟩ ⟨_, rfl, rfl⟩ rfl rfl (fun _ _ _ _ _ _ _ us hl => match us, hl with | [_, _], _ => rfl)
theorem rm_UnknownName (hP : PFa P FILE) (T : Txt P w K mg A) : RaiM P w K mg base (gOf K) "UnknownName" ["name"] (He.ga K "UnknownName") :=
  rai1 hP T.ei_UnknownName T.ox_UnknownName rfl T.b_super T.nf_UnknownName_name (fun env => ⟨_, rfl⟩) ⟨rfl, rfl, rfl, by decide +kernel, rfl, by decide +kernel, by decide +kernel, by decide +kernel⟩ ⟨_, rfl, rfl⟩ rfl rfl (fun _ _ _ _ _ _ _ us hl => match us, hl with | [_, _], _ => rfl)
end
end Lw
namespace Lw
open PySem L2 Mo
section
variable {P : Program} {w : World} {K : PySem.W.Frag} {mg : Str → Option Value} {base : Heap} {A : Ad}
theorem ok__law_mixed (hP : PFa P FILE) (T : Txt P w K mg A) : FnOk P w K mg base (L2.CX P w) 1 (He.fAd K ("_law_mixed", none)) A.d__law_mixed ["_law_number", "_law_k"] (SpM K (gOf K) 2 m__law_mixed) :=
  fn_gc (fn_mD (N := ["_law_number", "_law_k", "_law_early"]) T.d__law_mixed sc__law_mixed fun cdv Ar outer s H E hr => by
    have tk := takes_of (X := cxOf (L2.CX P w) P w K mg base ["_law_number", "_law_k", "_law_early"] "_law_mixed" (defScope s__law_mixed) (He.fAd K ("_law_mixed", none)) cdv Ar outer s H E) rfl rfl rfl rfl
    exact (m_scons (m_set (i := 2) sc__law_mixed.nd rfl (Or.inl rfl) (m_op op_mod s_mod (m_callTy call_int1 s_int (by rfl) T.b_int (by decide +kernel) (m_acons (m_op o_add s_add (m_op o_add s_add (m_op op_mul s_mul (m_var (pv 0)) m_int) (m_op op_mul s_mul (m_var (pv 1)) m_int)) m_int) m_anil)) m_int))
      (m_sone (m_ret (m_op op_fdiv s_div (m_op op_mod s_mod (m_callTy call_int1 s_int (by rfl) T.b_int (by decide +kernel) (m_acons (m_op op_mul s_mul (m_var (pv 2)) (m_op o_add s_add (m_op o_add s_add (m_op op_fdiv s_div (m_var (pv 2)) m_int) (m_op op_mul s_mul m_int (m_var (pv 1)))) m_int)) m_anil)) m_int) m_int)))))
theorem ok__law_row (hP : PFa P FILE) (T : Txt P w K mg A) : FnOk P w K mg base (L2.CX P w) 2 (He.fAd K ("_law_row", none)) A.d__law_row ["_law_cell_here", "_law_count", "_law_base"] (SpM K (gOf K) 3 m__law_row) :=
  fn_gc (fn_mD (N := ["_law_cell_here", "_law_count", "_law_base", "_law_found", "_law_rest", "_law_k"]) T.d__law_row sc__law_row fun cdv Ar outer s H E hr => by
    have tk := takes_of (X := cxOf (L2.CX P w) P w K mg base ["_law_cell_here", "_law_count", "_law_base", "_law_found", "_law_rest", "_law_k"] "_law_row" (defScope s__law_row) (He.fAd K ("_law_row", none)) cdv Ar outer s H E) rfl rfl rfl rfl
    exact (m_scons (m_set (i := 3) sc__law_row.nd rfl (Or.inl rfl) (m_lst m_anil))
      (m_scons (m_set (i := 4) sc__law_row.nd rfl (Or.inl rfl) (m_callB call_abs s_abs (by rfl) T.b_abs (by decide +kernel) (m_acons (m_var (pv 0)) m_anil)))
      (m_scons (m_if (m_cmpT op_lt s_cmp (m_var (pv 4)) (m_op op_pow s_pow m_int m_int) (nomark _)) (m_sone (m_set (i := 4) sc__law_row.nd rfl (Or.inl rfl) m_int)) m_snil)
      (m_scons (m_forR1 (passes_of rfl) rfl (by rfl) T.b_range (m_acons (m_var (pv 1)) m_anil) (pg_name (i := 5) sc__law_row.nd rfl (Or.inl rfl)) gs_name (m_sone (m_if (m_cmpT op_gt s_cmp (m_var (pv 4)) m_int (nomark _)) (m_scons (m_expr (m_bm PySem.F.plainAttrs_list PySem.F.slot_list_append PySem.F.type_list_append mt_append t_lst s_append (m_var (pv 3)) (m_acons (m_op op_mod s_mod (m_callTy call_int1 s_int (by rfl) T.b_int (by decide +kernel) (m_acons (m_var (pv 4)) m_anil)) (m_var (pv 2))) m_anil)))
      (m_sone (m_set (i := 4) sc__law_row.nd rfl (Or.inl rfl) (m_op op_fdiv s_div (m_var (pv 4)) (m_var (pv 2)))))) (m_sone (m_expr (m_bm PySem.F.plainAttrs_list PySem.F.slot_list_append PySem.F.type_list_append mt_append t_lst s_append (m_var (pv 3)) (m_acons (m_op op_mod s_mod (m_callTy call_int1 s_int (by rfl) T.b_int (by decide +kernel) (m_acons (m_call (ok__law_mixed hP T) (hr.mono (by decide)) rfl T.g__law_mixed T.d__law_mixed.kp T.B__law_mixed tk (m_acons (m_var (pv 0)) (m_acons (m_var (pv 5)) m_anil))) m_anil)) (m_var (pv 2))) m_anil)))))))
      (m_sone (m_ret (m_var (pv 3)))))))))
theorem ok__law_cell (hP : PFa P FILE) (T : Txt P w K mg A) : FnOk P w K mg base (L2.CX P w) 1 (He.fAd K ("_law_cell", none)) A.d__law_cell ["_law_script", "_law_k"] (SpM K (gOf K) 2 m__law_cell) :=
  fn_gc (fn_mD (N := ["_law_script", "_law_k"]) T.d__law_cell sc__law_cell fun cdv Ar outer s H E hr => by
    have tk := takes_of (X := cxOf (L2.CX P w) P w K mg base ["_law_script", "_law_k"] "_law_cell" (defScope s__law_cell) (He.fAd K ("_law_cell", none)) cdv Ar outer s H E) rfl rfl rfl rfl
    exact (m_scons (m_if (m_cmpT op_lt s_cmp (m_var (pv 1)) (m_callB c_len s_len (by rfl) T.b_len PySem.boot_len (m_acons (m_var (pv 0)) m_anil)) (nomark _)) (m_sone (m_ret (m_callTy call_int1 s_int (by rfl) T.b_int (by decide +kernel) (m_acons (m_ixA hr (m_var (pv 0)) (m_var (pv 1))) m_anil)))) m_snil)
      (m_sone (m_ret m_int))))
theorem ok__law_words (hP : PFa P FILE) (T : Txt P w K mg A) : FnOk P w K mg base (L2.CX P w) 1 (He.fAd K ("_law_words", none)) A.d__law_words ["_law_number"] (SpM K (gOf K) 1 m__law_words) :=
  fn_gc (fn_mD (N := ["_law_number", "_law_found"]) T.d__law_words sc__law_words fun cdv Ar outer s H E hr => by
    have tk := takes_of (X := cxOf (L2.CX P w) P w K mg base ["_law_number", "_law_found"] "_law_words" (defScope s__law_words) (He.fAd K ("_law_words", none)) cdv Ar outer s H E) rfl rfl rfl rfl
    exact (m_scons (m_set (i := 1) sc__law_words.nd rfl (Or.inl rfl) (m_lst (m_acons (m_ixA hr (m_lst (m_acons m_str (m_acons m_str m_anil))) (m_op op_mod s_mod (m_callTy call_int1 s_int (by rfl) T.b_int (by decide +kernel) (m_acons (m_var (pv 0)) m_anil)) m_int)) (m_acons (m_ixA hr (m_lst (m_acons m_str (m_acons m_str m_anil))) (m_op op_mod s_mod (m_callTy call_int1 s_int (by rfl) T.b_int (by decide +kernel) (m_acons (m_op op_fdiv s_div (m_var (pv 0)) m_int) m_anil)) m_int)) m_anil))))
      (m_sone (m_ret (m_op o_add s_add (m_var (pv 1)) (m_lst (m_acons (m_ixA hr (m_lst (m_acons m_str (m_acons m_str m_anil))) (m_op op_mod s_mod (m_callTy call_int1 s_int (by rfl) T.b_int (by decide +kernel) (m_acons (m_op op_fdiv s_div (m_var (pv 0)) m_int) m_anil)) m_int)) (m_acons (m_ixA hr (m_lst (m_acons m_str (m_acons m_str (m_acons m_str m_anil)))) (m_op op_mod s_mod (m_callTy call_int1 s_int (by rfl) T.b_int (by decide +kernel) (m_acons (m_op op_fdiv s_div (m_var (pv 0)) m_int) m_anil)) m_int)) m_anil))))))))
theorem ok__law_lists (hP : PFa P FILE) (T : Txt P w K mg A) : FnOk P w K mg base (L2.CX P w) 3 (He.fAd K ("_law_lists", none)) A.d__law_lists ["_law_script"] (SpM K (gOf K) 1 m__law_lists) :=
  fn_gc (fn_mD (N := ["_law_script", "_law_draws", "_law_listed", "_law_k", "_law_fresh", "_law_at", "_law_names", "_law_pick", "_law_name"]) T.d__law_lists sc__law_lists fun cdv Ar outer s H E hr => by
    have tk := takes_of (X := cxOf (L2.CX P w) P w K mg base ["_law_script", "_law_draws", "_law_listed", "_law_k", "_law_fresh", "_law_at", "_law_names", "_law_pick", "_law_name"] "_law_lists" (defScope s__law_lists) (He.fAd K ("_law_lists", none)) cdv Ar outer s H E) rfl rfl rfl rfl
    exact (m_scons (m_set (i := 1) sc__law_lists.nd rfl (Or.inl rfl) (m_call (ok__law_row hP T) (hr.mono (by decide)) rfl T.g__law_row T.d__law_row.kp T.B__law_row tk (m_acons (m_call (ok__law_cell hP T) (hr.mono (by decide)) rfl T.g__law_cell T.d__law_cell.kp T.B__law_cell tk (m_acons (m_var (pv 0)) (m_acons m_int m_anil))) (m_acons m_int (m_acons m_int m_anil)))))
      (m_scons (m_set (i := 2) sc__law_lists.nd rfl (Or.inl rfl) (m_lst m_anil))
      (m_scons (m_forR1 (passes_of rfl) rfl (by rfl) T.b_range (m_acons (m_op op_mod s_mod (m_callTy call_int1 s_int (by rfl) T.b_int (by decide +kernel) (m_acons (m_call (ok__law_cell hP T) (hr.mono (by decide)) rfl T.g__law_cell T.d__law_cell.kp T.B__law_cell tk (m_acons (m_var (pv 0)) (m_acons m_int m_anil))) m_anil)) m_int) m_anil) (pg_name (i := 3) sc__law_lists.nd rfl (Or.inl rfl)) gs_name (m_scons (m_set (i := 4) sc__law_lists.nd rfl (Or.inl rfl) (m_call (ok__law_words hP T) (hr.mono (by decide)) rfl T.g__law_words T.d__law_words.kp T.B__law_words tk (m_acons (m_op op_mod s_mod (m_callTy call_int1 s_int (by rfl) T.b_int (by decide +kernel) (m_acons (m_ixA hr (m_var (pv 1)) (m_var (pv 3))) m_anil)) m_int) m_anil)))
      (m_scons (m_if (PW.pt (m_and (m_cmpT (op_eqM hr.units) s_eq (m_op op_mod s_mod (m_callTy call_int1 s_int (by rfl) T.b_int (by decide +kernel) (m_acons (m_var (pv 3)) m_anil)) m_int) m_int (nomark _)) (m_and1 (m_cmpT op_lt s_cmp (m_ixA hr (m_var (pv 1)) m_int) m_int (nomark _))))) (m_scons (m_set (i := 4) sc__law_lists.nd rfl (Or.inl rfl) (m_callTy call_list_of s_list (by rfl) T.b_list (by decide +kernel) (m_acons (m_ixA hr (m_var (pv 2)) (m_neg m_int)) m_anil)))
      (m_scons (m_set (i := 5) sc__law_lists.nd rfl (Or.inl rfl) (m_op op_mod s_mod (m_callTy call_int1 s_int (by rfl) T.b_int (by decide +kernel) (m_acons (m_ixA hr (m_var (pv 1)) (m_var (pv 3))) m_anil)) m_int))
      (m_sone (m_iput hr (m_var (pv 4)) (m_var (pv 5)) (m_ixA hr (m_call (ok__law_words hP T) (hr.mono (by decide)) rfl T.g__law_words T.d__law_words.kp T.B__law_words tk (m_acons (m_op op_fdiv s_div (m_ixA hr (m_var (pv 1)) (m_var (pv 3))) m_int) m_anil)) (m_var (pv 5))))))) m_snil)
      (m_sone (m_expr (m_bm PySem.F.plainAttrs_list PySem.F.slot_list_append PySem.F.type_list_append mt_append t_lst s_append (m_var (pv 2)) (m_acons (m_var (pv 4)) m_anil)))))))
      (m_scons (m_set (i := 6) sc__law_lists.nd rfl (Or.inl rfl) (m_lst m_anil))
      (m_scons (m_for (passes_of rfl) rfl (m_call (ok__law_row hP T) (hr.mono (by decide)) rfl T.g__law_row T.d__law_row.kp T.B__law_row tk (m_acons (m_call (ok__law_cell hP T) (hr.mono (by decide)) rfl T.g__law_cell T.d__law_cell.kp T.B__law_cell tk (m_acons (m_var (pv 0)) (m_acons m_int m_anil))) (m_acons (m_op op_mod s_mod (m_callTy call_int1 s_int (by rfl) T.b_int (by decide +kernel) (m_acons (m_call (ok__law_cell hP T) (hr.mono (by decide)) rfl T.g__law_cell T.d__law_cell.kp T.B__law_cell tk (m_acons (m_var (pv 0)) (m_acons m_int m_anil))) m_anil)) m_int) (m_acons m_int m_anil)))) (pg_name (i := 7) sc__law_lists.nd rfl (Or.inl rfl)) gs_name (m_scons (m_set (i := 8) sc__law_lists.nd rfl (Or.inl rfl) (m_ixA hr (m_lst (m_acons m_str (m_acons m_str (m_acons m_str (m_acons m_str (m_acons m_str m_anil)))))) (m_var (pv 7))))
      (m_sone (m_if (m_cmpT (o_notInA hr.units) (s_notInA s_notIn) (m_var (pv 8)) (m_var (pv 6)) rfl) (m_sone (m_expr (m_bm PySem.F.plainAttrs_list PySem.F.slot_list_append PySem.F.type_list_append mt_append t_lst s_append (m_var (pv 6)) (m_acons (m_var (pv 8)) m_anil)))) m_snil))))
      (m_sone (m_ret (m_lst (m_acons (m_var (pv 2)) (m_acons (m_var (pv 6)) m_anil)))))))))))
theorem ok_Promise___init__ (hP : PFa P FILE) (T : Txt P w K mg A) : FnOk P w K mg base (L2.CX P w) 3 (He.fAd K ("Promise", some "__init__")) A.d_Promise___init__ ["self", "name"] (SpM K (gOf K) 2 m_Promise___init__) :=
  fn_mD (N := ["self", "name"]) T.d_Promise___init__ sc_Promise___init__ fun cdv Ar outer s H E hr => by
    have tk := takes_of (X := cxOf (L2.CX P w) P w K mg base ["self", "name"] "Promise.__init__" (defScope s_Promise___init__) (He.fAd K ("Promise", some "__init__")) cdv Ar outer s H E) rfl rfl rfl rfl
    exact (m_scons (m_if (m_cmpT (o_notInA hr.units) (s_notInA s_notIn) (m_var (pv 1)) (tc_PROMISES T (by rfl)) rfl) (m_sone (m_raise (rm_UnknownName hP T) rfl (hr.mono (by decide)) tk (by rfl) T.g_UnknownName (m_acons (m_var (pv 1)) m_anil))) m_snil)
      (m_sone (m_sfld (fo_name T) (m_var (pv 0)) (m_var (pv 1)))))
theorem ok_Verdict___init__ (hP : PFa P FILE) (T : Txt P w K mg A) : FnOk P w K mg base (L2.CX P w) 1 (He.fAd K ("Verdict", some "__init__")) A.d_Verdict___init__ ["self", "kept", "table", "run"] (SpM K (gOf K) 4 m_Verdict___init__) :=
  fn_mD (N := ["self", "kept", "table", "run"]) T.d_Verdict___init__ sc_Verdict___init__ fun cdv Ar outer s H E hr => by
    have tk := takes_of (X := cxOf (L2.CX P w) P w K mg base ["self", "kept", "table", "run"] "Verdict.__init__" (defScope s_Verdict___init__) (He.fAd K ("Verdict", some "__init__")) cdv Ar outer s H E) rfl rfl rfl rfl
    exact (m_scons (m_sfld (fo_kept T) (m_var (pv 0)) (m_var (pv 1)))
      (m_scons (m_sfld (fo_table T) (m_var (pv 0)) (m_var (pv 2)))
      (m_sone (m_sfld (fo_run T) (m_var (pv 0)) (m_var (pv 3))))))
theorem ok_after_enter (hP : PFa P FILE) (T : Txt P w K mg A) : FnOk P w K mg base (L2.CX P w) 1 (He.fAd K ("after_enter", none)) A.d_after_enter ["place", "head", "own"] (SpM K (gOf K) 3 m_after_enter) :=
  fn_gc (fn_mD (N := ["place", "head", "own"]) T.d_after_enter sc_after_enter fun cdv Ar outer s H E hr => by
    have tk := takes_of (X := cxOf (L2.CX P w) P w K mg base ["place", "head", "own"] "after_enter" (defScope s_after_enter) (He.fAd K ("after_enter", none)) cdv Ar outer s H E) rfl rfl rfl rfl
    exact (m_scons (m_if (m_cmpT (o_inA hr.units) (s_inA s_in) (m_var (pv 0)) (m_tup (m_acons m_str (m_acons m_str m_anil))) rfl) (m_sone (m_ret m_str)) m_snil)
      (m_sone (m_ret m_non))))
theorem ok_in_book (hP : PFa P FILE) (T : Txt P w K mg A) : FnOk P w K mg base (L2.CX P w) 1 (He.fAd K ("in_book", none)) A.d_in_book ["place"] (SpM K (gOf K) 1 m_in_book) :=
  fn_gc (fn_mD (N := ["place"]) T.d_in_book sc_in_book fun cdv Ar outer s H E hr => by
    have tk := takes_of (X := cxOf (L2.CX P w) P w K mg base ["place"] "in_book" (defScope s_in_book) (He.fAd K ("in_book", none)) cdv Ar outer s H E) rfl rfl rfl rfl
    exact (m_sone (m_ret (m_cmp (o_inA hr.units) (s_inA s_in) (m_var (pv 0)) (tc_IN_BOOK T (by rfl)) rfl))))
theorem ok_after_leave (hP : PFa P FILE) (T : Txt P w K mg A) : FnOk P w K mg base (L2.CX P w) 2 (He.fAd K ("after_leave", none)) A.d_after_leave ["place", "head", "own"] (SpM K (gOf K) 3 m_after_leave) :=
  fn_gc (fn_mD (N := ["place", "head", "own"]) T.d_after_leave sc_after_leave fun cdv Ar outer s H E hr => by
    have tk := takes_of (X := cxOf (L2.CX P w) P w K mg base ["place", "head", "own"] "after_leave" (defScope s_after_leave) (He.fAd K ("after_leave", none)) cdv Ar outer s H E) rfl rfl rfl rfl
    exact (m_scons (m_if (m_truth (m_call (ok_in_book hP T) (hr.mono (by decide)) rfl T.g_in_book T.d_in_book.kp T.B_in_book tk (m_acons (m_var (pv 0)) m_anil)) (by intro _; rfl)) (m_sone (m_ret m_str)) m_snil)
      (m_sone (m_ret m_non))))
theorem ok_after_out (hP : PFa P FILE) (T : Txt P w K mg A) : FnOk P w K mg base (L2.CX P w) 2 (He.fAd K ("after_out", none)) A.d_after_out ["place", "head", "own"] (SpM K (gOf K) 3 m_after_out) :=
  fn_gc (fn_mD (N := ["place", "head", "own", "plus"]) T.d_after_out sc_after_out fun cdv Ar outer s H E hr => by
    have tk := takes_of (X := cxOf (L2.CX P w) P w K mg base ["place", "head", "own", "plus"] "after_out" (defScope s_after_out) (He.fAd K ("after_out", none)) cdv Ar outer s H E) rfl rfl rfl rfl
    exact (m_scons (m_if (m_not (m_truth (m_call (ok_in_book hP T) (hr.mono (by decide)) rfl T.g_in_book T.d_in_book.kp T.B_in_book tk (m_acons (m_var (pv 0)) m_anil)) (by intro _; rfl))) (m_sone (m_ret m_non)) m_snil)
      (m_scons (m_if (m_cmpT (op_eqM hr.units) s_eq (m_var (pv 0)) m_str (nomark _)) (m_sone (m_ret m_str)) m_snil)
      (m_scons (m_set (i := 3) sc_after_out.nd rfl (Or.inl rfl) m_str)
      (m_scons (m_if (m_cmpT (op_eqM hr.units) s_eq (m_fld (fo_out T) (m_var (pv 1))) m_str (nomark _)) (m_sone (m_set (i := 3) sc_after_out.nd rfl (Or.inl rfl) m_str)) m_snil)
      (m_scons (m_if (m_cmpT (op_eqM hr.units) s_eq (m_var (pv 0)) m_str (nomark _)) (m_sone (m_ret (m_op o_add s_add m_str (m_var (pv 3))))) m_snil)
      (m_scons (m_if (m_cmpT (op_eqM hr.units) s_eq (m_var (pv 0)) m_str (nomark _)) (m_sone (m_ret (m_op o_add s_add m_str (m_var (pv 3))))) m_snil)
      (m_sone (m_ret (m_op o_add s_add m_str (m_var (pv 3))))))))))))
theorem ok_after_hear (hP : PFa P FILE) (T : Txt P w K mg A) : FnOk P w K mg base (L2.CX P w) 1 (He.fAd K ("after_hear", none)) A.d_after_hear ["place", "head", "own"] (SpM K (gOf K) 3 m_after_hear) :=
  fn_gc (fn_mD (N := ["place", "head", "own"]) T.d_after_hear sc_after_hear fun cdv Ar outer s H E hr => by
    have tk := takes_of (X := cxOf (L2.CX P w) P w K mg base ["place", "head", "own"] "after_hear" (defScope s_after_hear) (He.fAd K ("after_hear", none)) cdv Ar outer s H E) rfl rfl rfl rfl
    exact (m_scons (m_if (m_cmpT (o_inA hr.units) (s_inA s_in) (m_var (pv 0)) (m_tup (m_acons m_str (m_acons m_str m_anil))) rfl) (m_sone (m_ret m_str)) m_snil)
      (m_scons (m_if (m_cmpT (o_inA hr.units) (s_inA s_in) (m_var (pv 0)) (m_tup (m_acons m_str (m_acons m_str m_anil))) rfl) (m_sone (m_ret m_str)) m_snil)
      (m_sone (m_ret m_non)))))
theorem ok_after_over (hP : PFa P FILE) (T : Txt P w K mg A) : FnOk P w K mg base (L2.CX P w) 1 (He.fAd K ("after_over", none)) A.d_after_over ["place", "head", "own"] (SpM K (gOf K) 3 m_after_over) :=
  fn_gc (fn_mD (N := ["place", "head", "own"]) T.d_after_over sc_after_over fun cdv Ar outer s H E hr => by
    have tk := takes_of (X := cxOf (L2.CX P w) P w K mg base ["place", "head", "own"] "after_over" (defScope s_after_over) (He.fAd K ("after_over", none)) cdv Ar outer s H E) rfl rfl rfl rfl
    exact (m_scons (m_if (m_cmpT (op_eqM hr.units) s_eq (m_var (pv 0)) m_str (nomark _)) (m_sone (m_ret m_str)) m_snil)
      (m_scons (m_if (PW.pt (m_and (m_cmpT (op_eqM hr.units) s_eq (m_fld (fo_out T) (m_var (pv 2))) m_str (nomark _)) (m_and1 (m_cmpT (o_inA hr.units) (s_inA s_in) (m_var (pv 0)) (m_tup (m_acons m_str (m_acons m_str m_anil))) rfl)))) (m_sone (m_ret (m_slice (m_var (pv 0)) m_pno (m_pis (m_neg m_int))))) m_snil)
      (m_sone (m_ret m_non)))))
theorem ok_after_read (hP : PFa P FILE) (T : Txt P w K mg A) : FnOk P w K mg base (L2.CX P w) 1 (He.fAd K ("after_read", none)) A.d_after_read ["place", "head", "own"] (SpM K (gOf K) 3 m_after_read) :=
  fn_gc (fn_mD (N := ["place", "head", "own"]) T.d_after_read sc_after_read fun cdv Ar outer s H E hr => by
    have tk := takes_of (X := cxOf (L2.CX P w) P w K mg base ["place", "head", "own"] "after_read" (defScope s_after_read) (He.fAd K ("after_read", none)) cdv Ar outer s H E) rfl rfl rfl rfl
    exact (m_scons (m_if (m_cmpT (op_eqM hr.units) s_eq (m_var (pv 0)) m_str (nomark _)) (m_sone (m_ret m_str)) m_snil)
      (m_scons (m_if (m_cmpT (op_eqM hr.units) s_eq (m_var (pv 0)) m_str (nomark _)) (m_sone (m_ret m_str)) m_snil)
      (m_scons (m_if (m_cmpT (op_eqM hr.units) s_eq (m_var (pv 0)) m_str (nomark _)) (m_sone (m_ret m_str)) m_snil)
      (m_scons (m_if (m_cmpT (op_eqM hr.units) s_eq (m_var (pv 0)) m_str (nomark _)) (m_sone (m_ret m_str)) m_snil)
      (m_sone (m_ret m_non)))))))
theorem ok_after_call (hP : PFa P FILE) (T : Txt P w K mg A) : FnOk P w K mg base (L2.CX P w) 1 (He.fAd K ("after_call", none)) A.d_after_call ["place", "head", "own"] (SpM K (gOf K) 3 m_after_call) :=
  fn_gc (fn_mD (N := ["place", "head", "own"]) T.d_after_call sc_after_call fun cdv Ar outer s H E hr => by
    have tk := takes_of (X := cxOf (L2.CX P w) P w K mg base ["place", "head", "own"] "after_call" (defScope s_after_call) (He.fAd K ("after_call", none)) cdv Ar outer s H E) rfl rfl rfl rfl
    exact (m_scons (m_if (PW.pt (m_and (m_cmpT (op_eqM hr.units) s_eq (m_var (pv 0)) m_str (nomark _)) (m_and1 (m_cmpT (op_eqM hr.units) s_eq (m_fld (fo_stop T) (m_var (pv 2))) m_str (nomark _))))) (m_sone (m_ret m_str)) m_snil)
      (m_sone (m_ret m_non))))
theorem ok_after (hP : PFa P FILE) (T : Txt P w K mg A) : FnOk P w K mg base (L2.CX P w) 3 (He.fAd K ("after", none)) A.d_after ["step", "place", "head", "own"] (SpM K (gOf K) 4 m_after) :=
  fn_gc (fn_mD (N := ["step", "place", "head", "own", "change"]) T.d_after sc_after fun cdv Ar outer s H E hr => by
    have tk := takes_of (X := cxOf (L2.CX P w) P w K mg base ["step", "place", "head", "own", "change"] "after" (defScope s_after) (He.fAd K ("after", none)) cdv Ar outer s H E) rfl rfl rfl rfl
    exact (m_scons (m_set (i := 4) sc_after.nd rfl (Or.inl rfl) (m_kget T.t_CHANGES (by rfl) T.g_CHANGES (m_var (pv 0))))
      (m_scons (m_if (m_cmpT op_isN s_isN (m_var (pv 4)) m_non (nomark _)) (m_sone (m_ret m_non)) m_snil)
      (m_sone (m_ret (m_callL (k := 2) (List.forall_mem_cons.mpr ⟨⟨⟨_, _, _, rfl, (ok_after_enter hP T).mono (by decide), T.d_after_enter.kp, T.B_after_enter⟩⟩, (List.forall_mem_cons.mpr ⟨⟨⟨_, _, _, rfl, (ok_after_leave hP T).mono (by decide), T.d_after_leave.kp, T.B_after_leave⟩⟩, (List.forall_mem_cons.mpr ⟨⟨⟨_, _, _, rfl, (ok_after_out hP T).mono (by decide), T.d_after_out.kp, T.B_after_out⟩⟩, (List.forall_mem_cons.mpr ⟨⟨⟨_, _, _, rfl, (ok_after_hear hP T).mono (by decide), T.d_after_hear.kp, T.B_after_hear⟩⟩, (List.forall_mem_cons.mpr ⟨⟨⟨_, _, _, rfl, (ok_after_over hP T).mono (by decide), T.d_after_over.kp, T.B_after_over⟩⟩, (List.forall_mem_cons.mpr ⟨⟨⟨_, _, _, rfl, (ok_after_read hP T).mono (by decide), T.d_after_read.kp, T.B_after_read⟩⟩, (List.forall_mem_cons.mpr ⟨⟨⟨_, _, _, rfl, (ok_after_call hP T).mono (by decide), T.d_after_call.kp, T.B_after_call⟩⟩, List.forall_mem_nil _⟩)⟩)⟩)⟩)⟩)⟩)⟩) (hr.mono (by decide)) tk (m_acons (m_var (pv 1)) (m_acons (m_var (pv 2)) (m_acons (m_var (pv 3)) m_anil)))))))))
theorem ok_place_dealt (hP : PFa P FILE) (T : Txt P w K mg A) : FnOk P w K mg base (L2.CX P w) 2 (He.fAd K ("place_dealt", none)) A.d_place_dealt ["place", "is_target"] (SpM K (gOf K) 2 m_place_dealt) :=
  fn_gc (fn_mD (N := ["place", "is_target"]) T.d_place_dealt sc_place_dealt fun cdv Ar outer s H E hr => by
    have tk := takes_of (X := cxOf (L2.CX P w) P w K mg base ["place", "is_target"] "place_dealt" (defScope s_place_dealt) (He.fAd K ("place_dealt", none)) cdv Ar outer s H E) rfl rfl rfl rfl
    exact (m_scons (m_if (m_not (m_truth (m_call (ok_in_book hP T) (hr.mono (by decide)) rfl T.g_in_book T.d_in_book.kp T.B_in_book tk (m_acons (m_var (pv 0)) m_anil)) (by intro _; rfl))) (m_sone (m_ret (m_var (pv 0)))) m_snil)
      (m_scons (m_if (m_truth (m_var (pv 1)) (by intro _; rfl)) (m_scons (m_if (m_cmpT (op_eqM hr.units) s_eq (m_var (pv 0)) m_str (nomark _)) (m_sone (m_ret m_str)) m_snil)
      (m_sone (m_ret m_str))) m_snil)
      (m_scons (m_if (m_cmpT (op_eqM hr.units) s_eq (m_var (pv 0)) m_str (nomark _)) (m_sone (m_ret m_str)) m_snil)
      (m_sone (m_ret m_str))))))
theorem ok_has_answered (hP : PFa P FILE) (T : Txt P w K mg A) : FnOk P w K mg base (L2.CX P w) 2 (He.fAd K ("has_answered", none)) A.d_has_answered ["place", "own"] (SpM K (gOf K) 2 m_has_answered) :=
  fn_gc (fn_mD (N := ["place", "own"]) T.d_has_answered sc_has_answered fun cdv Ar outer s H E hr => by
    have tk := takes_of (X := cxOf (L2.CX P w) P w K mg base ["place", "own"] "has_answered" (defScope s_has_answered) (He.fAd K ("has_answered", none)) cdv Ar outer s H E) rfl rfl rfl rfl
    exact (m_scons (m_if (m_cmpT (op_eqM hr.units) s_eq (m_var (pv 0)) m_str (nomark _)) (m_sone (m_ret (m_cmp (op_eqM hr.units) s_eq (m_fld (fo_stop T) (m_var (pv 1))) m_str (nomark _)))) m_snil)
      (m_sone (m_ret (m_eor (m_enot (m_call (ok_in_book hP T) (hr.mono (by decide)) rfl T.g_in_book T.d_in_book.kp T.B_in_book tk (m_acons (m_var (pv 0)) m_anil))) (m_eone (m_cmp (o_inA hr.units) (s_inA s_in) (m_var (pv 0)) (m_tup (m_acons m_str (m_acons m_str m_anil))) rfl)))))))
theorem ok_is_awaited (hP : PFa P FILE) (T : Txt P w K mg A) : FnOk P w K mg base (L2.CX P w) 1 (He.fAd K ("is_awaited", none)) A.d_is_awaited ["place"] (SpM K (gOf K) 1 m_is_awaited) :=
  fn_gc (fn_mD (N := ["place"]) T.d_is_awaited sc_is_awaited fun cdv Ar outer s H E hr => by
    have tk := takes_of (X := cxOf (L2.CX P w) P w K mg base ["place"] "is_awaited" (defScope s_is_awaited) (He.fAd K ("is_awaited", none)) cdv Ar outer s H E) rfl rfl rfl rfl
    exact (m_sone (m_ret (m_bm PySem.F.plainAttrs_str PySem.F.slot_str_endswith PySem.F.type_str_endswith mt_endswith t_str s_ends (m_var (pv 0)) (m_acons m_str m_anil)))))
theorem ok_may_be_dealt (hP : PFa P FILE) (T : Txt P w K mg A) : FnOk P w K mg base (L2.CX P w) 2 (He.fAd K ("may_be_dealt", none)) A.d_may_be_dealt ["head", "place", "other"] (SpM K (gOf K) 3 m_may_be_dealt) :=
  fn_gc (fn_mD (N := ["head", "place", "other"]) T.d_may_be_dealt sc_may_be_dealt fun cdv Ar outer s H E hr => by
    have tk := takes_of (X := cxOf (L2.CX P w) P w K mg base ["head", "place", "other"] "may_be_dealt" (defScope s_may_be_dealt) (He.fAd K ("may_be_dealt", none)) cdv Ar outer s H E) rfl rfl rfl rfl
    exact (m_scons (m_if (m_not (m_truth (m_call (ok_in_book hP T) (hr.mono (by decide)) rfl T.g_in_book T.d_in_book.kp T.B_in_book tk (m_acons (m_var (pv 1)) m_anil)) (by intro _; rfl))) (m_sone (m_ret m_bl)) m_snil)
      (m_scons (m_if (PW.pt (m_and (m_cmpT (op_eqM hr.units) s_eq (m_fld (fo_move T) (m_var (pv 0))) m_str (nomark _)) (m_and1 (m_cmpT (op_eqM hr.units) s_eq (m_var (pv 2)) m_str (nomark _))))) (m_sone (m_ret m_bl)) m_snil)
      (m_sone (m_ret (m_eor (m_cmp (op_eqM hr.units) s_eq (m_fld (fo_out T) (m_var (pv 0))) m_str (nomark _)) (m_eone (m_enot (m_call (ok_is_awaited hP T) (hr.mono (by decide)) rfl T.g_is_awaited T.d_is_awaited.kp T.B_is_awaited tk (m_acons (m_var (pv 2)) m_anil))))))))))
end
end Lw
namespace Lw
open PySem L2 Mo
section
variable {P : Program} {w : World} {K : PySem.W.Frag} {mg : Str → Option Value} {base : Heap} {A : Ad}
theorem ok_after_deal (hP : PFa P FILE) (T : Txt P w K mg A) : FnOk P w K mg base (L2.CX P w) 3 (He.fAd K ("after_deal", none)) A.d_after_deal ["crew", "pair", "target"] (SpM K (gOf K) 3 m_after_deal) :=
  fn_gc (fn_mD (N := ["crew", "pair", "target", "first", "second"]) T.d_after_deal sc_after_deal fun cdv Ar outer s H E hr => by
    have tk := takes_of (X := cxOf (L2.CX P w) P w K mg base ["crew", "pair", "target", "first", "second"] "after_deal" (defScope s_after_deal) (He.fAd K ("after_deal", none)) cdv Ar outer s H E) rfl rfl rfl rfl
    exact (m_scons (m_asgU (m_var (pv 1)) rfl (pgs_cons (pg_name (i := 3) sc_after_deal.nd rfl (Or.inl rfl)) (pgs_cons (pg_name (i := 4) sc_after_deal.nd rfl (Or.inl rfl)) pgs_nil)) (gss_cons (gss_cons gss_nil)))
      (m_scons (m_if (PW.pt (m_or (m_not (m_truth (m_call (ok_has_answered hP T) (hr.mono (by decide)) rfl T.g_has_answered T.d_has_answered.kp T.B_has_answered tk (m_acons (m_var (pv 3)) (m_acons (m_fld (fo_first T) (m_var (pv 0))) m_anil))) (by intro _; rfl))) (m_or1 (m_not (m_truth (m_call (ok_has_answered hP T) (hr.mono (by decide)) rfl T.g_has_answered T.d_has_answered.kp T.B_has_answered tk (m_acons (m_var (pv 4)) (m_acons (m_fld (fo_second T) (m_var (pv 0))) m_anil))) (by intro _; rfl)))))) (m_sone (m_ret m_non)) m_snil)
      (m_scons (m_if (PW.pt (m_and (m_cmpT (op_eqM hr.units) s_eq (m_var (pv 2)) m_str (nomark _)) (m_and1 (m_not (m_truth (m_call (ok_may_be_dealt hP T) (hr.mono (by decide)) rfl T.g_may_be_dealt T.d_may_be_dealt.kp T.B_may_be_dealt tk (m_acons (m_fld (fo_head T) (m_var (pv 0))) (m_acons (m_var (pv 3)) (m_acons (m_var (pv 4)) m_anil)))) (by intro _; rfl)))))) (m_sone (m_ret m_non)) m_snil)
      (m_scons (m_if (PW.pt (m_and (m_cmpT (op_eqM hr.units) s_eq (m_var (pv 2)) m_str (nomark _)) (m_and1 (m_not (m_truth (m_call (ok_may_be_dealt hP T) (hr.mono (by decide)) rfl T.g_may_be_dealt T.d_may_be_dealt.kp T.B_may_be_dealt tk (m_acons (m_fld (fo_head T) (m_var (pv 0))) (m_acons (m_var (pv 4)) (m_acons (m_var (pv 3)) m_anil)))) (by intro _; rfl)))))) (m_sone (m_ret m_non)) m_snil)
      (m_sone (m_ret (m_tup (m_acons (m_call (ok_place_dealt hP T) (hr.mono (by decide)) rfl T.g_place_dealt T.d_place_dealt.kp T.B_place_dealt tk (m_acons (m_var (pv 3)) (m_acons (m_cmp (op_eqM hr.units) s_eq (m_var (pv 2)) m_str (nomark _)) m_anil))) (m_acons (m_call (ok_place_dealt hP T) (hr.mono (by decide)) rfl T.g_place_dealt T.d_place_dealt.kp T.B_place_dealt tk (m_acons (m_var (pv 4)) (m_acons (m_cmp (op_eqM hr.units) s_eq (m_var (pv 2)) m_str (nomark _)) m_anil))) m_anil))))))))))
theorem ok_steps (hP : PFa P FILE) (T : Txt P w K mg A) : FnOk P w K mg base (L2.CX P w) 4 (He.fAd K ("steps", none)) A.d_steps ["crew", "pair"] (SpM K (gOf K) 2 m_steps) :=
  fn_gc (fn_mD (N := ["crew", "pair", "first", "second", "found", "word", "place", "target", "dealt"]) T.d_steps sc_steps fun cdv Ar outer s H E hr => by
    have tk := takes_of (X := cxOf (L2.CX P w) P w K mg base ["crew", "pair", "first", "second", "found", "word", "place", "target", "dealt"] "steps" (defScope s_steps) (He.fAd K ("steps", none)) cdv Ar outer s H E) rfl rfl rfl rfl
    exact (m_scons (m_asgU (m_var (pv 1)) rfl (pgs_cons (pg_name (i := 2) sc_steps.nd rfl (Or.inl rfl)) (pgs_cons (pg_name (i := 3) sc_steps.nd rfl (Or.inl rfl)) pgs_nil)) (gss_cons (gss_cons gss_nil)))
      (m_scons (m_set (i := 4) sc_steps.nd rfl (Or.inl rfl) (m_lst m_anil))
      (m_scons (m_for (passes_of rfl) rfl (tc_STEP_WORDS T (by rfl)) (pg_name (i := 5) sc_steps.nd rfl (Or.inl rfl)) gs_name (m_scons (m_set (i := 6) sc_steps.nd rfl (Or.inl rfl) (m_call (ok_after hP T) (hr.mono (by decide)) rfl T.g_after T.d_after.kp T.B_after tk (m_acons (m_var (pv 5)) (m_acons (m_var (pv 2)) (m_acons (m_fld (fo_head T) (m_var (pv 0))) (m_acons (m_fld (fo_first T) (m_var (pv 0))) m_anil))))))
      (m_sone (m_if (m_cmpT op_notN s_notN (m_var (pv 6)) m_non (nomark _)) (m_sone (m_expr (m_bm PySem.F.plainAttrs_list PySem.F.slot_list_append PySem.F.type_list_append mt_append t_lst s_append (m_var (pv 4)) (m_acons (m_tup (m_acons (m_op o_add s_add (m_var (pv 5)) m_str) (m_acons (m_tup (m_acons (m_var (pv 6)) (m_acons (m_var (pv 3)) m_anil))) m_anil))) m_anil)))) m_snil))))
      (m_scons (m_for (passes_of rfl) rfl (tc_STEP_WORDS T (by rfl)) (pg_name (i := 5) sc_steps.nd rfl (Or.inl rfl)) gs_name (m_scons (m_set (i := 6) sc_steps.nd rfl (Or.inl rfl) (m_call (ok_after hP T) (hr.mono (by decide)) rfl T.g_after T.d_after.kp T.B_after tk (m_acons (m_var (pv 5)) (m_acons (m_var (pv 3)) (m_acons (m_fld (fo_head T) (m_var (pv 0))) (m_acons (m_fld (fo_second T) (m_var (pv 0))) m_anil))))))
      (m_sone (m_if (m_cmpT op_notN s_notN (m_var (pv 6)) m_non (nomark _)) (m_sone (m_expr (m_bm PySem.F.plainAttrs_list PySem.F.slot_list_append PySem.F.type_list_append mt_append t_lst s_append (m_var (pv 4)) (m_acons (m_tup (m_acons (m_op o_add s_add (m_var (pv 5)) m_str) (m_acons (m_tup (m_acons (m_var (pv 2)) (m_acons (m_var (pv 6)) m_anil))) m_anil))) m_anil)))) m_snil))))
      (m_scons (m_for (passes_of rfl) rfl (m_tup (m_acons m_str (m_acons m_str (m_acons m_str m_anil)))) (pg_name (i := 7) sc_steps.nd rfl (Or.inl rfl)) gs_name (m_scons (m_set (i := 8) sc_steps.nd rfl (Or.inl rfl) (m_call (ok_after_deal hP T) (hr.mono (by decide)) rfl T.g_after_deal T.d_after_deal.kp T.B_after_deal tk (m_acons (m_var (pv 0)) (m_acons (m_tup (m_acons (m_var (pv 2)) (m_acons (m_var (pv 3)) m_anil))) (m_acons (m_var (pv 7)) m_anil)))))
      (m_sone (m_if (PW.pt (m_and (m_cmpT op_notN s_notN (m_var (pv 8)) m_non (nomark _)) (m_and1 (m_cmpT (op_neM hr.units) s_ne (m_var (pv 8)) (m_tup (m_acons (m_var (pv 2)) (m_acons (m_var (pv 3)) m_anil))) (nomark _))))) (m_sone (m_expr (m_bm PySem.F.plainAttrs_list PySem.F.slot_list_append PySem.F.type_list_append mt_append t_lst s_append (m_var (pv 4)) (m_acons (m_tup (m_acons (m_op o_add s_add m_str (m_var (pv 7))) (m_acons (m_var (pv 8)) m_anil))) m_anil)))) m_snil))))
      (m_sone (m_ret (m_var (pv 4))))))))))
theorem ok_owns (hP : PFa P FILE) (T : Txt P w K mg A) : FnOk P w K mg base (L2.CX P w) 1 (He.fAd K ("owns", none)) A.d_owns ["place"] (SpM K (gOf K) 1 m_owns) :=
  fn_gc (fn_mD (N := ["place"]) T.d_owns sc_owns fun cdv Ar outer s H E hr => by
    have tk := takes_of (X := cxOf (L2.CX P w) P w K mg base ["place"] "owns" (defScope s_owns) (He.fAd K ("owns", none)) cdv Ar outer s H E) rfl rfl rfl rfl
    exact (m_sone (m_ret (m_cmp (o_inA hr.units) (s_inA s_in) (m_var (pv 0)) (tc_OWNERS T (by rfl)) rfl))))
theorem ok_mark_moves (hP : PFa P FILE) (T : Txt P w K mg A) : FnOk P w K mg base (L2.CX P w) 2 (He.fAd K ("mark_moves", none)) A.d_mark_moves ["crew", "standing"] (SpM K (gOf K) 2 m_mark_moves) :=
  fn_gc (fn_mD (N := ["crew", "standing", "first", "second", "note", "places", "moves", "who", "other", "taken"]) T.d_mark_moves sc_mark_moves fun cdv Ar outer s H E hr => by
    have tk := takes_of (X := cxOf (L2.CX P w) P w K mg base ["crew", "standing", "first", "second", "note", "places", "moves", "who", "other", "taken"] "mark_moves" (defScope s_mark_moves) (He.fAd K ("mark_moves", none)) cdv Ar outer s H E) rfl rfl rfl rfl
    exact (m_scons (m_asgU (m_var (pv 1)) rfl (pgs_cons (pg_name (i := 2) sc_mark_moves.nd rfl (Or.inl rfl)) (pgs_cons (pg_name (i := 3) sc_mark_moves.nd rfl (Or.inl rfl)) (pgs_cons (pg_name (i := 4) sc_mark_moves.nd rfl (Or.inl rfl)) pgs_nil))) (gss_cons (gss_cons (gss_cons gss_nil))))
      (m_scons (m_set (i := 5) sc_mark_moves.nd rfl (Or.inl rfl) (m_disp (.cons m_str (m_var (pv 2)) (.cons m_str (m_var (pv 3)) .nil))))
      (m_scons (m_set (i := 6) sc_mark_moves.nd rfl (Or.inl rfl) (m_lst m_anil))
      (m_scons (m_for (passes_of rfl) rfl (m_tup (m_acons m_str (m_acons m_str m_anil))) (pg_name (i := 7) sc_mark_moves.nd rfl (Or.inl rfl)) gs_name (m_sone (m_if (PW.pt (m_and (m_cmpT (op_eqM hr.units) s_eq (m_var (pv 4)) m_str (nomark _)) (m_and1 (m_cmpT (op_eqM hr.units) s_eq (m_ixA hr (m_var (pv 5)) (m_var (pv 7))) m_str (nomark _))))) (m_sone (m_expr (m_bm PySem.F.plainAttrs_list PySem.F.slot_list_append PySem.F.type_list_append mt_append t_lst s_append (m_var (pv 6)) (m_acons (m_tup (m_acons (m_op o_add s_add m_str (m_var (pv 7))) (m_acons (m_tup (m_acons (m_var (pv 2)) (m_acons (m_var (pv 3)) (m_acons (m_var (pv 7)) m_anil)))) m_anil))) m_anil)))) m_snil)))
      (m_scons (m_for (passes_of rfl) rfl (m_tup (m_acons (m_tup (m_acons m_str (m_acons m_str m_anil))) (m_acons (m_tup (m_acons m_str (m_acons m_str m_anil))) m_anil))) (pg_tup rfl (pgs_cons (pg_name (i := 7) sc_mark_moves.nd rfl (Or.inl rfl)) (pgs_cons (pg_name (i := 8) sc_mark_moves.nd rfl (Or.inl rfl)) pgs_nil))) (gs_tup (gss_cons (gss_cons gss_nil))) (m_sone (m_if (PW.pt (m_and (m_cmpT (op_eqM hr.units) s_eq (m_var (pv 4)) (m_var (pv 8)) (nomark _)) (m_and1 (m_cmpT (op_eqM hr.units) s_eq (m_ixA hr (m_var (pv 5)) (m_var (pv 7))) m_str (nomark _))))) (m_sone (m_expr (m_bm PySem.F.plainAttrs_list PySem.F.slot_list_append PySem.F.type_list_append mt_append t_lst s_append (m_var (pv 6)) (m_acons (m_tup (m_acons (m_op o_add s_add m_str (m_var (pv 7))) (m_acons (m_tup (m_acons (m_var (pv 2)) (m_acons (m_var (pv 3)) (m_acons (m_op o_add s_add (m_var (pv 8)) m_str) m_anil)))) m_anil))) m_anil)))) m_snil)))
      (m_scons (m_if (m_cmpT (op_neM hr.units) s_ne (m_var (pv 4)) m_str (nomark _)) (m_scons (m_set (i := 9) sc_mark_moves.nd rfl (Or.inl rfl) (m_eor (m_cmp (op_neM hr.units) s_ne (m_fld (fo_marks T) (m_fld (fo_head T) (m_var (pv 0)))) m_str (nomark _)) (m_eone (m_call (ok_owns hP T) (hr.mono (by decide)) rfl T.g_owns T.d_owns.kp T.B_owns tk (m_acons (m_ixA hr (m_var (pv 5)) (m_bm PySem.F.plainAttrs_str PySem.F.slot_str_rstrip PySem.F.type_str_rstrip L2.mt_rstripChars t_str s_rstripC (m_var (pv 4)) (m_acons m_str m_anil))) m_anil)))))
      (m_sone (m_if (PW.pt (m_and (m_truth (m_var (pv 9)) (by intro _; rfl)) (m_and1 (m_truth (m_bm PySem.F.plainAttrs_str PySem.F.slot_str_endswith PySem.F.type_str_endswith mt_endswith t_str s_ends (m_var (pv 4)) (m_acons m_str m_anil)) (by intro _; rfl))))) (m_sone (m_expr (m_bm PySem.F.plainAttrs_list PySem.F.slot_list_append PySem.F.type_list_append mt_append t_lst s_append (m_var (pv 6)) (m_acons (m_tup (m_acons m_str (m_acons m_non m_anil))) m_anil)))) (m_sone (m_expr (m_bm PySem.F.plainAttrs_list PySem.F.slot_list_append PySem.F.type_list_append mt_append t_lst s_append (m_var (pv 6)) (m_acons (m_tup (m_acons m_str (m_acons (m_tup (m_acons (m_var (pv 2)) (m_acons (m_var (pv 3)) (m_acons m_str m_anil)))) m_anil))) m_anil))))))) m_snil)
      (m_sone (m_ret (m_var (pv 6)))))))))))
theorem ok_steady_move (hP : PFa P FILE) (T : Txt P w K mg A) : FnOk P w K mg base (L2.CX P w) 1 (He.fAd K ("steady_move", none)) A.d_steady_move ["standing", "label", "pair"] (SpM K (gOf K) 3 m_steady_move) :=
  fn_gc (fn_mD (N := ["standing", "label", "pair"]) T.d_steady_move sc_steady_move fun cdv Ar outer s H E hr => by
    have tk := takes_of (X := cxOf (L2.CX P w) P w K mg base ["standing", "label", "pair"] "steady_move" (defScope s_steady_move) (He.fAd K ("steady_move", none)) cdv Ar outer s H E) rfl rfl rfl rfl
    exact (m_scons (m_if (PW.pt (m_and (m_cmpT (op_eqM hr.units) s_eq (m_var (pv 1)) m_str (nomark _)) (m_and1 (m_cmpT (op_eqM hr.units) s_eq (m_ixA hr (m_var (pv 0)) m_int) m_str (nomark _))))) (m_sone (m_ret m_non)) m_snil)
      (m_scons (m_if (PW.pt (m_and (m_cmpT (op_eqM hr.units) s_eq (m_var (pv 1)) m_str (nomark _)) (m_and1 (m_cmpT (op_eqM hr.units) s_eq (m_ixA hr (m_var (pv 0)) m_int) m_str (nomark _))))) (m_sone (m_ret m_non)) m_snil)
      (m_sone (m_ret (m_tup (m_acons (m_ixA hr (m_var (pv 2)) m_int) (m_acons (m_ixA hr (m_var (pv 2)) m_int) (m_acons (m_ixA hr (m_var (pv 0)) m_int) m_anil)))))))))
theorem ok_at_work (hP : PFa P FILE) (T : Txt P w K mg A) : FnOk P w K mg base (L2.CX P w) 1 (He.fAd K ("at_work", none)) A.d_at_work ["place"] (SpM K (gOf K) 1 m_at_work) :=
  fn_gc (fn_mD (N := ["place"]) T.d_at_work sc_at_work fun cdv Ar outer s H E hr => by
    have tk := takes_of (X := cxOf (L2.CX P w) P w K mg base ["place"] "at_work" (defScope s_at_work) (He.fAd K ("at_work", none)) cdv Ar outer s H E) rfl rfl rfl rfl
    exact (m_sone (m_ret (m_cmp (o_inA hr.units) (s_inA s_in) (m_var (pv 0)) (tc_AT_WORK T (by rfl)) rfl))))
theorem ok_stops (hP : PFa P FILE) (T : Txt P w K mg A) : FnOk P w K mg base (L2.CX P w) 2 (He.fAd K ("stops", none)) A.d_stops ["word", "before", "now"] (SpM K (gOf K) 3 m_stops) :=
  fn_gc (fn_mD (N := ["word", "before", "now"]) T.d_stops sc_stops fun cdv Ar outer s H E hr => by
    have tk := takes_of (X := cxOf (L2.CX P w) P w K mg base ["word", "before", "now"] "stops" (defScope s_stops) (He.fAd K ("stops", none)) cdv Ar outer s H E) rfl rfl rfl rfl
    exact (m_sone (m_ret (m_eand (m_cmp (o_inA hr.units) (s_inA s_in) (m_var (pv 0)) (m_tup (m_acons m_str (m_acons m_str (m_acons m_str m_anil)))) rfl) (m_eand (m_call (ok_at_work hP T) (hr.mono (by decide)) rfl T.g_at_work T.d_at_work.kp T.B_at_work tk (m_acons (m_var (pv 1)) m_anil)) (m_eone (m_enot (m_call (ok_at_work hP T) (hr.mono (by decide)) rfl T.g_at_work T.d_at_work.kp T.B_at_work tk (m_acons (m_var (pv 2)) m_anil)))))))))
theorem ok_is_saved (hP : PFa P FILE) (T : Txt P w K mg A) : FnOk P w K mg base (L2.CX P w) 2 (He.fAd K ("is_saved", none)) A.d_is_saved ["head", "place", "other"] (SpM K (gOf K) 3 m_is_saved) :=
  fn_gc (fn_mD (N := ["head", "place", "other"]) T.d_is_saved sc_is_saved fun cdv Ar outer s H E hr => by
    have tk := takes_of (X := cxOf (L2.CX P w) P w K mg base ["head", "place", "other"] "is_saved" (defScope s_is_saved) (He.fAd K ("is_saved", none)) cdv Ar outer s H E) rfl rfl rfl rfl
    exact (m_scons (m_if (m_cmpT (op_eqM hr.units) s_eq (m_var (pv 1)) m_str (nomark _)) (m_sone (m_ret (m_eor (m_cmp (op_eqM hr.units) s_eq (m_fld (fo_marks T) (m_var (pv 0))) m_str (nomark _)) (m_eone (m_eand (m_cmp (op_eqM hr.units) s_eq (m_fld (fo_marks T) (m_var (pv 0))) m_str (nomark _)) (m_eone (m_enot (m_call (ok_owns hP T) (hr.mono (by decide)) rfl T.g_owns T.d_owns.kp T.B_owns tk (m_acons (m_var (pv 2)) m_anil))))))))) m_snil)
      (m_sone (m_ret m_bl))))
theorem ok_norepeat_move (hP : PFa P FILE) (T : Txt P w K mg A) : FnOk P w K mg base (L2.CX P w) 3 (He.fAd K ("norepeat_move", none)) A.d_norepeat_move ["crew", "standing", "label", "pair"] (SpM K (gOf K) 4 m_norepeat_move) :=
  fn_gc (fn_mD (N := ["crew", "standing", "label", "pair", "note", "word", "k", "before", "other"]) T.d_norepeat_move sc_norepeat_move fun cdv Ar outer s H E hr => by
    have tk := takes_of (X := cxOf (L2.CX P w) P w K mg base ["crew", "standing", "label", "pair", "note", "word", "k", "before", "other"] "norepeat_move" (defScope s_norepeat_move) (He.fAd K ("norepeat_move", none)) cdv Ar outer s H E) rfl rfl rfl rfl
    exact (m_scons (m_set (i := 4) sc_norepeat_move.nd rfl (Or.inl rfl) (m_ixA hr (m_var (pv 1)) m_int))
      (m_scons (m_set (i := 5) sc_norepeat_move.nd rfl (Or.inl rfl) (m_ixA hr (m_bm PySem.F.plainAttrs_str PySem.F.slot_str_split PySem.F.type_str_split mt_split t_str s_split (m_var (pv 2)) (m_acons m_str m_anil)) m_int))
      (m_scons (m_for (passes_of rfl) rfl (m_tup (m_acons m_int (m_acons m_int m_anil))) (pg_name (i := 6) sc_norepeat_move.nd rfl (Or.inl rfl)) gs_name (m_scons (m_set (i := 7) sc_norepeat_move.nd rfl (Or.inl rfl) (m_ixA hr (m_var (pv 1)) (m_var (pv 6))))
      (m_scons (m_set (i := 8) sc_norepeat_move.nd rfl (Or.inl rfl) (m_ixA hr (m_var (pv 1)) (m_op op_sub s_sub m_int (m_var (pv 6)))))
      (m_scons (m_if (PW.pt (m_and (m_truth (m_call (ok_at_work hP T) (hr.mono (by decide)) rfl T.g_at_work T.d_at_work.kp T.B_at_work tk (m_acons (m_ixA hr (m_var (pv 3)) (m_var (pv 6))) m_anil)) (by intro _; rfl)) (m_and (m_not (m_truth (m_call (ok_at_work hP T) (hr.mono (by decide)) rfl T.g_at_work T.d_at_work.kp T.B_at_work tk (m_acons (m_var (pv 7)) m_anil)) (by intro _; rfl))) (m_and1 (PW.pt (m_or (m_cmpT (op_eqM hr.units) s_eq (m_ixA hr (m_var (pv 1)) m_int) m_str (nomark _)) (m_or1 (m_truth (m_call (ok_at_work hP T) (hr.mono (by decide)) rfl T.g_at_work T.d_at_work.kp T.B_at_work tk (m_acons (m_var (pv 8)) m_anil)) (by intro _; rfl))))))))) (m_sone (m_ret m_non)) m_snil)
      (m_sone (m_if (PW.pt (m_and (m_truth (m_call (ok_stops hP T) (hr.mono (by decide)) rfl T.g_stops T.d_stops.kp T.B_stops tk (m_acons (m_var (pv 5)) (m_acons (m_var (pv 7)) (m_acons (m_ixA hr (m_var (pv 3)) (m_var (pv 6))) m_anil)))) (by intro _; rfl)) (m_and1 (m_not (m_truth (m_call (ok_is_saved hP T) (hr.mono (by decide)) rfl T.g_is_saved T.d_is_saved.kp T.B_is_saved tk (m_acons (m_fld (fo_head T) (m_var (pv 0))) (m_acons (m_var (pv 7)) (m_acons (m_var (pv 8)) m_anil)))) (by intro _; rfl)))))) (m_sone (m_set (i := 4) sc_norepeat_move.nd rfl (Or.inl rfl) m_str)) m_snil))))))
      (m_sone (m_ret (m_tup (m_acons (m_ixA hr (m_var (pv 3)) m_int) (m_acons (m_ixA hr (m_var (pv 3)) m_int) (m_acons (m_var (pv 4)) m_anil))))))))))
theorem ok_forward_move (hP : PFa P FILE) (T : Txt P w K mg A) : FnOk P w K mg base (L2.CX P w) 3 (He.fAd K ("forward_move", none)) A.d_forward_move ["crew", "standing", "label", "pair"] (SpM K (gOf K) 4 m_forward_move) :=
  fn_gc (fn_mD (N := ["crew", "standing", "label", "pair", "note", "word", "who", "places", "now"]) T.d_forward_move sc_forward_move fun cdv Ar outer s H E hr => by
    have tk := takes_of (X := cxOf (L2.CX P w) P w K mg base ["crew", "standing", "label", "pair", "note", "word", "who", "places", "now"] "forward_move" (defScope s_forward_move) (He.fAd K ("forward_move", none)) cdv Ar outer s H E) rfl rfl rfl rfl
    exact (m_scons (m_set (i := 4) sc_forward_move.nd rfl (Or.inl rfl) (m_ixA hr (m_var (pv 1)) m_int))
      (m_scons (m_if (m_cmpT (op_eqM hr.units) s_eq (m_var (pv 4)) m_str (nomark _)) (m_sone (m_ret (m_tup (m_acons (m_ixA hr (m_var (pv 3)) m_int) (m_acons (m_ixA hr (m_var (pv 3)) m_int) (m_acons m_str m_anil)))))) m_snil)
      (m_scons (m_asgU (m_bm PySem.F.plainAttrs_str PySem.F.slot_str_split PySem.F.type_str_split mt_split t_str s_split (m_var (pv 2)) (m_acons m_str m_anil)) rfl (pgs_cons (pg_name (i := 5) sc_forward_move.nd rfl (Or.inl rfl)) (pgs_cons (pg_name (i := 6) sc_forward_move.nd rfl (Or.inl rfl)) pgs_nil)) (gss_cons (gss_cons gss_nil)))
      (m_scons (m_set (i := 7) sc_forward_move.nd rfl (Or.inl rfl) (m_disp (.cons m_str (m_ixA hr (m_var (pv 1)) m_int) (.cons m_str (m_ixA hr (m_var (pv 1)) m_int) .nil))))
      (m_scons (m_if (m_cmpT (op_eqM hr.units) s_eq (m_var (pv 5)) m_str (nomark _)) (m_sone (m_if (PW.pt (m_and (m_cmpT (op_eqM hr.units) s_eq (m_fld (fo_marks T) (m_fld (fo_head T) (m_var (pv 0)))) m_str (nomark _)) (m_and (m_cmpT (op_neM hr.units) s_ne (m_var (pv 6)) m_str (nomark _)) (m_and1 (m_cmpT (op_eqM hr.units) s_eq (m_ixA hr (m_var (pv 7)) (m_var (pv 6))) m_str (nomark _)))))) (m_sone (m_set (i := 4) sc_forward_move.nd rfl (Or.inl rfl) m_str)) m_snil)) (m_sone (m_if (m_cmpT (op_eqM hr.units) s_eq (m_var (pv 6)) (m_bm PySem.F.plainAttrs_str PySem.F.slot_str_rstrip PySem.F.type_str_rstrip L2.mt_rstripChars t_str s_rstripC (m_var (pv 4)) (m_acons m_str m_anil)) (nomark _)) (m_scons (m_set (i := 8) sc_forward_move.nd rfl (Or.inl rfl) (m_disp (.cons m_str (m_ixA hr (m_var (pv 3)) m_int) (.cons m_str (m_ixA hr (m_var (pv 3)) m_int) .nil))))
      (m_sone (m_if (m_truth (m_call (ok_stops hP T) (hr.mono (by decide)) rfl T.g_stops T.d_stops.kp T.B_stops tk (m_acons (m_var (pv 5)) (m_acons (m_ixA hr (m_var (pv 7)) (m_var (pv 6))) (m_acons (m_ixA hr (m_var (pv 8)) (m_var (pv 6))) m_anil)))) (by intro _; rfl)) (m_sone (m_set (i := 4) sc_forward_move.nd rfl (Or.inl rfl) m_str)) m_snil))) m_snil)))
      (m_sone (m_ret (m_tup (m_acons (m_ixA hr (m_var (pv 3)) m_int) (m_acons (m_ixA hr (m_var (pv 3)) m_int) (m_acons (m_var (pv 4)) m_anil))))))))))))
theorem ok_single_move (hP : PFa P FILE) (T : Txt P w K mg A) : FnOk P w K mg base (L2.CX P w) 2 (He.fAd K ("single_move", none)) A.d_single_move ["standing", "pair"] (SpM K (gOf K) 2 m_single_move) :=
  fn_gc (fn_mD (N := ["standing", "pair"]) T.d_single_move sc_single_move fun cdv Ar outer s H E hr => by
    have tk := takes_of (X := cxOf (L2.CX P w) P w K mg base ["standing", "pair"] "single_move" (defScope s_single_move) (He.fAd K ("single_move", none)) cdv Ar outer s H E) rfl rfl rfl rfl
    exact (m_scons (m_if (PW.pt (m_and (m_truth (m_call (ok_at_work hP T) (hr.mono (by decide)) rfl T.g_at_work T.d_at_work.kp T.B_at_work tk (m_acons (m_ixA hr (m_var (pv 1)) m_int) m_anil)) (by intro _; rfl)) (m_and1 (m_truth (m_call (ok_at_work hP T) (hr.mono (by decide)) rfl T.g_at_work T.d_at_work.kp T.B_at_work tk (m_acons (m_ixA hr (m_var (pv 1)) m_int) m_anil)) (by intro _; rfl))))) (m_sone (m_ret m_non)) m_snil)
      (m_sone (m_ret (m_tup (m_acons (m_ixA hr (m_var (pv 1)) m_int) (m_acons (m_ixA hr (m_var (pv 1)) m_int) (m_acons (m_ixA hr (m_var (pv 0)) m_int) m_anil))))))))
theorem ok_Promise___call__ (hP : PFa P FILE) (T : Txt P w K mg A) : FnOk P w K mg base (L2.CX P w) 5 (He.fAd K ("Promise", some "__call__")) A.d_Promise___call__ ["self", "crew", "standing"] (SpM K (gOf K) 3 m_Promise___call__) :=
  fn_gc (fn_mD (N := ["self", "crew", "standing", "moves", "label", "pair"]) T.d_Promise___call__ sc_Promise___call__ fun cdv Ar outer s H E hr => by
    have tk := takes_of (X := cxOf (L2.CX P w) P w K mg base ["self", "crew", "standing", "moves", "label", "pair"] "Promise.__call__" (defScope s_Promise___call__) (He.fAd K ("Promise", some "__call__")) cdv Ar outer s H E) rfl rfl rfl rfl
    exact (m_scons (m_set (i := 3) sc_Promise___call__.nd rfl (Or.inl rfl) (m_lst m_anil))
      (m_scons (m_for (passes_of rfl) rfl (m_call (ok_steps hP T) (hr.mono (by decide)) rfl T.g_steps T.d_steps.kp T.B_steps tk (m_acons (m_var (pv 1)) (m_acons (m_tup (m_acons (m_ixA hr (m_var (pv 2)) m_int) (m_acons (m_ixA hr (m_var (pv 2)) m_int) m_anil))) m_anil))) (pg_tup rfl (pgs_cons (pg_name (i := 4) sc_Promise___call__.nd rfl (Or.inl rfl)) (pgs_cons (pg_name (i := 5) sc_Promise___call__.nd rfl (Or.inl rfl)) pgs_nil))) (gs_tup (gss_cons (gss_cons gss_nil))) (m_scons (m_if (PW.pt (m_and (m_cmpT (o_inA hr.units) (s_inA s_in) (m_fld (fo_name T) (m_var (pv 0))) (m_tup (m_acons m_str (m_acons m_str m_anil))) rfl) (m_and1 (m_truth (m_bm PySem.F.plainAttrs_str PySem.F.slot_str_startswith PySem.F.type_str_startswith mt_startswith t_str s_starts (m_var (pv 4)) (m_acons m_str m_anil)) (by intro _; rfl))))) (m_sone m_cont) m_snil)
      (m_sone (m_if (m_cmpT (op_eqM hr.units) s_eq (m_fld (fo_name T) (m_var (pv 0))) m_str (nomark _)) (m_sone (m_expr (m_bm PySem.F.plainAttrs_list PySem.F.slot_list_append PySem.F.type_list_append mt_append t_lst s_append (m_var (pv 3)) (m_acons (m_tup (m_acons (m_var (pv 4)) (m_acons (m_call (ok_steady_move hP T) (hr.mono (by decide)) rfl T.g_steady_move T.d_steady_move.kp T.B_steady_move tk (m_acons (m_var (pv 2)) (m_acons (m_var (pv 4)) (m_acons (m_var (pv 5)) m_anil)))) m_anil))) m_anil)))) (m_sone (m_if (m_cmpT (op_eqM hr.units) s_eq (m_fld (fo_name T) (m_var (pv 0))) m_str (nomark _)) (m_sone (m_expr (m_bm PySem.F.plainAttrs_list PySem.F.slot_list_append PySem.F.type_list_append mt_append t_lst s_append (m_var (pv 3)) (m_acons (m_tup (m_acons (m_var (pv 4)) (m_acons (m_call (ok_norepeat_move hP T) (hr.mono (by decide)) rfl T.g_norepeat_move T.d_norepeat_move.kp T.B_norepeat_move tk (m_acons (m_var (pv 1)) (m_acons (m_var (pv 2)) (m_acons (m_var (pv 4)) (m_acons (m_var (pv 5)) m_anil))))) m_anil))) m_anil)))) (m_sone (m_if (m_cmpT (op_eqM hr.units) s_eq (m_fld (fo_name T) (m_var (pv 0))) m_str (nomark _)) (m_sone (m_expr (m_bm PySem.F.plainAttrs_list PySem.F.slot_list_append PySem.F.type_list_append mt_append t_lst s_append (m_var (pv 3)) (m_acons (m_tup (m_acons (m_var (pv 4)) (m_acons (m_call (ok_forward_move hP T) (hr.mono (by decide)) rfl T.g_forward_move T.d_forward_move.kp T.B_forward_move tk (m_acons (m_var (pv 1)) (m_acons (m_var (pv 2)) (m_acons (m_var (pv 4)) (m_acons (m_var (pv 5)) m_anil))))) m_anil))) m_anil)))) (m_sone (m_expr (m_bm PySem.F.plainAttrs_list PySem.F.slot_list_append PySem.F.type_list_append mt_append t_lst s_append (m_var (pv 3)) (m_acons (m_tup (m_acons (m_var (pv 4)) (m_acons (m_call (ok_single_move hP T) (hr.mono (by decide)) rfl T.g_single_move T.d_single_move.kp T.B_single_move tk (m_acons (m_var (pv 2)) (m_acons (m_var (pv 5)) m_anil))) m_anil))) m_anil))))))))))))
      (m_scons (m_if (m_cmpT (op_eqM hr.units) s_eq (m_fld (fo_name T) (m_var (pv 0))) m_str (nomark _)) (m_sone (m_expr (m_bm PySem.F.plainAttrs_list PySem.F.slot_list_extend PySem.F.type_list_extend mt_extend t_lst s_extend (m_var (pv 3)) (m_acons (m_call (ok_mark_moves hP T) (hr.mono (by decide)) rfl T.g_mark_moves T.d_mark_moves.kp T.B_mark_moves tk (m_acons (m_var (pv 1)) (m_acons (m_var (pv 2)) m_anil))) m_anil)))) m_snil)
      (m_sone (m_ret (m_var (pv 3))))))))
end
end Lw
namespace Lw
open PySem L2 Mo
section
variable {P : Program} {w : World} {K : PySem.W.Frag} {mg : Str → Option Value} {base : Heap} {A : Ad}
theorem ok_labels_to (hP : PFa P FILE) (T : Txt P w K mg A) : FnOk P w K mg base (L2.CX P w) 1 (He.fAd K ("labels_to", none)) A.d_labels_to ["origins", "standing"] (SpM K (gOf K) 2 m_labels_to) :=
  fn_gc (fn_mD (N := ["origins", "standing", "labels", "origin"]) T.d_labels_to sc_labels_to fun cdv Ar outer s H E hr => by
    have tk := takes_of (X := cxOf (L2.CX P w) P w K mg base ["origins", "standing", "labels", "origin"] "labels_to" (defScope s_labels_to) (He.fAd K ("labels_to", none)) cdv Ar outer s H E) rfl rfl rfl rfl
    exact (m_scons (m_set (i := 2) sc_labels_to.nd rfl (Or.inl rfl) (m_lst m_anil))
      (m_scons (m_set (i := 3) sc_labels_to.nd rfl (Or.inl rfl) (m_ixA hr (m_var (pv 0)) (m_var (pv 1))))
      (m_scons (m_while (n := FUEL) (passes_of rfl) (m_cmpT op_notN s_notN (m_var (pv 3)) m_non (nomark _)) (m_scons (m_expr (m_bm PySem.F.plainAttrs_list PySem.F.slot_list_append PySem.F.type_list_append mt_append t_lst s_append (m_var (pv 2)) (m_acons (m_ixA hr (m_var (pv 3)) m_int) m_anil)))
      (m_sone (m_set (i := 3) sc_labels_to.nd rfl (Or.inl rfl) (m_ixA hr (m_var (pv 0)) (m_ixA hr (m_var (pv 3)) m_int))))))
      (m_sone (m_ret (m_revL (m_var (pv 2)))))))))
theorem ok_judge (hP : PFa P FILE) (T : Txt P w K mg A) : FnOk P w K mg base (L2.CX P w) 6 (He.fAd K ("judge", none)) A.d_judge ["crew", "name"] (SpM K (gOf K) 2 m_judge) :=
  fn_gc (fn_mD (N := ["crew", "name", "promise", "start", "origins", "table", "layer", "later", "standing", "label", "follower"]) T.d_judge sc_judge fun cdv Ar outer s H E hr => by
    have tk := takes_of (X := cxOf (L2.CX P w) P w K mg base ["crew", "name", "promise", "start", "origins", "table", "layer", "later", "standing", "label", "follower"] "judge" (defScope s_judge) (He.fAd K ("judge", none)) cdv Ar outer s H E) rfl rfl rfl rfl
    exact (m_scons (m_set (i := 2) sc_judge.nd rfl (Or.inl rfl) (m_make (c := "Promise") (f := m_Promise___init__) (ps := ["self", "name"]) (C := He.ga K "Promise") (fd := A.d_Promise___init__) rfl GR.pos T.mk_Promise (ok_Promise___init__ hP T) (hr.mono (by decide)) (by rfl) T.g_Promise (KBn.pos (T.B_Promise___init__) rfl) tk (m_acons (m_var (pv 1)) m_anil)))
      (m_scons (m_set (i := 3) sc_judge.nd rfl (Or.inl rfl) (m_tup (m_acons m_str (m_acons m_str (m_acons m_str m_anil)))))
      (m_scons (m_set (i := 4) sc_judge.nd rfl (Or.inl rfl) (m_disp1T hr (m_var (pv 3)) m_non))
      (m_scons (m_set (i := 5) sc_judge.nd rfl (Or.inl rfl) (m_lst m_anil))
      (m_scons (m_set (i := 6) sc_judge.nd rfl (Or.inl rfl) (m_lst (m_acons (m_var (pv 3)) m_anil)))
      (m_scons (m_while (n := FUEL) (passes_of rfl) (m_cmpT op_gt s_cmp (m_callB c_len s_len (by rfl) T.b_len PySem.boot_len (m_acons (m_var (pv 6)) m_anil)) m_int (nomark _)) (m_scons (m_set (i := 7) sc_judge.nd rfl (Or.inl rfl) (m_lst m_anil))
      (m_scons (m_for (passes_of rfl) rfl (m_var (pv 6)) (pg_name (i := 8) sc_judge.nd rfl (Or.inl rfl)) gs_name (m_scons (m_expr (m_bm PySem.F.plainAttrs_list PySem.F.slot_list_append PySem.F.type_list_append mt_append t_lst s_append (m_var (pv 5)) (m_acons (m_var (pv 8)) m_anil)))
      (m_sone (m_for (passes_of rfl) rfl (m_icall (c := "Promise") (f := m_Promise___call__) (ps := ["self", "crew", "standing"]) (C := He.ga K "Promise") (fd := A.d_Promise___call__) rfl T.me_Promise___call__ (fnIn_of T.d_Promise___call__) (ok_Promise___call__ hP T) (hr.mono (by decide)) T.B_Promise___call__ tk (m_var (pv 2)) (m_acons (m_var (pv 0)) (m_acons (m_var (pv 8)) m_anil))) (pg_tup rfl (pgs_cons (pg_name (i := 9) sc_judge.nd rfl (Or.inl rfl)) (pgs_cons (pg_name (i := 10) sc_judge.nd rfl (Or.inl rfl)) pgs_nil))) (gs_tup (gss_cons (gss_cons gss_nil))) (m_scons (m_if (m_cmpT op_isN s_isN (m_var (pv 10)) m_non (nomark _)) (m_sone (m_ret (m_make (c := "Verdict") (f := m_Verdict___init__) (ps := ["self", "kept", "table", "run"]) (C := He.ga K "Verdict") (fd := A.d_Verdict___init__) rfl GR.pos T.mk_Verdict (ok_Verdict___init__ hP T) (hr.mono (by decide)) (by rfl) T.g_Verdict (KBn.pos (T.B_Verdict___init__) rfl) tk (m_acons m_bl (m_acons m_non (m_acons (m_op o_add s_add (m_call (ok_labels_to hP T) (hr.mono (by decide)) rfl T.g_labels_to T.d_labels_to.kp T.B_labels_to tk (m_acons (m_var (pv 4)) (m_acons (m_var (pv 8)) m_anil))) (m_lst (m_acons (m_var (pv 9)) m_anil))) m_anil)))))) m_snil)
      (m_sone (m_if (m_cmpT (o_notInA hr.units) (s_notInA s_notIn) (m_var (pv 10)) (m_var (pv 4)) rfl) (m_scons (m_iput hr (m_var (pv 4)) (m_var (pv 10)) (m_tup (m_acons (m_var (pv 8)) (m_acons (m_var (pv 9)) m_anil))))
      (m_sone (m_expr (m_bm PySem.F.plainAttrs_list PySem.F.slot_list_append PySem.F.type_list_append mt_append t_lst s_append (m_var (pv 7)) (m_acons (m_var (pv 10)) m_anil))))) m_snil)))))))
      (m_sone (m_set (i := 6) sc_judge.nd rfl (Or.inl rfl) (m_callTy call_list_of s_list (by rfl) T.b_list (by decide +kernel) (m_acons (m_var (pv 7)) m_anil)))))))
      (m_sone (m_ret (m_make (c := "Verdict") (f := m_Verdict___init__) (ps := ["self", "kept", "table", "run"]) (C := He.ga K "Verdict") (fd := A.d_Verdict___init__) rfl GR.pos T.mk_Verdict (ok_Verdict___init__ hP T) (hr.mono (by decide)) (by rfl) T.g_Verdict (KBn.pos (T.B_Verdict___init__) rfl) tk (m_acons m_bl (m_acons (m_var (pv 5)) (m_acons m_non m_anil)))))))))))))
theorem ok_Crew___init__ (hP : PFa P FILE) (T : Txt P w K mg A) : FnOk P w K mg base (L2.CX P w) 1 (He.fAd K ("Crew", some "__init__")) A.d_Crew___init__ ["self", "head", "first", "second"] (SpM K (gOf K) 4 m_Crew___init__) :=
  fn_mD (N := ["self", "head", "first", "second"]) T.d_Crew___init__ sc_Crew___init__ fun cdv Ar outer s H E hr => by
    have tk := takes_of (X := cxOf (L2.CX P w) P w K mg base ["self", "head", "first", "second"] "Crew.__init__" (defScope s_Crew___init__) (He.fAd K ("Crew", some "__init__")) cdv Ar outer s H E) rfl rfl rfl rfl
    exact (m_scons (m_sfld (fo_head T) (m_var (pv 0)) (m_var (pv 1)))
      (m_scons (m_sfld (fo_first T) (m_var (pv 0)) (m_var (pv 2)))
      (m_sone (m_sfld (fo_second T) (m_var (pv 0)) (m_var (pv 3))))))
theorem ok_Crew_plain (hP : PFa P FILE) (T : Txt P w K mg A) : FnOk P w K mg base (L2.CX P w) 3 (He5.wf K (He.ga K "Crew") "classmethod" "plain") A.d_Crew_plain ["cls", "book"] (SpM K (gOf K) 2 m_Crew_plain) :=
  fn_mD (N := ["cls", "book"]) T.d_Crew_plain sc_Crew_plain fun cdv Ar outer s H E hr => by
    have tk := takes_of (X := cxOf (L2.CX P w) P w K mg base ["cls", "book"] "Crew.plain" (defScope s_Crew_plain) (He5.wf K (He.ga K "Crew") "classmethod" "plain") cdv Ar outer s H E) rfl rfl rfl rfl
    exact (m_sone (m_ret (m_makeL rfl GR.pos T.mk_Crew (ok_Crew___init__ hP T) (hr.mono (by decide)) (KBn.pos (T.B_Crew___init__) rfl) tk (pv 0) (m_acons (m_var (pv 1)) (m_acons (m_var (pv 1)) (m_acons (m_var (pv 1)) m_anil))))))
theorem ok_first_broken (hP : PFa P FILE) (T : Txt P w K mg A) : FnOk P w K mg base (L2.CX P w) 7 (He.fAd K ("first_broken", none)) A.d_first_broken ["book", "names"] (SpM K (gOf K) 2 m_first_broken) :=
  fn_gc (fn_mD (N := ["book", "names", "name", "verdict"]) T.d_first_broken sc_first_broken fun cdv Ar outer s H E hr => by
    have tk := takes_of (X := cxOf (L2.CX P w) P w K mg base ["book", "names", "name", "verdict"] "first_broken" (defScope s_first_broken) (He.fAd K ("first_broken", none)) cdv Ar outer s H E) rfl rfl rfl rfl
    exact (m_scons (m_for (passes_of rfl) rfl (m_var (pv 1)) (pg_name (i := 2) sc_first_broken.nd rfl (Or.inl rfl)) gs_name (m_scons (m_set (i := 3) sc_first_broken.nd rfl (Or.inl rfl) (m_call (ok_judge hP T) (hr.mono (by decide)) rfl T.g_judge T.d_judge.kp T.B_judge tk (m_acons (m_cmeth (c := "Crew") (f := m_Crew_plain) (ps := ["cls", "book"]) (C := He.ga K "Crew") (fd := A.d_Crew_plain) rfl T.cr_Crew T.cm_Crew_plain.choose_spec (ok_Crew_plain hP T) (hr.mono (by decide)) T.B_Crew_plain (pe_glob (v := .ref (He.ga K "Crew")) (by rfl) T.g_Crew rfl) (m_acons (m_var (pv 0)) m_anil)) (m_acons (m_var (pv 2)) m_anil))))
      (m_sone (m_if (m_not (m_truth (m_fld (fo_kept T) (m_var (pv 3))) (by intro _; rfl))) (m_sone (m_ret (m_tup (m_acons (m_var (pv 2)) (m_acons (m_fld (fo_run T) (m_var (pv 3))) m_anil))))) m_snil))))
      (m_sone (m_ret m_non))))
theorem ok_at_most (hP : PFa P FILE) (T : Txt P w K mg A) : FnOk P w K mg base (L2.CX P w) 1 (He.fAd K ("at_most", none)) A.d_at_most ["options", "low", "high"] (SpM K (gOf K) 3 m_at_most) :=
  fn_gc (fn_mD (N := ["options", "low", "high"]) T.d_at_most sc_at_most fun cdv Ar outer s H E hr => by
    have tk := takes_of (X := cxOf (L2.CX P w) P w K mg base ["options", "low", "high"] "at_most" (defScope s_at_most) (He.fAd K ("at_most", none)) cdv Ar outer s H E) rfl rfl rfl rfl
    exact (m_sone (m_ret (m_cmp op_le s_cmp (m_bm PySem.F.plainAttrs_tuple PySem.F.slot_tuple_index PySem.F.type_tuple_index mt_tup_index t_ktup s_tup_index (m_var (pv 0)) (m_acons (m_var (pv 1)) m_anil)) (m_bm PySem.F.plainAttrs_tuple PySem.F.slot_tuple_index PySem.F.type_tuple_index mt_tup_index t_ktup s_tup_index (m_var (pv 0)) (m_acons (m_var (pv 2)) m_anil)) (nomark _)))))
theorem ok_Book___le__ (hP : PFa P FILE) (T : Txt P w K mg A) : FnOk P w K mg base (L2.CX P w) 2 (He.fAd K ("Book", some "__le__")) A.d_Book___le__ ["self", "other"] (SpM K (gOf K) 2 m_Book___le__) :=
  fn_mD (N := ["self", "other"]) T.d_Book___le__ sc_Book___le__ fun cdv Ar outer s H E hr => by
    have tk := takes_of (X := cxOf (L2.CX P w) P w K mg base ["self", "other"] "Book.__le__" (defScope s_Book___le__) (He.fAd K ("Book", some "__le__")) cdv Ar outer s H E) rfl rfl rfl rfl
    exact (m_scons (m_if (m_not (m_truth (m_callB call_isi (s_isi T.isi) (by rfl) T.b_isinstance (by decide +kernel) (m_acons (m_var (pv 1)) (m_acons (m_const (pe_glob (v := .ref (He.ga K "Book")) (by rfl) T.g_Book rfl) fun _ _ => by simp [VR, gOf]) m_anil))) (by intro _; rfl))) (m_sone m_never) m_snil)
      (m_scons (m_if (PW.pt (m_or (m_not (m_truth (m_call (ok_at_most hP T) (hr.mono (by decide)) rfl T.g_at_most T.d_at_most.kp T.B_at_most tk (m_acons (tc_STOPS T (by rfl)) (m_acons (m_fld (fo_stop T) (m_var (pv 0))) (m_acons (m_fld (fo_stop T) (m_var (pv 1))) m_anil)))) (by intro _; rfl))) (m_or1 (m_not (m_truth (m_call (ok_at_most hP T) (hr.mono (by decide)) rfl T.g_at_most T.d_at_most.kp T.B_at_most tk (m_acons (tc_MOVES T (by rfl)) (m_acons (m_fld (fo_move T) (m_var (pv 0))) (m_acons (m_fld (fo_move T) (m_var (pv 1))) m_anil)))) (by intro _; rfl)))))) (m_sone (m_ret m_bl)) m_snil)
      (m_sone (m_ret (m_eand (m_call (ok_at_most hP T) (hr.mono (by decide)) rfl T.g_at_most T.d_at_most.kp T.B_at_most tk (m_acons (tc_OUTS T (by rfl)) (m_acons (m_fld (fo_out T) (m_var (pv 0))) (m_acons (m_fld (fo_out T) (m_var (pv 1))) m_anil)))) (m_eone (m_cmp (o_inA hr.units) (s_inA s_in) (m_fld (fo_marks T) (m_var (pv 0))) (m_tup (m_acons m_str (m_acons (m_fld (fo_marks T) (m_var (pv 1))) m_anil))) rfl)))))))
theorem ok_Book___eq__ (hP : PFa P FILE) (T : Txt P w K mg A) : FnOk P w K mg base (L2.CX P w) 1 (He.fAd K ("Book", some "__eq__")) A.d_Book___eq__ ["self", "other"] (SpM K (gOf K) 2 m_Book___eq__) :=
  fn_mD (N := ["self", "other"]) T.d_Book___eq__ sc_Book___eq__ fun cdv Ar outer s H E hr => by
    have tk := takes_of (X := cxOf (L2.CX P w) P w K mg base ["self", "other"] "Book.__eq__" (defScope s_Book___eq__) (He.fAd K ("Book", some "__eq__")) cdv Ar outer s H E) rfl rfl rfl rfl
    exact (m_sone (m_ret (m_eand (m_callB call_isi (s_isi T.isi) (by rfl) T.b_isinstance (by decide +kernel) (m_acons (m_var (pv 1)) (m_acons (m_const (pe_glob (v := .ref (He.ga K "Book")) (by rfl) T.g_Book rfl) fun _ _ => by simp [VR, gOf]) m_anil))) (m_eone (m_cmp (op_eqM hr.units) s_eq (m_fld (fo_pairs T) (m_var (pv 0))) (m_fld (fo_pairs T) (m_var (pv 1))) (nomark _))))))
theorem ok_weakest (hP : PFa P FILE) (T : Txt P w K mg A) : FnOk P w K mg base (L2.CX P w) 8 (He.fAd K ("weakest", none)) A.d_weakest ["books", "names"] (SpM K (gOf K) 2 m_weakest) :=
  fn_gc (fn_mD (N := ["books", "names", "broken", "found", "at", "book", "weaker", "rows", "k", "other"]) T.d_weakest sc_weakest fun cdv Ar outer s H E hr => by
    have tk := takes_of (X := cxOf (L2.CX P w) P w K mg base ["books", "names", "broken", "found", "at", "book", "weaker", "rows", "k", "other"] "weakest" (defScope s_weakest) (He.fAd K ("weakest", none)) cdv Ar outer s H E) rfl rfl rfl rfl
    exact (m_scons (m_set (i := 2) sc_weakest.nd rfl (Or.inr rfl) (m_lc rfl sc_weakest.nd (blkOk_by (own := [("book", 5)]) (by rfl)) (m_var (pv 0)) (gw_name (by decide)) (fun _ _ _ _ _ => (pg_name (i := 5) sc_weakest.nd rfl (Or.inl rfl))) (fun _ _ _ _ _ => m_tests0) (fun _ _ _ _ _ => (m_call (ok_first_broken hP T) (hr.mono (by decide)) rfl T.g_first_broken T.d_first_broken.kp T.B_first_broken takes_no (m_acons (m_var (pv 5)) (m_acons (m_var (pv 1)) m_anil))))))
      (m_scons (m_set (i := 3) sc_weakest.nd rfl (Or.inl rfl) (m_lst m_anil))
      (m_scons (m_forE (passes_of rfl) rfl (by rfl) T.b_enumerate (m_var (pv 0)) (pg_tup rfl (pgs_cons (pg_name (i := 4) sc_weakest.nd rfl (Or.inl rfl)) (pgs_cons (pg_name (i := 5) sc_weakest.nd rfl (Or.inr rfl)) pgs_nil))) (gs_tup (gss_cons (gss_cons gss_nil))) (m_scons (m_setLcE (i := 6) rfl sc_weakest.nd rfl rfl (sw_true rfl rfl rfl rfl) (blkOk_by (own := [("k", 8), ("other", 9)]) (by rfl)) (by rfl) T.b_enumerate (m_var (pv 0)) (gw_tup (gws_cons (by decide) (gws_cons (by decide) gws_nil))) (fun _ _ _ _ _ => (pg_tup rfl (pgs_cons (pg_name (i := 8) sc_weakest.nd rfl (Or.inl rfl)) (pgs_cons (pg_name (i := 9) sc_weakest.nd rfl (Or.inl rfl)) pgs_nil)))) (fun _ _ _ _ _ => (m_tests1 (PW.pt (m_and (m_ownT (k := 2) (fun _ _ => rfl) (List.forall_mem_cons.mpr ⟨⟨⟨_, _, _, _, rfl, T.me_Book___le__, (ok_Book___le__ hP T).mono (by decide), T.B_Book___le__, rfl⟩⟩, List.forall_mem_nil _⟩) (hr.mono (by decide)) (m_var (pv 9)) (m_var (pv 5)) (nomark _)) (m_and1 (m_not (m_ownT (k := 1) (fun _ _ => rfl) (List.forall_mem_cons.mpr ⟨⟨⟨_, _, _, _, rfl, T.me_Book___eq__, (ok_Book___eq__ hP T).mono (by decide), T.B_Book___eq__, rfl⟩⟩, List.forall_mem_nil _⟩) (hr.mono (by decide)) (m_var (pv 9)) (m_var (pv 5)) (nomark _)))))))) (fun _ _ _ _ _ => (m_var (pv 8))))
      (m_scons (m_if (PW.pt (m_or (m_cmpT op_notN s_notN (m_ixA hr (m_var (pv 2)) (m_var (pv 4))) m_non (nomark _)) (m_or1 (m_cmpT (op_neM hr.units) s_ne (m_lc rfl sc_weakest.nd (blkOk_by (own := [("k", 8)]) (by rfl)) (m_var (pv 6)) (gw_name (by decide)) (fun _ _ _ _ _ => (pg_name (i := 8) sc_weakest.nd rfl (Or.inl rfl))) (fun _ _ _ _ _ => (m_tests1 (m_cmpT op_isN s_isN (m_ixA hr (m_var (pv 2)) (m_var (pv 8))) m_non (nomark _)))) (fun _ _ _ _ _ => (m_var (pv 8)))) (m_lst m_anil) (nomark _))))) (m_sone m_cont) m_snil)
      (m_scons (m_setLc (i := 7) rfl sc_weakest.nd rfl rfl (sw_true rfl rfl rfl rfl) (blkOk_by (own := [("k", 8)]) (by rfl)) (m_var (pv 6)) (gw_name (by decide)) (fun _ _ _ _ _ => (pg_name (i := 8) sc_weakest.nd rfl (Or.inl rfl))) (fun _ _ _ _ _ => m_tests0) (fun _ _ _ _ _ => (m_tup (m_acons (m_ixA hr (m_var (pv 0)) (m_var (pv 8))) (m_acons (m_ixA hr (m_ixA hr (m_var (pv 2)) (m_var (pv 8))) m_int) (m_acons (m_ixA hr (m_ixA hr (m_var (pv 2)) (m_var (pv 8))) m_int) m_anil))))))
      (m_sone (m_expr (m_bm PySem.F.plainAttrs_list PySem.F.slot_list_append PySem.F.type_list_append mt_append t_lst s_append (m_var (pv 3)) (m_acons (m_tup (m_acons (m_var (pv 5)) (m_acons (m_var (pv 7)) m_anil))) m_anil))))))))
      (m_sone (m_ret (m_var (pv 3))))))))
theorem ok_Book___init__ (hP : PFa P FILE) (T : Txt P w K mg A) : FnOk P w K mg base (L2.CX P w) 3 (He.fAd K ("Book", some "__init__")) A.d_Book___init__ ["self", "stop", "move", "out", "marks"] (SpM K (gOf K) 5 m_Book___init__) :=
  fn_mD (N := ["self", "stop", "move", "out", "marks", "option", "options"]) T.d_Book___init__ sc_Book___init__ fun cdv Ar outer s H E hr => by
    have tk := takes_of (X := cxOf (L2.CX P w) P w K mg base ["self", "stop", "move", "out", "marks", "option", "options"] "Book.__init__" (defScope s_Book___init__) (He.fAd K ("Book", some "__init__")) cdv Ar outer s H E) rfl rfl rfl rfl
    exact (m_scons (m_for (passes_of rfl) rfl (m_tup (m_acons (m_tup (m_acons (m_var (pv 1)) (m_acons (tc_STOPS T (by rfl)) m_anil))) (m_acons (m_tup (m_acons (m_var (pv 2)) (m_acons (tc_MOVES T (by rfl)) m_anil))) (m_acons (m_tup (m_acons (m_var (pv 3)) (m_acons (tc_OUTS T (by rfl)) m_anil))) (m_acons (m_tup (m_acons (m_var (pv 4)) (m_acons (tc_MARKS T (by rfl)) m_anil))) m_anil))))) (pg_tup rfl (pgs_cons (pg_name (i := 5) sc_Book___init__.nd rfl (Or.inl rfl)) (pgs_cons (pg_name (i := 6) sc_Book___init__.nd rfl (Or.inl rfl)) pgs_nil))) (gs_tup (gss_cons (gss_cons gss_nil))) (m_sone (m_if (m_cmpT (o_notInA hr.units) (s_notInA s_notIn) (m_var (pv 5)) (m_var (pv 6)) rfl) (m_sone (m_raise (rm_BadBook hP T) rfl (hr.mono (by decide)) tk (by rfl) T.g_BadBook (m_acons (m_var (pv 5)) m_anil))) m_snil)))
      (m_scons (m_sfld (fo_stop T) (m_var (pv 0)) (m_var (pv 1)))
      (m_scons (m_sfld (fo_move T) (m_var (pv 0)) (m_var (pv 2)))
      (m_scons (m_sfld (fo_out T) (m_var (pv 0)) (m_var (pv 3)))
      (m_scons (m_sfld (fo_marks T) (m_var (pv 0)) (m_var (pv 4)))
      (m_sone (m_sfld (fo_pairs T) (m_var (pv 0)) (m_lst (m_acons (m_tup (m_acons m_str (m_acons (m_var (pv 1)) m_anil))) (m_acons (m_tup (m_acons m_str (m_acons (m_var (pv 2)) m_anil))) (m_acons (m_tup (m_acons m_str (m_acons (m_var (pv 3)) m_anil))) (m_acons (m_tup (m_acons m_str (m_acons (m_var (pv 4)) m_anil))) m_anil))))))))))))
theorem ok__law_book (hP : PFa P FILE) (T : Txt P w K mg A) : FnOk P w K mg base (L2.CX P w) 5 (He.fAd K ("_law_book", none)) A.d__law_book ["_law_words_here"] (SpM K (gOf K) 1 m__law_book) :=
  fn_gc (fn_mD (N := ["_law_words_here"]) T.d__law_book sc__law_book fun cdv Ar outer s H E hr => by
    have tk := takes_of (X := cxOf (L2.CX P w) P w K mg base ["_law_words_here"] "_law_book" (defScope s__law_book) (He.fAd K ("_law_book", none)) cdv Ar outer s H E) rfl rfl rfl rfl
    exact (m_sone (m_ret (m_makeK0 (c := "Book") (f := m_Book___init__) (ps := ["self", "stop", "move", "out", "marks"]) (C := He.ga K "Book") (fd := A.d_Book___init__) rfl (GR.pat (pat := [(0, 0), (2, 0), (2, 1), (2, 2), (2, 3)]) (ds := []) fun _ _ => by simp [VRs, VR]) T.mk_Book (ok_Book___init__ hP T) (hr.mono (by decide)) (by rfl) T.g_Book (kb_Book___init___1_stop_move_out_marks T).choose_spec tk (m_pkcons (m_ixA hr (m_var (pv 0)) m_int) (m_pkcons (m_ixA hr (m_var (pv 0)) m_int) (m_pkcons (m_ixA hr (m_var (pv 0)) m_int) (m_pkcons (m_ixA hr (m_var (pv 0)) m_int) m_pknil)))) (ks := ["stop", "move", "out", "marks"]) (hall := by kernel_rfl) (hks := by kernel_rfl) (hpl := by kernel_rfl)))))
theorem ok__law_words_of (hP : PFa P FILE) (T : Txt P w K mg A) : FnOk P w K mg base (L2.CX P w) 1 (He.fAd K ("_law_words_of", none)) A.d__law_words_of ["_law_book_here"] (SpM K (gOf K) 1 m__law_words_of) :=
  fn_gc (fn_mD (N := ["_law_book_here"]) T.d__law_words_of sc__law_words_of fun cdv Ar outer s H E hr => by
    have tk := takes_of (X := cxOf (L2.CX P w) P w K mg base ["_law_book_here"] "_law_words_of" (defScope s__law_words_of) (He.fAd K ("_law_words_of", none)) cdv Ar outer s H E) rfl rfl rfl rfl
    exact (m_sone (m_ret (m_lst (m_acons (m_fld (fo_stop T) (m_var (pv 0))) (m_acons (m_fld (fo_move T) (m_var (pv 0))) (m_acons (m_fld (fo_out T) (m_var (pv 0))) (m_acons (m_fld (fo_marks T) (m_var (pv 0))) m_anil))))))))
theorem ok__law_form (hP : PFa P FILE) (T : Txt P w K mg A) : FnOk P w K mg base (L2.CX P w) 1 (He.fAd K ("_law_form", none)) A.d__law_form ["_law_name", "_law_head", "_law_first", "_law_second"] (SpM K (gOf K) 4 m__law_form) :=
  fn_gc (fn_mD (N := ["_law_name", "_law_head", "_law_first", "_law_second", "_law_both_all", "_law_calm"]) T.d__law_form sc__law_form fun cdv Ar outer s H E hr => by
    have tk := takes_of (X := cxOf (L2.CX P w) P w K mg base ["_law_name", "_law_head", "_law_first", "_law_second", "_law_both_all", "_law_calm"] "_law_form" (defScope s__law_form) (He.fAd K ("_law_form", none)) cdv Ar outer s H E) rfl rfl rfl rfl
    exact (m_scons (m_set (i := 4) sc__law_form.nd rfl (Or.inl rfl) (m_eand (m_cmp (op_eqM hr.units) s_eq (m_ixA hr (m_var (pv 2)) m_int) m_str (nomark _)) (m_eone (m_cmp (op_eqM hr.units) s_eq (m_ixA hr (m_var (pv 3)) m_int) m_str (nomark _)))))
      (m_scons (m_set (i := 5) sc__law_form.nd rfl (Or.inl rfl) (m_eor (m_cmp (op_eqM hr.units) s_eq (m_ixA hr (m_var (pv 1)) m_int) m_str (nomark _)) (m_eone (m_var (pv 4)))))
      (m_scons (m_if (m_cmpT (op_eqM hr.units) s_eq (m_var (pv 0)) m_str (nomark _)) (m_sone (m_ret (m_var (pv 5)))) m_snil)
      (m_scons (m_if (m_cmpT (op_eqM hr.units) s_eq (m_var (pv 0)) m_str (nomark _)) (m_sone (m_ret (m_eand (m_var (pv 5)) (m_eone (m_cmp (op_eqM hr.units) s_eq (m_lst (m_acons (m_ixA hr (m_var (pv 1)) m_int) (m_acons (m_ixA hr (m_var (pv 2)) m_int) (m_acons (m_ixA hr (m_var (pv 3)) m_int) m_anil)))) (m_lst (m_acons m_str (m_acons m_str (m_acons m_str m_anil)))) (nomark _)))))) m_snil)
      (m_scons (m_if (m_cmpT (op_eqM hr.units) s_eq (m_var (pv 0)) m_str (nomark _)) (m_sone (m_ret (m_eand (m_cmp (op_eqM hr.units) s_eq (m_ixA hr (m_var (pv 2)) m_int) m_str (nomark _)) (m_eone (m_cmp (op_eqM hr.units) s_eq (m_ixA hr (m_var (pv 3)) m_int) m_str (nomark _)))))) m_snil)
      (m_scons (m_if (m_cmpT (op_eqM hr.units) s_eq (m_var (pv 0)) m_str (nomark _)) (m_sone (m_ret (m_eand (m_var (pv 5)) (m_eone (m_eor (m_var (pv 4)) (m_eone (m_cmp (op_neM hr.units) s_ne (m_ixA hr (m_var (pv 1)) m_int) m_str (nomark _)))))))) m_snil)
      (m_sone (m_ret (m_cmp (op_eqM hr.units) s_eq (m_ixA hr (m_var (pv 1)) m_int) m_str (nomark _)))))))))))
theorem ok__law_broken (hP : PFa P FILE) (T : Txt P w K mg A) : FnOk P w K mg base (L2.CX P w) 2 (He.fAd K ("_law_broken", none)) A.d__law_broken ["_law_words_here", "_law_names"] (SpM K (gOf K) 2 m__law_broken) :=
  fn_gc (fn_mD (N := ["_law_words_here", "_law_names", "_law_name"]) T.d__law_broken sc__law_broken fun cdv Ar outer s H E hr => by
    have tk := takes_of (X := cxOf (L2.CX P w) P w K mg base ["_law_words_here", "_law_names", "_law_name"] "_law_broken" (defScope s__law_broken) (He.fAd K ("_law_broken", none)) cdv Ar outer s H E) rfl rfl rfl rfl
    exact (m_scons (m_for (passes_of rfl) rfl (m_var (pv 1)) (pg_name (i := 2) sc__law_broken.nd rfl (Or.inl rfl)) gs_name (m_sone (m_if (m_not (m_truth (m_call (ok__law_form hP T) (hr.mono (by decide)) rfl T.g__law_form T.d__law_form.kp T.B__law_form tk (m_acons (m_var (pv 2)) (m_acons (m_var (pv 0)) (m_acons (m_var (pv 0)) (m_acons (m_var (pv 0)) m_anil))))) (by intro _; rfl))) (m_sone (m_ret (m_var (pv 2)))) m_snil)))
      (m_sone (m_ret m_non))))
theorem ok__law_at_most (hP : PFa P FILE) (T : Txt P w K mg A) : FnOk P w K mg base (L2.CX P w) 1 (He.fAd K ("_law_at_most", none)) A.d__law_at_most ["_law_low", "_law_high"] (SpM K (gOf K) 2 m__law_at_most) :=
  fn_gc (fn_mD (N := ["_law_low", "_law_high", "_law_ranks", "_law_k"]) T.d__law_at_most sc__law_at_most fun cdv Ar outer s H E hr => by
    have tk := takes_of (X := cxOf (L2.CX P w) P w K mg base ["_law_low", "_law_high", "_law_ranks", "_law_k"] "_law_at_most" (defScope s__law_at_most) (He.fAd K ("_law_at_most", none)) cdv Ar outer s H E) rfl rfl rfl rfl
    exact (m_scons (m_set (i := 2) sc__law_at_most.nd rfl (Or.inl rfl) (m_disp (.cons m_str m_int (.cons m_str m_int (.cons m_str m_int (.cons m_str m_int (.cons m_str m_int .nil)))))))
      (m_scons (m_forR1 (passes_of rfl) rfl (by rfl) T.b_range (m_acons m_int m_anil) (pg_name (i := 3) sc__law_at_most.nd rfl (Or.inl rfl)) gs_name (m_sone (m_if (m_cmpT op_gt s_cmp (m_ixA hr (m_var (pv 2)) (m_ixA hr (m_var (pv 0)) (m_var (pv 3)))) (m_ixA hr (m_var (pv 2)) (m_ixA hr (m_var (pv 1)) (m_var (pv 3)))) (nomark _)) (m_sone (m_ret m_bl)) m_snil)))
      (m_sone (m_ret (m_eor (m_cmp (op_eqM hr.units) s_eq (m_ixA hr (m_var (pv 0)) m_int) m_str (nomark _)) (m_eone (m_cmp (op_eqM hr.units) s_eq (m_ixA hr (m_var (pv 0)) m_int) (m_ixA hr (m_var (pv 1)) m_int) (nomark _)))))))))
theorem ok__law_breaks (hP : PFa P FILE) (T : Txt P w K mg A) : FnOk P w K mg base (L2.CX P w) 6 (He.fAd K ("_law_breaks", none)) A.d__law_breaks ["_law_name", "_law_crew", "_law_run"] (SpM K (gOf K) 3 m__law_breaks) :=
  fn_gc (fn_mD (N := ["_law_name", "_law_crew", "_law_run", "_law_promise", "_law_standing", "_law_k", "_law_found", "_law_leg"]) T.d__law_breaks sc__law_breaks fun cdv Ar outer s H E hr => by
    have tk := takes_of (X := cxOf (L2.CX P w) P w K mg base ["_law_name", "_law_crew", "_law_run", "_law_promise", "_law_standing", "_law_k", "_law_found", "_law_leg"] "_law_breaks" (defScope s__law_breaks) (He.fAd K ("_law_breaks", none)) cdv Ar outer s H E) rfl rfl rfl rfl
    exact (m_scons (m_set (i := 3) sc__law_breaks.nd rfl (Or.inl rfl) (m_make (c := "Promise") (f := m_Promise___init__) (ps := ["self", "name"]) (C := He.ga K "Promise") (fd := A.d_Promise___init__) rfl GR.pos T.mk_Promise (ok_Promise___init__ hP T) (hr.mono (by decide)) (by rfl) T.g_Promise (KBn.pos (T.B_Promise___init__) rfl) tk (m_acons (m_var (pv 0)) m_anil)))
      (m_scons (m_set (i := 4) sc__law_breaks.nd rfl (Or.inl rfl) (m_tup (m_acons m_str (m_acons m_str (m_acons m_str m_anil)))))
      (m_scons (m_forR1 (passes_of rfl) rfl (by rfl) T.b_range (m_acons (m_callB c_len s_len (by rfl) T.b_len PySem.boot_len (m_acons (m_var (pv 2)) m_anil)) m_anil) (pg_name (i := 5) sc__law_breaks.nd rfl (Or.inr rfl)) gs_name (m_scons (m_setLc (i := 6) rfl sc__law_breaks.nd rfl rfl (sw_true rfl rfl rfl rfl) (blkOk_by (own := [("_law_leg", 7)]) (by rfl)) (m_icall (c := "Promise") (f := m_Promise___call__) (ps := ["self", "crew", "standing"]) (C := He.ga K "Promise") (fd := A.d_Promise___call__) rfl T.me_Promise___call__ (fnIn_of T.d_Promise___call__) (ok_Promise___call__ hP T) (hr.mono (by decide)) T.B_Promise___call__ tk (m_var (pv 3)) (m_acons (m_var (pv 1)) (m_acons (m_var (pv 4)) m_anil))) (gw_name (by decide)) (fun _ _ _ _ _ => (pg_name (i := 7) sc__law_breaks.nd rfl (Or.inl rfl))) (fun _ _ _ _ _ => (m_tests1 (m_cmpT (op_eqM hr.units) s_eq (m_ixA hr (m_var (pv 7)) m_int) (m_ixA hr (m_var (pv 2)) (m_var (pv 5))) (nomark _)))) (fun _ _ _ _ _ => (m_ixA hr (m_var (pv 7)) m_int)))
      (m_scons (m_if (m_cmpT (op_neM hr.units) s_ne (m_callB c_len s_len (by rfl) T.b_len PySem.boot_len (m_acons (m_var (pv 6)) m_anil)) m_int (nomark _)) (m_sone (m_ret m_bl)) m_snil)
      (m_scons (m_if (m_cmpT op_isN s_isN (m_ixA hr (m_var (pv 6)) m_int) m_non (nomark _)) (m_sone (m_ret (m_cmp (op_eqM hr.units) s_eq (m_var (pv 5)) (m_op op_sub s_sub (m_callB c_len s_len (by rfl) T.b_len PySem.boot_len (m_acons (m_var (pv 2)) m_anil)) m_int) (nomark _)))) m_snil)
      (m_sone (m_set (i := 4) sc__law_breaks.nd rfl (Or.inl rfl) (m_ixA hr (m_var (pv 6)) m_int)))))))
      (m_sone (m_ret m_bl))))))
end
end Lw
namespace Lw
open PySem L2 Mo
section
variable {P : Program} {w : World} {K : PySem.W.Frag} {mg : Str → Option Value} {base : Heap} {A : Ad}
theorem ok__law_row_right (hP : PFa P FILE) (T : Txt P w K mg A) : FnOk P w K mg base (L2.CX P w) 7 (He.fAd K ("_law_row_right", none)) A.d__law_row_right ["_law_row_here", "_law_names", "_law_weaker"] (SpM K (gOf K) 3 m__law_row_right) :=
  fn_gc (fn_mD (N := ["_law_row_here", "_law_names", "_law_weaker", "_law_words_here", "_law_crew"]) T.d__law_row_right sc__law_row_right fun cdv Ar outer s H E hr => by
    have tk := takes_of (X := cxOf (L2.CX P w) P w K mg base ["_law_row_here", "_law_names", "_law_weaker", "_law_words_here", "_law_crew"] "_law_row_right" (defScope s__law_row_right) (He.fAd K ("_law_row_right", none)) cdv Ar outer s H E) rfl rfl rfl rfl
    exact (m_scons (m_if (PW.pt (m_or (m_not (m_truth (m_callB call_isi (s_isi T.isi) (by rfl) T.b_isinstance (by decide +kernel) (m_acons (m_var (pv 0)) (m_acons (m_const (pe_bltn (v := .ty "tuple") (by rfl) T.b_tuple (by decide +kernel) rfl) fun _ _ => by simp [VR]) m_anil))) (by intro _; rfl))) (m_or (m_cmpT (op_neM hr.units) s_ne (m_callB c_len s_len (by rfl) T.b_len PySem.boot_len (m_acons (m_var (pv 0)) m_anil)) m_int (nomark _)) (m_or1 (m_not (m_truth (m_callB call_isi (s_isi T.isi) (by rfl) T.b_isinstance (by decide +kernel) (m_acons (m_ixA hr (m_var (pv 0)) m_int) (m_acons (m_const (pe_bltn (v := .ty "list") (by rfl) T.b_list (by decide +kernel) rfl) fun _ _ => by simp [VR]) m_anil))) (by intro _; rfl))))))) (m_sone (m_ret m_bl)) m_snil)
      (m_scons (m_set (i := 3) sc__law_row_right.nd rfl (Or.inl rfl) (m_call (ok__law_words_of hP T) (hr.mono (by decide)) rfl T.g__law_words_of T.d__law_words_of.kp T.B__law_words_of tk (m_acons (m_ixA hr (m_var (pv 0)) m_int) m_anil)))
      (m_scons (m_if (PW.pt (m_or (m_cmpT (o_notInA hr.units) (s_notInA s_notIn) (m_var (pv 3)) (m_var (pv 2)) rfl) (m_or1 (m_cmpT (op_neM hr.units) s_ne (m_ixA hr (m_var (pv 0)) m_int) (m_call (ok__law_broken hP T) (hr.mono (by decide)) rfl T.g__law_broken T.d__law_broken.kp T.B__law_broken tk (m_acons (m_var (pv 3)) (m_acons (m_var (pv 1)) m_anil))) (nomark _))))) (m_sone (m_ret m_bl)) m_snil)
      (m_scons (m_set (i := 4) sc__law_row_right.nd rfl (Or.inl rfl) (m_cmeth (c := "Crew") (f := m_Crew_plain) (ps := ["cls", "book"]) (C := He.ga K "Crew") (fd := A.d_Crew_plain) rfl T.cr_Crew T.cm_Crew_plain.choose_spec (ok_Crew_plain hP T) (hr.mono (by decide)) T.B_Crew_plain (pe_glob (v := .ref (He.ga K "Crew")) (by rfl) T.g_Crew rfl) (m_acons (m_call (ok__law_book hP T) (hr.mono (by decide)) rfl T.g__law_book T.d__law_book.kp T.B__law_book tk (m_acons (m_var (pv 3)) m_anil)) m_anil)))
      (m_sone (m_ret (m_eand (m_call (ok__law_breaks hP T) (hr.mono (by decide)) rfl T.g__law_breaks T.d__law_breaks.kp T.B__law_breaks tk (m_acons (m_ixA hr (m_var (pv 0)) m_int) (m_acons (m_var (pv 4)) (m_acons (m_ixA hr (m_var (pv 0)) m_int) m_anil)))) (m_eone (m_cmp (op_eqM hr.units) s_eq (m_callB c_len s_len (by rfl) T.b_len PySem.boot_len (m_acons (m_ixA hr (m_var (pv 0)) m_int) m_anil)) (m_callB c_len s_len (by rfl) T.b_len PySem.boot_len (m_acons (m_fld (fo_run T) (m_call (ok_judge hP T) (hr.mono (by decide)) rfl T.g_judge T.d_judge.kp T.B_judge tk (m_acons (m_var (pv 4)) (m_acons (m_ixA hr (m_var (pv 0)) m_int) m_anil)))) m_anil)) (nomark _)))))))))))
theorem ok_law (hP : PFa P FILE) (T : Txt P w K mg A) : FnOk P w K mg base (L2.CX P w) 9 (He.fAd K ("law", none)) A.d_law ["_law_script"] (SpM K (gOf K) 1 m_law) :=
  fn_mD (N := ["_law_script", "_law_lists_here", "_law_listed", "_law_names", "_law_books", "_law_asked", "_law_told", "_law_left", "_law_words_here", "_law_weaker", "_law_kept", "_law_pair", "_law_found", "_law_book_here", "_law_other", "_law_row_here"]) T.d_law sc_law fun cdv Ar outer s H E hr => by
    have tk := takes_of (X := cxOf (L2.CX P w) P w K mg base ["_law_script", "_law_lists_here", "_law_listed", "_law_names", "_law_books", "_law_asked", "_law_told", "_law_left", "_law_words_here", "_law_weaker", "_law_kept", "_law_pair", "_law_found", "_law_book_here", "_law_other", "_law_row_here"] "law" (defScope s_law) (He.fAd K ("law", none)) cdv Ar outer s H E) rfl rfl rfl rfl
    exact (m_scons (m_set (i := 1) sc_law.nd rfl (Or.inl rfl) (m_call (ok__law_lists hP T) (hr.mono (by decide)) rfl T.g__law_lists T.d__law_lists.kp T.B__law_lists tk (m_acons (m_var (pv 0)) m_anil)))
      (m_scons (m_set (i := 2) sc_law.nd rfl (Or.inl rfl) (m_ixA hr (m_var (pv 1)) m_int))
      (m_scons (m_set (i := 3) sc_law.nd rfl (Or.inr rfl) (m_ixA hr (m_var (pv 1)) m_int))
      (m_scons (m_setLc (i := 4) rfl sc_law.nd rfl rfl (sw_true rfl rfl rfl rfl) (blkOk_by (own := [("_law_words_here", 8)]) (by rfl)) (m_var (pv 2)) (gw_name (by decide)) (fun _ _ _ _ _ => (pg_name (i := 8) sc_law.nd rfl (Or.inl rfl))) (fun _ _ _ _ _ => m_tests0) (fun _ _ _ _ _ => (m_call (ok__law_book hP T) (hr.mono (by decide)) rfl T.g__law_book T.d__law_book.kp T.B__law_book takes_no (m_acons (m_var (pv 8)) m_anil))))
      (m_scons (m_set (i := 5) sc_law.nd rfl (Or.inl rfl) (m_callTy call_list_of s_list (by rfl) T.b_list (by decide +kernel) (m_acons (m_var (pv 3)) m_anil)))
      (m_scons (m_set (i := 6) sc_law.nd rfl (Or.inl rfl) (m_call (ok_weakest hP T) (hr.mono (by decide)) rfl T.g_weakest T.d_weakest.kp T.B_weakest tk (m_acons (m_var (pv 4)) (m_acons (m_var (pv 5)) m_anil))))
      (m_scons (m_if (PW.pt (m_or (m_not (m_truth (m_callB call_isi (s_isi T.isi) (by rfl) T.b_isinstance (by decide +kernel) (m_acons (m_var (pv 6)) (m_acons (m_const (pe_bltn (v := .ty "list") (by rfl) T.b_list (by decide +kernel) rfl) fun _ _ => by simp [VR]) m_anil))) (by intro _; rfl))) (m_or (m_cmpT (op_neM hr.units) s_ne (m_var (pv 5)) (m_var (pv 3)) (nomark _)) (m_or1 (m_cmpT (op_neM hr.units) s_ne (m_lc rfl sc_law.nd (blkOk_by (own := [("_law_book_here", 13)]) (by rfl)) (m_var (pv 4)) (gw_name (by decide)) (fun _ _ _ _ _ => (pg_name (i := 13) sc_law.nd rfl (Or.inl rfl))) (fun _ _ _ _ _ => m_tests0) (fun _ _ _ _ _ => (m_call (ok__law_words_of hP T) (hr.mono (by decide)) rfl T.g__law_words_of T.d__law_words_of.kp T.B__law_words_of takes_no (m_acons (m_var (pv 13)) m_anil)))) (m_var (pv 2)) (nomark _)))))) (m_sone (m_ret m_bl)) m_snil)
      (m_scons (m_set (i := 7) sc_law.nd rfl (Or.inl rfl) (m_lst m_anil))
      (m_scons (m_for (passes_of rfl) rfl (m_var (pv 2)) (pg_name (i := 8) sc_law.nd rfl (Or.inr rfl)) gs_name (m_scons (m_set (i := 9) sc_law.nd rfl (Or.inr rfl) (m_lc rfl sc_law.nd (blkOk_by (own := [("_law_other", 14)]) (by rfl)) (m_var (pv 2)) (gw_name (by decide)) (fun _ _ _ _ _ => (pg_name (i := 14) sc_law.nd rfl (Or.inl rfl))) (fun _ _ _ _ _ => (m_tests1 (PW.pt (m_and (m_truth (m_call (ok__law_at_most hP T) (hr.mono (by decide)) rfl T.g__law_at_most T.d__law_at_most.kp T.B__law_at_most takes_no (m_acons (m_var (pv 14)) (m_acons (m_var (pv 8)) m_anil))) (by intro _; rfl)) (m_and1 (m_cmpT (op_neM hr.units) s_ne (m_var (pv 14)) (m_var (pv 8)) (nomark _))))))) (fun _ _ _ _ _ => (m_var (pv 14)))))
      (m_scons (m_setLc (i := 10) rfl sc_law.nd rfl rfl (sw_true rfl rfl rfl rfl) (blkOk_by (own := [("_law_other", 14)]) (by rfl)) (m_var (pv 9)) (gw_name (by decide)) (fun _ _ _ _ _ => (pg_name (i := 14) sc_law.nd rfl (Or.inl rfl))) (fun _ _ _ _ _ => (m_tests1 (m_cmpT op_isN s_isN (m_call (ok__law_broken hP T) (hr.mono (by decide)) rfl T.g__law_broken T.d__law_broken.kp T.B__law_broken takes_no (m_acons (m_var (pv 14)) (m_acons (m_var (pv 3)) m_anil))) m_non (nomark _)))) (fun _ _ _ _ _ => (m_var (pv 14))))
      (m_sone (m_if (PW.pt (m_and (m_cmpT op_isN s_isN (m_call (ok__law_broken hP T) (hr.mono (by decide)) rfl T.g__law_broken T.d__law_broken.kp T.B__law_broken tk (m_acons (m_var (pv 8)) (m_acons (m_var (pv 3)) m_anil))) m_non (nomark _)) (m_and1 (m_cmpT (op_eqM hr.units) s_eq (m_var (pv 10)) (m_lst m_anil) (nomark _))))) (m_sone (m_expr (m_bm PySem.F.plainAttrs_list PySem.F.slot_list_append PySem.F.type_list_append mt_append t_lst s_append (m_var (pv 7)) (m_acons (m_var (pv 8)) m_anil)))) m_snil)))))
      (m_scons (m_for (passes_of rfl) rfl (m_var (pv 6)) (pg_name (i := 11) sc_law.nd rfl (Or.inl rfl)) gs_name (m_scons (m_if (PW.pt (m_or (m_not (m_truth (m_callB call_isi (s_isi T.isi) (by rfl) T.b_isinstance (by decide +kernel) (m_acons (m_var (pv 11)) (m_acons (m_const (pe_bltn (v := .ty "tuple") (by rfl) T.b_tuple (by decide +kernel) rfl) fun _ _ => by simp [VR]) m_anil))) (by intro _; rfl))) (m_or (m_cmpT (op_neM hr.units) s_ne (m_callB c_len s_len (by rfl) T.b_len PySem.boot_len (m_acons (m_var (pv 11)) m_anil)) m_int (nomark _)) (m_or1 (m_not (m_truth (m_callB call_isi (s_isi T.isi) (by rfl) T.b_isinstance (by decide +kernel) (m_acons (m_ixA hr (m_var (pv 11)) m_int) (m_acons (m_const (pe_bltn (v := .ty "list") (by rfl) T.b_list (by decide +kernel) rfl) fun _ _ => by simp [VR]) m_anil))) (by intro _; rfl))))))) (m_sone (m_ret m_bl)) m_snil)
      (m_scons (m_set (i := 8) sc_law.nd rfl (Or.inr rfl) (m_call (ok__law_words_of hP T) (hr.mono (by decide)) rfl T.g__law_words_of T.d__law_words_of.kp T.B__law_words_of tk (m_acons (m_ixA hr (m_var (pv 11)) m_int) m_anil)))
      (m_scons (m_if (m_cmpT (o_notInA hr.units) (s_notInA s_notIn) (m_var (pv 8)) (m_var (pv 7)) rfl) (m_sone (m_ret m_bl)) m_snil)
      (m_scons (m_expr (m_bm PySem.F.plainAttrs_list PySem.F.slot_list_remove PySem.F.type_list_remove (mt_removeD hr.units) t_lst s_remS (m_var (pv 7)) (m_acons (m_var (pv 8)) m_anil)))
      (m_scons (m_set (i := 9) sc_law.nd rfl (Or.inr rfl) (m_lc rfl sc_law.nd (blkOk_by (own := [("_law_other", 14)]) (by rfl)) (m_var (pv 2)) (gw_name (by decide)) (fun _ _ _ _ _ => (pg_name (i := 14) sc_law.nd rfl (Or.inl rfl))) (fun _ _ _ _ _ => (m_tests1 (PW.pt (m_and (m_truth (m_call (ok__law_at_most hP T) (hr.mono (by decide)) rfl T.g__law_at_most T.d__law_at_most.kp T.B__law_at_most takes_no (m_acons (m_var (pv 14)) (m_acons (m_var (pv 8)) m_anil))) (by intro _; rfl)) (m_and1 (m_cmpT (op_neM hr.units) s_ne (m_var (pv 14)) (m_var (pv 8)) (nomark _))))))) (fun _ _ _ _ _ => (m_var (pv 14)))))
      (m_scons (m_set (i := 12) sc_law.nd rfl (Or.inl rfl) (m_callB cr_sortedS s_sortS (by rfl) T.b_sorted (by decide +kernel) (m_acons (m_lc rfl sc_law.nd (blkOk_by (own := [("_law_row_here", 15)]) (by rfl)) (m_ixA hr (m_var (pv 11)) m_int) (gw_name (by decide)) (fun _ _ _ _ _ => (pg_name (i := 15) sc_law.nd rfl (Or.inl rfl))) (fun _ _ _ _ _ => m_tests0) (fun _ _ _ _ _ => (m_bm PySem.F.plainAttrs_str PySem.F.slot_str_join PySem.F.type_str_join mt_join t_str s_join m_str (m_acons (m_call (ok__law_words_of hP T) (hr.mono (by decide)) rfl T.g__law_words_of T.d__law_words_of.kp T.B__law_words_of takes_no (m_acons (m_ixA hr (m_var (pv 15)) m_int) m_anil)) m_anil)))) m_anil)))
      (m_scons (m_if (m_cmpT (op_neM hr.units) s_ne (m_var (pv 12)) (m_callB cr_sortedS s_sortS (by rfl) T.b_sorted (by decide +kernel) (m_acons (m_lc rfl sc_law.nd (blkOk_by (own := [("_law_other", 14)]) (by rfl)) (m_var (pv 9)) (gw_name (by decide)) (fun _ _ _ _ _ => (pg_name (i := 14) sc_law.nd rfl (Or.inl rfl))) (fun _ _ _ _ _ => m_tests0) (fun _ _ _ _ _ => (m_bm PySem.F.plainAttrs_str PySem.F.slot_str_join PySem.F.type_str_join mt_join t_str s_join m_str (m_acons (m_var (pv 14)) m_anil)))) m_anil)) (nomark _)) (m_sone (m_ret m_bl)) m_snil)
      (m_sone (m_if (m_cmpT (op_neM hr.units) s_ne (m_lc rfl sc_law.nd (blkOk_by (own := [("_law_row_here", 15)]) (by rfl)) (m_ixA hr (m_var (pv 11)) m_int) (gw_name (by decide)) (fun _ _ _ _ _ => (pg_name (i := 15) sc_law.nd rfl (Or.inl rfl))) (fun _ _ _ _ _ => (m_tests1 (m_not (m_truth (m_call (ok__law_row_right hP T) (hr.mono (by decide)) rfl T.g__law_row_right T.d__law_row_right.kp T.B__law_row_right takes_no (m_acons (m_var (pv 15)) (m_acons (m_var (pv 3)) (m_acons (m_var (pv 9)) m_anil)))) (by intro _; rfl))))) (fun _ _ _ _ _ => (m_var (pv 15)))) (m_lst m_anil) (nomark _)) (m_sone (m_ret m_bl)) m_snil))))))))))
      (m_sone (m_ret (m_cmp (op_eqM hr.units) s_eq (m_var (pv 7)) (m_lst m_anil) (nomark _))))))))))))))
end
end Lw
namespace Lw
open PySem L2 Mo
section
theorem bn__law_mixed {K : PySem.W.Frag} {fd : FuncData} (F : FunD K "_law_mixed" "_law_mixed" (defArgs s__law_mixed) (defBody s__law_mixed) (defScope s__law_mixed) [] [] (He.fAd K ("_law_mixed", none)) fd) : Binds K fd ["_law_number", "_law_k"] [] := FunD.bindsN F fun _ _ _ _ _ _ us hl => match us, hl with | [_, _], _ => rfl
theorem bn__law_row {K : PySem.W.Frag} {fd : FuncData} (F : FunD K "_law_row" "_law_row" (defArgs s__law_row) (defBody s__law_row) (defScope s__law_row) [] [] (He.fAd K ("_law_row", none)) fd) : Binds K fd ["_law_cell_here", "_law_count", "_law_base"] [] := FunD.bindsN F fun _ _ _ _ _ _ us hl => match us, hl with | [_, _, _], _ => rfl
theorem bn__law_cell {K : PySem.W.Frag} {fd : FuncData} (F : FunD K "_law_cell" "_law_cell" (defArgs s__law_cell) (defBody s__law_cell) (defScope s__law_cell) [] [] (He.fAd K ("_law_cell", none)) fd) : Binds K fd ["_law_script", "_law_k"] [] := FunD.bindsN F fun _ _ _ _ _ _ us hl => match us, hl with | [_, _], _ => rfl
theorem bn__law_words {K : PySem.W.Frag} {fd : FuncData} (F : FunD K "_law_words" "_law_words" (defArgs s__law_words) (defBody s__law_words) (defScope s__law_words) [] [] (He.fAd K ("_law_words", none)) fd) : Binds K fd ["_law_number"] [] := FunD.bindsN F fun _ _ _ _ _ _ us hl => match us, hl with | [_], _ => rfl
theorem bn__law_lists {K : PySem.W.Frag} {fd : FuncData} (F : FunD K "_law_lists" "_law_lists" (defArgs s__law_lists) (defBody s__law_lists) (defScope s__law_lists) [] [] (He.fAd K ("_law_lists", none)) fd) : Binds K fd ["_law_script"] [] := FunD.bindsN F fun _ _ _ _ _ _ us hl => match us, hl with | [_], _ => rfl
theorem bn_Promise___init__ {K : PySem.W.Frag} {fd : FuncData} (F : FunD K "__init__" "Promise.__init__" (defArgs s_Promise___init__) (defBody s_Promise___init__) (defScope s_Promise___init__) [] [] (He.fAd K ("Promise", some "__init__")) fd) : Binds K fd ["self", "name"] [] := FunD.bindsN F fun _ _ _ _ _ _ us hl => match us, hl with | [_, _], _ => rfl
theorem bn_Verdict___init__ {K : PySem.W.Frag} {fd : FuncData} (F : FunD K "__init__" "Verdict.__init__" (defArgs s_Verdict___init__) (defBody s_Verdict___init__) (defScope s_Verdict___init__) [] [] (He.fAd K ("Verdict", some "__init__")) fd) : Binds K fd ["self", "kept", "table", "run"] [] := FunD.bindsN F fun _ _ _ _ _ _ us hl => match us, hl with | [_, _, _, _], _ => rfl
theorem bn_after_enter {K : PySem.W.Frag} {fd : FuncData} (F : FunD K "after_enter" "after_enter" (defArgs s_after_enter) (defBody s_after_enter) (defScope s_after_enter) [] [] (He.fAd K ("after_enter", none)) fd) : Binds K fd ["place", "head", "own"] [] := FunD.bindsN F fun _ _ _ _ _ _ us hl => match us, hl with | [_, _, _], _ => rfl
theorem bn_in_book {K : PySem.W.Frag} {fd : FuncData} (F : FunD K "in_book" "in_book" (defArgs s_in_book) (defBody s_in_book) (defScope s_in_book) [] [] (He.fAd K ("in_book", none)) fd) : Binds K fd ["place"] [] := FunD.bindsN F fun _ _ _ _ _ _ us hl => match us, hl with | [_], _ => rfl
theorem bn_after_leave {K : PySem.W.Frag} {fd : FuncData} (F : FunD K "after_leave" "after_leave" (defArgs s_after_leave) (defBody s_after_leave) (defScope s_after_leave) [] [] (He.fAd K ("after_leave", none)) fd) : Binds K fd ["place", "head", "own"] [] := FunD.bindsN F fun _ _ _ _ _ _ us hl => match us, hl with | [_, _, _], _ => rfl
theorem bn_after_out {K : PySem.W.Frag} {fd : FuncData} (F : FunD K "after_out" "after_out" (defArgs s_after_out) (defBody s_after_out) (defScope s_after_out) [] [] (He.fAd K ("after_out", none)) fd) : Binds K fd ["place", "head", "own"] [] := FunD.bindsN F fun _ _ _ _ _ _ us hl => match us, hl with | [_, _, _], _ => rfl
theorem bn_after_hear {K : PySem.W.Frag} {fd : FuncData} (F : FunD K "after_hear" "after_hear" (defArgs s_after_hear) (defBody s_after_hear) (defScope s_after_hear) [] [] (He.fAd K ("after_hear", none)) fd) : Binds K fd ["place", "head", "own"] [] := FunD.bindsN F fun _ _ _ _ _ _ us hl => match us, hl with | [_, _, _], _ => rfl
theorem bn_after_over {K : PySem.W.Frag} {fd : FuncData} (F : FunD K "after_over" "after_over" (defArgs s_after_over) (defBody s_after_over) (defScope s_after_over) [] [] (He.fAd K ("after_over", none)) fd) : Binds K fd ["place", "head", "own"] [] := FunD.bindsN F fun _ _ _ _ _ _ us hl => match us, hl with | [_, _, _], _ => rfl
theorem bn_after_read {K : PySem.W.Frag} {fd : FuncData} (F : FunD K "after_read" "after_read" (defArgs s_after_read) (defBody s_after_read) (defScope s_after_read) [] [] (He.fAd K ("after_read", none)) fd) : Binds K fd ["place", "head", "own"] [] := FunD.bindsN F fun _ _ _ _ _ _ us hl => match us, hl with | [_, _, _], _ => rfl
theorem bn_after_call {K : PySem.W.Frag} {fd : FuncData} (F : FunD K "after_call" "after_call" (defArgs s_after_call) (defBody s_after_call) (defScope s_after_call) [] [] (He.fAd K ("after_call", none)) fd) : Binds K fd ["place", "head", "own"] [] := FunD.bindsN F fun _ _ _ _ _ _ us hl => match us, hl with | [_, _, _], _ => rfl
theorem bn_after {K : PySem.W.Frag} {fd : FuncData} (F : FunD K "after" "after" (defArgs s_after) (defBody s_after) (defScope s_after) [] [] (He.fAd K ("after", none)) fd) : Binds K fd ["step", "place", "head", "own"] [] := FunD.bindsN F fun _ _ _ _ _ _ us hl => match us, hl with | [_, _, _, _], _ => rfl
theorem bn_place_dealt {K : PySem.W.Frag} {fd : FuncData} (F : FunD K "place_dealt" "place_dealt" (defArgs s_place_dealt) (defBody s_place_dealt) (defScope s_place_dealt) [] [] (He.fAd K ("place_dealt", none)) fd) : Binds K fd ["place", "is_target"] [] := FunD.bindsN F fun _ _ _ _ _ _ us hl => match us, hl with | [_, _], _ => rfl
theorem bn_has_answered {K : PySem.W.Frag} {fd : FuncData} (F : FunD K "has_answered" "has_answered" (defArgs s_has_answered) (defBody s_has_answered) (defScope s_has_answered) [] [] (He.fAd K ("has_answered", none)) fd) : Binds K fd ["place", "own"] [] := FunD.bindsN F fun _ _ _ _ _ _ us hl => match us, hl with | [_, _], _ => rfl
theorem bn_is_awaited {K : PySem.W.Frag} {fd : FuncData} (F : FunD K "is_awaited" "is_awaited" (defArgs s_is_awaited) (defBody s_is_awaited) (defScope s_is_awaited) [] [] (He.fAd K ("is_awaited", none)) fd) : Binds K fd ["place"] [] := FunD.bindsN F fun _ _ _ _ _ _ us hl => match us, hl with | [_], _ => rfl
theorem bn_may_be_dealt {K : PySem.W.Frag} {fd : FuncData} (F : FunD K "may_be_dealt" "may_be_dealt" (defArgs s_may_be_dealt) (defBody s_may_be_dealt) (defScope s_may_be_dealt) [] [] (He.fAd K ("may_be_dealt", none)) fd) : Binds K fd ["head", "place", "other"] [] := FunD.bindsN F fun _ _ _ _ _ _ us hl => match us, hl with | [_, _, _], _ => rfl
theorem bn_after_deal {K : PySem.W.Frag} {fd : FuncData} (F : FunD K "after_deal" "after_deal" (defArgs s_after_deal) (defBody s_after_deal) (defScope s_after_deal) [] [] (He.fAd K ("after_deal", none)) fd) : Binds K fd ["crew", "pair", "target"] [] := FunD.bindsN F fun _ _ _ _ _ _ us hl => match us, hl with | [_, _, _], _ => rfl
theorem bn_steps {K : PySem.W.Frag} {fd : FuncData} (F : FunD K "steps" "steps" (defArgs s_steps) (defBody s_steps) (defScope s_steps) [] [] (He.fAd K ("steps", none)) fd) : Binds K fd ["crew", "pair"] [] := FunD.bindsN F fun _ _ _ _ _ _ us hl => match us, hl with | [_, _], _ => rfl
theorem bn_owns {K : PySem.W.Frag} {fd : FuncData} (F : FunD K "owns" "owns" (defArgs s_owns) (defBody s_owns) (defScope s_owns) [] [] (He.fAd K ("owns", none)) fd) : Binds K fd ["place"] [] := FunD.bindsN F fun _ _ _ _ _ _ us hl => match us, hl with | [_], _ => rfl
theorem bn_mark_moves {K : PySem.W.Frag} {fd : FuncData} (F : FunD K "mark_moves" "mark_moves" (defArgs s_mark_moves) (defBody s_mark_moves) (defScope s_mark_moves) [] [] (He.fAd K ("mark_moves", none)) fd) : Binds K fd ["crew", "standing"] [] := FunD.bindsN F fun _ _ _ _ _ _ us hl => match us, hl with | [_, _], _ => rfl
theorem bn_steady_move {K : PySem.W.Frag} {fd : FuncData} (F : FunD K "steady_move" "steady_move" (defArgs s_steady_move) (defBody s_steady_move) (defScope s_steady_move) [] [] (He.fAd K ("steady_move", none)) fd) : Binds K fd ["standing", "label", "pair"] [] := FunD.bindsN F fun _ _ _ _ _ _ us hl => match us, hl with | [_, _, _], _ => rfl
theorem bn_at_work {K : PySem.W.Frag} {fd : FuncData} (F : FunD K "at_work" "at_work" (defArgs s_at_work) (defBody s_at_work) (defScope s_at_work) [] [] (He.fAd K ("at_work", none)) fd) : Binds K fd ["place"] [] := FunD.bindsN F fun _ _ _ _ _ _ us hl => match us, hl with | [_], _ => rfl
theorem bn_stops {K : PySem.W.Frag} {fd : FuncData} (F : FunD K "stops" "stops" (defArgs s_stops) (defBody s_stops) (defScope s_stops) [] [] (He.fAd K ("stops", none)) fd) : Binds K fd ["word", "before", "now"] [] := FunD.bindsN F fun _ _ _ _ _ _ us hl => match us, hl with | [_, _, _], _ => rfl
theorem bn_is_saved {K : PySem.W.Frag} {fd : FuncData} (F : FunD K "is_saved" "is_saved" (defArgs s_is_saved) (defBody s_is_saved) (defScope s_is_saved) [] [] (He.fAd K ("is_saved", none)) fd) : Binds K fd ["head", "place", "other"] [] := FunD.bindsN F fun _ _ _ _ _ _ us hl => match us, hl with | [_, _, _], _ => rfl
theorem bn_norepeat_move {K : PySem.W.Frag} {fd : FuncData} (F : FunD K "norepeat_move" "norepeat_move" (defArgs s_norepeat_move) (defBody s_norepeat_move) (defScope s_norepeat_move) [] [] (He.fAd K ("norepeat_move", none)) fd) : Binds K fd ["crew", "standing", "label", "pair"] [] := FunD.bindsN F fun _ _ _ _ _ _ us hl => match us, hl with | [_, _, _, _], _ => rfl
theorem bn_forward_move {K : PySem.W.Frag} {fd : FuncData} (F : FunD K "forward_move" "forward_move" (defArgs s_forward_move) (defBody s_forward_move) (defScope s_forward_move) [] [] (He.fAd K ("forward_move", none)) fd) : Binds K fd ["crew", "standing", "label", "pair"] [] := FunD.bindsN F fun _ _ _ _ _ _ us hl => match us, hl with | [_, _, _, _], _ => rfl
theorem bn_single_move {K : PySem.W.Frag} {fd : FuncData} (F : FunD K "single_move" "single_move" (defArgs s_single_move) (defBody s_single_move) (defScope s_single_move) [] [] (He.fAd K ("single_move", none)) fd) : Binds K fd ["standing", "pair"] [] := FunD.bindsN F fun _ _ _ _ _ _ us hl => match us, hl with | [_, _], _ => rfl
theorem bn_Promise___call__ {K : PySem.W.Frag} {fd : FuncData} (F : FunD K "__call__" "Promise.__call__" (defArgs s_Promise___call__) (defBody s_Promise___call__) (defScope s_Promise___call__) [] [] (He.fAd K ("Promise", some "__call__")) fd) : Binds K fd ["self", "crew", "standing"] [] := FunD.bindsN F fun _ _ _ _ _ _ us hl => match us, hl with | [_, _, _], _ => rfl
theorem bn_labels_to {K : PySem.W.Frag} {fd : FuncData} (F : FunD K "labels_to" "labels_to" (defArgs s_labels_to) (defBody s_labels_to) (defScope s_labels_to) [] [] (He.fAd K ("labels_to", none)) fd) : Binds K fd ["origins", "standing"] [] := FunD.bindsN F fun _ _ _ _ _ _ us hl => match us, hl with | [_, _], _ => rfl
theorem bn_judge {K : PySem.W.Frag} {fd : FuncData} (F : FunD K "judge" "judge" (defArgs s_judge) (defBody s_judge) (defScope s_judge) [] [] (He.fAd K ("judge", none)) fd) : Binds K fd ["crew", "name"] [] := FunD.bindsN F fun _ _ _ _ _ _ us hl => match us, hl with | [_, _], _ => rfl
theorem bn_Crew___init__ {K : PySem.W.Frag} {fd : FuncData} (F : FunD K "__init__" "Crew.__init__" (defArgs s_Crew___init__) (defBody s_Crew___init__) (defScope s_Crew___init__) [] [] (He.fAd K ("Crew", some "__init__")) fd) : Binds K fd ["self", "head", "first", "second"] [] := FunD.bindsN F fun _ _ _ _ _ _ us hl => match us, hl with | [_, _, _, _], _ => rfl
theorem bn_Crew_plain {K : PySem.W.Frag} {fd : FuncData} (F : FunD K "plain" "Crew.plain" (defArgs s_Crew_plain) (defBody s_Crew_plain) (defScope s_Crew_plain) [] [] (He5.wf K (He.ga K "Crew") "classmethod" "plain") fd) : Binds K fd ["cls", "book"] [] := FunD.bindsN F fun _ _ _ _ _ _ us hl => match us, hl with | [_, _], _ => rfl
theorem bn_first_broken {K : PySem.W.Frag} {fd : FuncData} (F : FunD K "first_broken" "first_broken" (defArgs s_first_broken) (defBody s_first_broken) (defScope s_first_broken) [] [] (He.fAd K ("first_broken", none)) fd) : Binds K fd ["book", "names"] [] := FunD.bindsN F fun _ _ _ _ _ _ us hl => match us, hl with | [_, _], _ => rfl
theorem bn_at_most {K : PySem.W.Frag} {fd : FuncData} (F : FunD K "at_most" "at_most" (defArgs s_at_most) (defBody s_at_most) (defScope s_at_most) [] [] (He.fAd K ("at_most", none)) fd) : Binds K fd ["options", "low", "high"] [] := FunD.bindsN F fun _ _ _ _ _ _ us hl => match us, hl with | [_, _, _], _ => rfl
theorem bn_Book___le__ {K : PySem.W.Frag} {fd : FuncData} (F : FunD K "__le__" "Book.__le__" (defArgs s_Book___le__) (defBody s_Book___le__) (defScope s_Book___le__) [] [] (He.fAd K ("Book", some "__le__")) fd) : Binds K fd ["self", "other"] [] := FunD.bindsN F fun _ _ _ _ _ _ us hl => match us, hl with | [_, _], _ => rfl
theorem bn_Book___eq__ {K : PySem.W.Frag} {fd : FuncData} (F : FunD K "__eq__" "Book.__eq__" (defArgs s_Book___eq__) (defBody s_Book___eq__) (defScope s_Book___eq__) [] [] (He.fAd K ("Book", some "__eq__")) fd) : Binds K fd ["self", "other"] [] := FunD.bindsN F fun _ _ _ _ _ _ us hl => match us, hl with | [_, _], _ => rfl
theorem bn_weakest {K : PySem.W.Frag} {fd : FuncData} (F : FunD K "weakest" "weakest" (defArgs s_weakest) (defBody s_weakest) (defScope s_weakest) [] [] (He.fAd K ("weakest", none)) fd) : Binds K fd ["books", "names"] [] := FunD.bindsN F fun _ _ _ _ _ _ us hl => match us, hl with | [_, _], _ => rfl
theorem bn__law_book {K : PySem.W.Frag} {fd : FuncData} (F : FunD K "_law_book" "_law_book" (defArgs s__law_book) (defBody s__law_book) (defScope s__law_book) [] [] (He.fAd K ("_law_book", none)) fd) : Binds K fd ["_law_words_here"] [] := FunD.bindsN F fun _ _ _ _ _ _ us hl => match us, hl with | [_], _ => rfl
theorem bn__law_words_of {K : PySem.W.Frag} {fd : FuncData} (F : FunD K "_law_words_of" "_law_words_of" (defArgs s__law_words_of) (defBody s__law_words_of) (defScope s__law_words_of) [] [] (He.fAd K ("_law_words_of", none)) fd) : Binds K fd ["_law_book_here"] [] := FunD.bindsN F fun _ _ _ _ _ _ us hl => match us, hl with | [_], _ => rfl
theorem bn__law_form {K : PySem.W.Frag} {fd : FuncData} (F : FunD K "_law_form" "_law_form" (defArgs s__law_form) (defBody s__law_form) (defScope s__law_form) [] [] (He.fAd K ("_law_form", none)) fd) : Binds K fd ["_law_name", "_law_head", "_law_first", "_law_second"] [] := FunD.bindsN F fun _ _ _ _ _ _ us hl => match us, hl with | [_, _, _, _], _ => rfl
theorem bn__law_broken {K : PySem.W.Frag} {fd : FuncData} (F : FunD K "_law_broken" "_law_broken" (defArgs s__law_broken) (defBody s__law_broken) (defScope s__law_broken) [] [] (He.fAd K ("_law_broken", none)) fd) : Binds K fd ["_law_words_here", "_law_names"] [] := FunD.bindsN F fun _ _ _ _ _ _ us hl => match us, hl with | [_, _], _ => rfl
theorem bn__law_at_most {K : PySem.W.Frag} {fd : FuncData} (F : FunD K "_law_at_most" "_law_at_most" (defArgs s__law_at_most) (defBody s__law_at_most) (defScope s__law_at_most) [] [] (He.fAd K ("_law_at_most", none)) fd) : Binds K fd ["_law_low", "_law_high"] [] := FunD.bindsN F fun _ _ _ _ _ _ us hl => match us, hl with | [_, _], _ => rfl
theorem bn__law_breaks {K : PySem.W.Frag} {fd : FuncData} (F : FunD K "_law_breaks" "_law_breaks" (defArgs s__law_breaks) (defBody s__law_breaks) (defScope s__law_breaks) [] [] (He.fAd K ("_law_breaks", none)) fd) : Binds K fd ["_law_name", "_law_crew", "_law_run"] [] := FunD.bindsN F fun _ _ _ _ _ _ us hl => match us, hl with | [_, _, _], _ => rfl
theorem bn__law_row_right {K : PySem.W.Frag} {fd : FuncData} (F : FunD K "_law_row_right" "_law_row_right" (defArgs s__law_row_right) (defBody s__law_row_right) (defScope s__law_row_right) [] [] (He.fAd K ("_law_row_right", none)) fd) : Binds K fd ["_law_row_here", "_law_names", "_law_weaker"] [] := FunD.bindsN F fun _ _ _ _ _ _ us hl => match us, hl with | [_, _, _], _ => rfl
theorem bn_law {K : PySem.W.Frag} {fd : FuncData} (F : FunD K "law" "law" (defArgs s_law) (defBody s_law) (defScope s_law) [] [] (He.fAd K ("law", none)) fd) : Binds K fd ["_law_script"] [] := FunD.bindsN F fun _ _ _ _ _ _ us hl => match us, hl with | [_], _ => rfl
theorem all_mk {l : PySem.W.OpenLaw} {w : World} {K : PySem.W.Frag} {h : Heap} {mg : Str → Option Value} {fa : Addr} (X : K.In h) (G : h.Ns mainGlobals mg) (hfa : mg "law" = some (.ref fa)) (c : He.SaysT faL fnL tsL w K) (e : exL K = true) (eP : exP K) (hP : PFa l.prog FILE) :
    ∃ fd : FuncData, (∀ (s : Shared) (v : Value), BindsTo s fd ⟨[v], []⟩ [("_law_script", v)]) ∧ ∀ base : Heap, K.In base → base.Ns mainGlobals mg → FnOk l.prog w K mg base (L2.CX l.prog w) 9 fa fd ["_law_script"] (spLaw K) := by
  have q := hfa.symm.trans (He.glo_ok (x := "law") X G (c.d.fact 47 rfl))
  cases q
  obtain ⟨D0, F0⟩ := c.d.def_ 0 rfl
  obtain ⟨D1, F1⟩ := c.d.def_ 1 rfl
  obtain ⟨D2, F2⟩ := c.d.def_ 2 rfl
  obtain ⟨D3, F3⟩ := c.d.def_ 3 rfl
  obtain ⟨D4, F4⟩ := c.d.def_ 4 rfl
  obtain ⟨D5, F5⟩ := c.d.def_ 5 rfl
  obtain ⟨D6, F6⟩ := c.d.def_ 6 rfl
  obtain ⟨D7, F7⟩ := c.d.def_ 7 rfl
  obtain ⟨D8, F8⟩ := c.d.def_ 8 rfl
  obtain ⟨D9, F9⟩ := c.d.def_ 9 rfl
  obtain ⟨D10, F10⟩ := c.d.def_ 10 rfl
  obtain ⟨D11, F11⟩ := c.d.def_ 11 rfl
  obtain ⟨D12, F12⟩ := c.d.def_ 12 rfl
  obtain ⟨D13, F13⟩ := c.d.def_ 13 rfl
  obtain ⟨D14, F14⟩ := c.d.def_ 14 rfl
  obtain ⟨D15, F15⟩ := c.d.def_ 15 rfl
  obtain ⟨D16, F16⟩ := c.d.def_ 16 rfl
  obtain ⟨D17, F17⟩ := c.d.def_ 17 rfl
  obtain ⟨D18, F18⟩ := c.d.def_ 18 rfl
  obtain ⟨D19, F19⟩ := c.d.def_ 19 rfl
  obtain ⟨D20, F20⟩ := c.d.def_ 20 rfl
  obtain ⟨D21, F21⟩ := c.d.def_ 21 rfl
  obtain ⟨D22, F22⟩ := c.d.def_ 22 rfl
  obtain ⟨D23, F23⟩ := c.d.def_ 23 rfl
  obtain ⟨D24, F24⟩ := c.d.def_ 24 rfl
  obtain ⟨D25, F25⟩ := c.d.def_ 25 rfl
  obtain ⟨D26, F26⟩ := c.d.def_ 26 rfl
  obtain ⟨D27, F27⟩ := c.d.def_ 27 rfl
  obtain ⟨D28, F28⟩ := c.d.def_ 28 rfl
  obtain ⟨D29, F29⟩ := c.d.def_ 29 rfl
  obtain ⟨D30, F30⟩ := c.d.def_ 30 rfl
  obtain ⟨D31, F31⟩ := c.d.def_ 31 rfl
  obtain ⟨D32, F32⟩ := c.d.def_ 32 rfl
  obtain ⟨D33, F33⟩ := c.d.def_ 33 rfl
  obtain ⟨D34, F34⟩ := c.d.def_ 34 rfl
  obtain ⟨D36, F36⟩ := c.d.def_ 35 rfl
  obtain ⟨D37, F37⟩ := c.d.def_ 36 rfl
  obtain ⟨D38, F38⟩ := c.d.def_ 37 rfl
  obtain ⟨D39, F39⟩ := c.d.def_ 38 rfl
  obtain ⟨D40, F40⟩ := c.d.def_ 39 rfl
  obtain ⟨D41, F41⟩ := c.d.def_ 40 rfl
  obtain ⟨D42, F42⟩ := c.d.def_ 41 rfl
  obtain ⟨D43, F43⟩ := c.d.def_ 42 rfl
  obtain ⟨D44, F44⟩ := c.d.def_ 43 rfl
  obtain ⟨D45, F45⟩ := c.d.def_ 44 rfl
  obtain ⟨D46, F46⟩ := c.d.def_ 45 rfl
  obtain ⟨D47, F47⟩ := c.d.def_ 46 rfl
  obtain ⟨D48, F48⟩ := c.d.def_ 47 rfl
  obtain ⟨D49, F49⟩ := c.d.def_ 48 rfl
  unfold exL at e
  have e0 := (He.ba e).1
  replace e := (He.ba e).2
  have e1 := (He.ba e).1
  replace e := (He.ba e).2
  have e2 := (He.ba e).1
  replace e := (He.ba e).2
  have e3 := (He.ba e).1
  replace e := (He.ba e).2
  have e4 := (He.ba e).1
  replace e := (He.ba e).2
  have e5 := (He.ba e).1
  replace e := (He.ba e).2
  have e6 := (He.ba e).1
  replace e := (He.ba e).2
  have e7 := (He.ba e).1
  replace e := (He.ba e).2
  have e8 := (He.ba e).1
  replace e := (He.ba e).2
  have e9 := (He.ba e).1
  replace e := (He.ba e).2
  have e10 := (He.ba e).1
  replace e := (He.ba e).2
  have e11 := (He.ba e).1
  replace e := (He.ba e).2
  have e12 := (He.ba e).1
  replace e := (He.ba e).2
  have e13 := (He.ba e).1
  replace e := (He.ba e).2
  have e14 := (He.ba e).1
  replace e := (He.ba e).2
  have e15 := (He.ba e).1
  replace e := (He.ba e).2
  have e16 := (He.ba e).1
  replace e := (He.ba e).2
  have e17 := (He.ba e).1
  replace e := (He.ba e).2
  have e18 := (He.ba e).1
  replace e := (He.ba e).2
  have e19 := (He.ba e).1
  replace e := (He.ba e).2
  have e20 := e
  obtain ⟨D35, F35⟩ := He5.DefA.funD (d := dA_Crew_plain) eP.1 e11
  have T : Txt l.prog w K mg ⟨D0, D1, D2, D3, D4, D5, D6, D7, D8, D9, D10, D11, D12, D13, D14, D15, D16, D17, D18, D19, D20, D21, D22, D23, D24, D25, D26, D27, D28, D29, D30, D31, D32, D33, D34, D35, D36, D37, D38, D39, D40, D41, D42, D43, D44, D45, D46, D47, D48, D49⟩ := ⟨F0,
    (bn__law_mixed F0),
    F1,
    (bn__law_row F1),
    F2,
    (bn__law_cell F2),
    F3,
    (bn__law_words F3),
    F4,
    (bn__law_lists F4),
    F5,
    (bn_Promise___init__ F5),
    F6,
    (bn_Verdict___init__ F6),
    F7,
    (bn_after_enter F7),
    F8,
    (bn_in_book F8),
    F9,
    (bn_after_leave F9),
    F10,
    (bn_after_out F10),
    F11,
    (bn_after_hear F11),
    F12,
    (bn_after_over F12),
    F13,
    (bn_after_read F13),
    F14,
    (bn_after_call F14),
    F15,
    (bn_after F15),
    F16,
    (bn_place_dealt F16),
    F17,
    (bn_has_answered F17),
    F18,
    (bn_is_awaited F18),
    F19,
    (bn_may_be_dealt F19),
    F20,
    (bn_after_deal F20),
    F21,
    (bn_steps F21),
    F22,
    (bn_owns F22),
    F23,
    (bn_mark_moves F23),
    F24,
    (bn_steady_move F24),
    F25,
    (bn_at_work F25),
    F26,
    (bn_stops F26),
    F27,
    (bn_is_saved F27),
    F28,
    (bn_norepeat_move F28),
    F29,
    (bn_forward_move F29),
    F30,
    (bn_single_move F30),
    F31,
    (bn_Promise___call__ F31),
    F32,
    (bn_labels_to F32),
    F33,
    (bn_judge F33),
    F34,
    (bn_Crew___init__ F34),
    F35,
    (bn_Crew_plain F35),
    F36,
    (bn_first_broken F36),
    F37,
    (bn_at_most F37),
    F38,
    (bn_Book___le__ F38),
    F39,
    (bn_Book___eq__ F39),
    F40,
    (bn_weakest F40),
    F41,
    F42,
    (bn__law_book F42),
    F43,
    (bn__law_words_of F43),
    F44,
    (bn__law_form F44),
    F45,
    (bn__law_broken F45),
    F46,
    (bn__law_at_most F46),
    F47,
    (bn__law_breaks F47),
    F48,
    (bn__law_row_right F48),
    F49,
    (bn_law F49),
    (He.glo_ok X G (c.d.fact 0 rfl)),
    (He.glo_ok X G (c.d.fact 1 rfl)),
    (He.glo_ok X G (c.d.fact 2 rfl)),
    (He.glo_ok X G (c.d.fact 3 rfl)),
    (He.glo_ok X G (c.d.fact 4 rfl)),
    (He.glo_ok X G (c.d.fact 5 rfl)),
    (He.glo_ok X G (c.d.fact 6 rfl)),
    (He.glo_ok X G (c.d.fact 7 rfl)),
    (He.glo_ok X G (c.d.fact 8 rfl)),
    (He.glo_ok X G (c.d.fact 9 rfl)),
    (He.glo_ok X G (c.d.fact 10 rfl)),
    (He.glo_ok X G (c.d.fact 11 rfl)),
    (He.glo_ok X G (c.d.fact 12 rfl)),
    (He.glo_ok X G (c.d.fact 13 rfl)),
    (He.glo_ok X G (c.d.fact 14 rfl)),
    (He.glo_ok X G (c.d.fact 15 rfl)),
    (He.glo_ok X G (c.d.fact 16 rfl)),
    (He.glo_ok X G (c.d.fact 17 rfl)),
    (He.glo_ok X G (c.d.fact 18 rfl)),
    (He.glo_ok X G (c.d.fact 19 rfl)),
    (He.glo_ok X G (c.d.fact 20 rfl)),
    (He.glo_ok X G (c.d.fact 21 rfl)),
    (He.glo_ok X G (c.d.fact 22 rfl)),
    (He.glo_ok X G (c.d.fact 23 rfl)),
    (He.glo_ok X G (c.d.fact 24 rfl)),
    (He.glo_ok X G (c.d.fact 25 rfl)),
    (He.glo_ok X G (c.d.fact 26 rfl)),
    (He.glo_ok X G (c.d.fact 27 rfl)),
    (He.glo_ok X G (c.d.fact 28 rfl)),
    (He.glo_ok X G (c.d.fact 29 rfl)),
    (He.glo_ok X G (c.d.fact 30 rfl)),
    (He.glo_ok X G (c.d.fact 31 rfl)),
    (He.glo_ok X G (c.d.fact 32 rfl)),
    (He.glo_ok X G (c.d.fact 33 rfl)),
    (He.glo_ok X G (c.d.fact 34 rfl)),
    (He.glo_ok X G (c.d.fact 35 rfl)),
    (He.glo_ok X G (c.d.fact 36 rfl)),
    (He.glo_ok X G (c.d.fact 37 rfl)),
    (He.glo_ok X G (c.d.fact 38 rfl)),
    (He.glo_ok X G (c.d.fact 39 rfl)),
    (He.glo_ok X G (c.d.fact 40 rfl)),
    (He.glo_ok X G (c.d.fact 41 rfl)),
    (He.glo_ok X G (c.d.fact 42 rfl)),
    (He.glo_ok X G (c.d.fact 43 rfl)),
    (He.glo_ok X G (c.d.fact 44 rfl)),
    (He.glo_ok X G (c.d.fact 45 rfl)),
    (He.glo_ok X G (c.d.fact 46 rfl)),
    (He.glo_ok X G (c.d.fact 47 rfl)),
    (He.glo_ok X G (c.d.fact 48 rfl)),
    (He.glo_ok X G (c.d.fact 49 rfl)),
    (He.glo_ok X G (c.d.fact 50 rfl)),
    (He.glo_ok X G (c.d.fact 51 rfl)),
    (He.glo_ok X G (c.d.fact 52 rfl)),
    (He.glo_ok X G (c.d.fact 53 rfl)),
    (He.glo_ok X G (c.d.fact 54 rfl)),
    (He.glo_ok X G (c.d.fact 55 rfl)),
    (He.glo_ok X G (c.d.fact 56 rfl)),
    (He.glo_ok X G (c.d.fact 57 rfl)),
    (He.free_ok X G (c.d.fact 58 rfl)),
    (He.free_ok X G (c.d.fact 59 rfl)),
    (He.free_ok X G (c.d.fact 60 rfl)),
    (He.free_ok X G (c.d.fact 61 rfl)),
    (He.free_ok X G (c.d.fact 62 rfl)),
    (He.free_ok X G (c.d.fact 63 rfl)),
    (He.free_ok X G (c.d.fact 64 rfl)),
    (He.free_ok X G (c.d.fact 65 rfl)),
    (He.free_ok X G (c.d.fact 66 rfl)),
    (He.free_ok X G (c.d.fact 67 rfl)),
    (He.cls_ok (c.d.fact 68 rfl)),
    (He.cls_ok (c.d.fact 69 rfl)),
    (He.cls_ok (c.d.fact 70 rfl)),
    (He.cls_ok (c.d.fact 71 rfl)),
    (He.noat_ok (c.d.fact 72 rfl)),
    (He.noat_ok (c.d.fact 73 rfl)),
    (He.noat_ok (c.d.fact 74 rfl)),
    (He.noat_ok (c.d.fact 75 rfl)),
    (He.noat_ok (c.d.fact 76 rfl)),
    (He.noat_ok (c.d.fact 77 rfl)),
    (He.noat_ok (c.d.fact 78 rfl)),
    (He.noat_ok (c.d.fact 79 rfl)),
    (He.noat_ok (c.d.fact 80 rfl)),
    (He.noat_ok (c.d.fact 81 rfl)),
    (He.noat_ok (c.d.fact 82 rfl)),
    (He.noat_ok (c.d.fact 83 rfl)),
    (He.meth_ok (c.d.fact 84 rfl)),
    (He.meth_ok (c.d.fact 85 rfl)),
    (He.meth_ok (c.d.fact 86 rfl)),
    (He.mkr_ok (c.d.fact 87 rfl)),
    (He.mkr_ok (c.d.fact 88 rfl)),
    (He.mkr_ok (c.d.fact 89 rfl)),
    (He.mkr_ok (c.d.fact 90 rfl)),
    (tup_kt e0),
    (tup_kt e1),
    (tup_kt e2),
    (tup_kt e3),
    (tup_kt e4),
    (tup_kt e5),
    (tup_kt e6),
    (tup_kt e7),
    (tup_kt e8),
    (tab_CHANGES (c.tab 0 rfl) e9),
    (isi_tab e10),
    (Mo.cread_of e12),
    ⟨_, He5.cmet_of e13 e14⟩,
    (oex_of e15),
    (exci_of eP.2.1 e16),
    (of_decide_eq_true e17),
    (oex_of e18),
    (exci_of eP.2.2 e19),
    (of_decide_eq_true e20)⟩
  exact ⟨D49, fun s v => FunD.bindsA (ps := ["_law_script"]) F49 (fun _ _ _ _ _ _ us hl => match us, hl with | [_], _ => rfl) s [v] rfl, fun base _ _ => (ok_law hP T).imp (spLaw_of pure_law)⟩
end
end Lw
namespace Lw
open PySem PySem.W PySem.Calls PyProof.Rows L2 Mo
theorem exP_of {w : World} {K : PySem.W.Frag} (c : SaysM faL fnL tsL exL psL vsL w K) : exP K := ⟨fnA_ofN (c.at 0), fnC_ofN (c.at 1), fnC_ofN (c.at 2)⟩
theorem obL_eq (s : PySem.W.SharedT) : obL s = hkL.obs s.abs := obsM_eq s
theorem runF (w : World) : HandSHeadRun.RunEq rowL viewL hkL obL 9500 nmL (w.withFollow "special-get-raises" false) := run_two (runF1 w) (runF2 w)
theorem runT (w : World) : HandSHeadRun.RunEq rowL viewL hkL obL 9500 nmL (w.withFollow "special-get-raises" true) := run_two (runT1 w) (runT2 w)
theorem runA (w : World) : HandSHeadRun.RunEq rowL viewL hkL obL 9500 nmL w := by
  have e := World.withFollow_self w "special-get-raises"
  rw [← e]
  generalize w.params.followText "special-get-raises" = b
  cases b
  · exact runF w
  · exact runT w
end Lw
open PySem PySem.W PySem.Calls PyProof.Rows in
set_option maxRecDepth 100000 in
set_option maxHeartbeats 0 in
theorem PySem.Challenge.cw_lanesdealt_k43_whole_weakest_books_holds : PySem.Challenge.rw_lanesdealt_k43_whole_weakest_books.Holds := by
  w_on; o_law
  refine HandSHeadRun.head_any (r := OpenLaw.row PySem.Challenge.rw_lanesdealt_k43_whole_weakest_books) (q := Lw.viewL) (H := Lw.hkL) (ob := Lw.obL) (M := 9500) (loose := Lw.nmL) (d := HandSHeadRun.topDef Lw.rowL.prog 65) (kwd := []) Lw.obL_eq
    (by kernel_rfl) (fun s => by kernel_rfl) Lw.runA (by kernel_rfl) (by kernel_rfl) (by kernel_rfl) (by rfl) (by first | assumption | decide +kernel) (by decide +kernel) ⟨rfl, rfl, rfl, rfl, rfl, by decide +kernel⟩ ?hw ?hc
  case hw => w_witness2
  case hc =>
    refine Mo.law_walkE (l := PySem.Challenge.rw_lanesdealt_k43_whole_weakest_books) (k := 9) (by decide) rfl (by kernel_rfl) ?F
    intro w mg fa h Y G hmg0
    obtain ⟨K, KX, c⟩ := Y
    have hmg : mg ("law" : PySem.Str) = some (.ref fa) := by
      have e : (HandSHeadRun.topDef Lw.rowL.prog 65).name = ("law" : PySem.Str) := by kernel_rfl
      rw [← e]
      exact hmg0
    exact ⟨K, KX, Lw.all_mk KX G hmg c.t c.e (Lw.exP_of c) ⟨rfl, rfl⟩⟩
